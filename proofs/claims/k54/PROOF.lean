import PyProof.Rows.All
import Wide.All
import OpenK.AllK
import Wide.FinOn
import HandS.ForMost
import HandS.ForExc
import HandS.TryMany
import HandS.TupAny
import HandS.TupMul
import HandS.Style
import HandS.Lambda
import HandS.SortInts
import HandS.Iter
import KE.GoesEnum
import HandS.IsInst
import HandS.Codes
import HandS.Conv
import HandS.ExcOwn
import HandS.NamedTupGet
import PySem.Challenge.RW_fallbackpools_k54_whole_more_room_and_re
set_option Elab.async false
set_option linter.all false
set_option maxRecDepth 100000
namespace FB
open PySem (Str CmpOp Operator)

/-! ### values as trees -/
inductive D where
  | non | bl (b : Bool) | int (i : Int) | str (s : Str)
  | lst (xs : List D) | tup (xs : List D) | dct (kvs : List (D × D)) | set (xs : List Int) | obj (c : Nat) (fs : List (Str × D))
  deriving Inhabited

mutual
def D.eqv : D → D → Bool
  | .non, .non => true
  | .bl a, .bl b => a == b
  | .bl a, .int j => (if a then 1 else 0) == j
  | .int i, .bl b => i == (if b then 1 else 0)
  | .int i, .int j => i == j
  | .str a, .str b => a == b
  | .lst a, .lst b => D.eqvs a b
  | .tup a, .tup b => D.eqvs a b
  | _, _ => false
def D.eqvs : List D → List D → Bool
  | [], [] => true
  | x :: xs, y :: ys => D.eqv x y && D.eqvs xs ys
  | _, _ => false
end
mutual
/-- plain data of at most so much depth: none, boolsD, intsD, texts, lists, tuples -/
def D.lay : Nat → D → Bool
  | _, .non => true
  | _, .bl _ => true
  | _, .int _ => true
  | _, .str s => s.cps.all (· < 0x110000)
  | n + 1, .lst xs => D.lays n xs
  | n + 1, .tup xs => D.lays n xs
  | _, _ => false
def D.lays : Nat → List D → Bool
  | _, [] => true
  | n, x :: xs => D.lay n x && D.lays n xs
end
/-- x == y -/
def D.pyEq (a b : D) : Option Bool := if D.lay 9 a && D.lay 9 b then some (D.eqv a b) else none
def D.flat : D → Bool
  | .non => true | .bl _ => true | .int _ => true | .str _ => true | _ => false

def SZ : Nat := 16777216

/-! ### the small syntax -/
inductive Ty where
  | int | bool | list | tuple | str | cls (c : Nat)
  deriving DecidableEq
inductive Blt where
  | len | max2 | min2 | maxL | minL | sum | sorted | tuple | list | int | abs | all | set0 | setOf | reprV
  deriving DecidableEq
inductive Mth where
  | append | pop0 | pop1 | extend | clear | index | count | items | add
  deriving DecidableEq
inductive Tg where
  | name (i : Nat) | tup (is : List Nat)

mutual
inductive Ex where
  | var (i : Nat)
  | lit (d : D)
  | glb (x : Str) (i : Int)
  | bin (op : Operator) (a b : Ex)
  | neg (a : Ex)
  | cmp (op : CmpOp) (a b : Ex)
  | chain (op op' : CmpOp) (a b c : Ex)
  | not (a : Ex)
  | and (a b : Ex)
  | or (a b : Ex)
  | ife (t a b : Ex)
  | lstD (es : Exs)
  | tupD (es : Exs)
  | dct0
  | dct1 (k v : Ex)
  | idx (a b : Ex)
  | slc (a : Ex) (lo hi : Opt)
  | rev (a : Ex)
  | fld (a : Ex) (f : Str)
  | blt (b : Blt) (es : Exs)
  | isi (a : Ex) (t : Ty)
  | listR (it : It)
  | call (f : Nat) (snap : Bool) (es : Exs)
  | callK (f : Nat) (es : Exs) (ks : List Str) (kes : Exs) (perm : List Nat)
  | meth (f : Nat) (m : Str) (o : Ex) (es : Exs)
  | make (c : Nat) (es : Exs)
  | mth (m : Mth) (o : Ex) (es : Exs)
  | comp (elt : Ex) (vs : List Nat) (tg : Tg) (it : It) (ifs : Exs)
inductive Exs where
  | nil | cons (e : Ex) (es : Exs)
inductive Opt where
  | none | some (e : Ex)
inductive It where
  | val (e : Ex) | rng1 (a : Ex) | rng2 (a b : Ex) | rng3 (a b c : Ex) | enum (a : Ex) | zip (a b : Ex)
end
mutual
inductive Stm where
  | expr (e : Ex)
  | asg (own : Bool) (i : Nat) (e : Ex)
  | asgT (is : List Nat) (e : Ex)
  | par (i j : Nat) (oi oj : Bool) (a b : Ex)
  | setI (o : Nat) (i e : Ex)
  | aug (i : Nat) (op : Operator) (e : Ex)
  | augI (o : Nat) (i : Ex) (op : Operator) (e : Ex)
  | fldS (o : Nat) (f : Str) (e : Ex)
  | ret (e : Ex)
  | retN
  | ife (c : Ex) (a b : Stms)
  | for (tg : Tg) (it : It) (b : Stms)
  | whl (c : Ex) (b : Stms)
  | brk | cont | pass
  | raise (c : Nat) (es : Exs)
inductive Stms where
  | nil | cons (s : Stm) (ss : Stms)
end

/-! ### states and answers -/
structure Slot where
  own : Bool
  d : D
abbrev Env := List (Option Slot)
inductive Val where
  | imm (d : D) | frs (d : D) | vr (i : Nat)
inductive R (α : Type) where
  | ok (a : α) (ρ : Env)
  | exc (c : Nat) (fs : List D) (ρ : Env)
  | stuck
inductive SR where
  | next (ρ : Env) | brk (ρ : Env) | cont (ρ : Env) | ret (fr : Bool) (d : D) (ρ : Env)
  | exc (c : Nat) (fs : List D) (ρ : Env)
  | stuck
inductive FR where
  | ok (fr : Bool) (d : D) (outs : List D)
  | exc (c : Nat) (fs : List D) (outs : List D)
  | stuck

@[simp] def R.bind {α β : Type} : R α → (α → Env → R β) → R β
  | .ok a ρ, f => f a ρ
  | .exc c fs ρ, _ => .exc c fs ρ
  | .stuck, _ => .stuck
@[simp] def R.thn {α : Type} : R α → (α → Env → SR) → SR
  | .ok a ρ, f => f a ρ
  | .exc c fs ρ, _ => .exc c fs ρ
  | .stuck, _ => .stuck
@[simp] def SR.thn : SR → (Env → SR) → SR
  | .next ρ, f => f ρ
  | r, _ => r
@[simp] def opt {α β : Type} (o : Option α) (f : α → R β) : R β := match o with | some a => f a | none => .stuck
@[simp] def optS {α : Type} (o : Option α) (f : α → SR) : SR := match o with | some a => f a | none => .stuck

def slotD (ρ : Env) (i : Nat) : Option D := match ρ[i]? with | some (some s) => some s.d | _ => none
def ownD (ρ : Env) (i : Nat) : Option D := match ρ[i]? with | some (some ⟨true, d⟩) => some d | _ => none
def rd (ρ : Env) : Val → Option D
  | .imm d => some d
  | .frs d => some d
  | .vr i => slotD ρ i
/-- a value as an operand: a fresh one is not kept apart -/
def stl : Val → Val
  | .frs d => .imm d
  | v => v
/-- the value made plain (an owned slot is frozen) -/
def fz (ρ : Env) : Val → Option (D × Env)
  | .imm d => some (d, ρ)
  | .frs d => some (d, ρ)
  | .vr i => match ρ[i]? with
    | some (some ⟨true, d⟩) => some (d, ρ.set i (some ⟨false, d⟩))
    | some (some ⟨false, d⟩) => some (d, ρ)
    | _ => none
def varV (ρ : Env) (i : Nat) : Option Val := match ρ[i]? with
  | some (some ⟨true, _⟩) => some (.vr i)
  | some (some ⟨false, d⟩) => some (.imm d)
  | _ => none
def mkV (r : Bool × D) : Val := if r.1 then .frs r.2 else .imm r.2

/-! ### operations on values -/
def binop : Operator → D → D → Option (Bool × D)
  | .Add, .int i, .int j => some (false, .int (i + j))
  | .Add, .lst a, .lst b => if a.length + b.length ≤ SZ then some (true, .lst (a ++ b)) else none
  | .Add, .tup a, .tup b => if a.length + b.length ≤ SZ then some (false, .tup (a ++ b)) else none
  | .Sub, .int i, .int j => some (false, .int (i - j))
  | .Mult, .int i, .int j => if (-(2 ^ 64) < i ∧ i < 2 ^ 64) ∨ (-(2 ^ 64) < j ∧ j < 2 ^ 64) then some (false, .int (i * j)) else none
  | .Mult, .lst a, .int k => if -(2 ^ 63) ≤ k ∧ k < 2 ^ 63 ∧ a.length * k.toNat ≤ SZ then some (true, .lst (List.replicate k.toNat a).flatten) else none
  | .Mult, .tup a, .int k => if a.length = 1 ∧ -(2 ^ 63) ≤ k ∧ k ≤ 1000 then some (false, .tup (List.replicate k.toNat a).flatten) else none
  | .FloorDiv, .int i, .int j => if 0 < j ∧ j < 1073741824 then some (false, .int (i / j)) else none
  | .Mod, .int i, .int j => if 0 < j then some (false, .int (i % j)) else none
  | .Pow, .int i, .int j => if 0 ≤ j ∧ j ≤ 1000000 ∧ i.natAbs < 2 ^ 64 then some (false, .int (i ^ j.toNat)) else none
  | _, _, _ => none
def isin (x : D) : List D → Bool
  | [] => false
  | y :: ys => D.eqv y x || isin x ys
def memD (x : D) : D → Option Bool
  | .lst xs => if D.lay 8 x && D.lays 8 xs then some (isin x xs) else none
  | .tup xs => if D.lay 8 x && D.lays 8 xs then some (isin x xs) else none
  | _ => none
def D.isNon : D → Bool
  | .non => true
  | _ => false
def cmpop : CmpOp → D → D → Option Bool
  | .Eq, a, b => D.pyEq a b
  | .NotEq, a, b => (D.pyEq a b).map (!·)
  | .Lt, .int i, .int j => some (decide (i < j))
  | .LtE, .int i, .int j => some (decide (i ≤ j))
  | .Gt, .int i, .int j => some (decide (j < i))
  | .GtE, .int i, .int j => some (decide (j ≤ i))
  | .Is, a, .non => some a.isNon
  | .IsNot, a, .non => some (!a.isNon)
  | .In, a, b => memD a b
  | .NotIn, a, b => (memD a b).map (!·)
  | _, _, _ => none
def ixN (n : Nat) (i : Int) : Option Nat := if 0 ≤ i then (if i < n then some i.toNat else none) else if -(n : Int) ≤ i then some (i + n).toNat else none
def atI {α : Type} (xs : List α) (i : Int) : Option α := (ixN xs.length i).bind fun j => xs[j]?
def idxD : D → D → Option D
  | .lst xs, .int i => atI xs i
  | .tup xs, .int i => atI xs i
  | _, _ => none
def sIx (n d : Nat) : Option Int → Nat
  | none => d
  | some v => if v < 0 then (v + (n : Int)).toNat else min v.toNat n
def cutD {α : Type} (xs : List α) (lo hi : Option Int) : List α := (xs.drop (sIx xs.length 0 lo)).take (sIx xs.length xs.length hi - sIx xs.length 0 lo)
def slcD : D → Option Int → Option Int → Option (Bool × D)
  | .lst xs, lo, hi => some (true, .lst (cutD xs lo hi))
  | .tup xs, lo, hi => some (false, .tup (cutD xs lo hi))
  | _, _, _ => none
def revD : D → Option (Bool × D)
  | .lst xs => some (true, .lst xs.reverse)
  | _ => none
def lookF (f : Str) : List (Str × D) → Option D
  | [] => none
  | (g, d) :: r => if f = g then some d else lookF f r
def putF (f : Str) (d : D) : List (Str × D) → List (Str × D)
  | [] => [(f, d)]
  | (g, x) :: r => if g = f then (g, d) :: r else (g, x) :: putF f d r
def fldD (f : Str) : D → Option D
  | .obj c fs => if c = 0 then lookF f fs else none
  | _ => none
def isiD : D → Ty → Option Bool
  | .obj c _, .cls c' => if c = 0 ∧ c' = 0 then some true else none
  | _, .cls _ => none
  | .non, _ => some false
  | .bl _, .int => some true
  | .bl _, .bool => some true
  | .bl _, _ => some false
  | .int _, .int => some true
  | .int _, _ => some false
  | .str _, .str => some true
  | .str _, _ => some false
  | .lst _, .list => some true
  | .lst _, _ => some false
  | .tup _, .tuple => some true
  | .tup _, _ => some false
  | .dct _, _ => some false
  | .obj c _, _ => if c = 0 then some false else none
  | _, _ => none
def isiT (d : D) : Ty → Option Bool
  | .cls c' => if c' = 0 then isiD d (.cls c') else none
  | t => isiD d t
def intsD : List D → Option (List Int)
  | [] => some []
  | .int i :: r => (intsD r).map (i :: ·)
  | _ :: _ => none
def boolsD : List D → Option (List Bool)
  | [] => some []
  | .bl i :: r => (boolsD r).map (i :: ·)
  | _ :: _ => none
def insI (x : Int) : List Int → List Int
  | [] => [x]
  | y :: r => if x ≤ y then x :: y :: r else y :: insI x r
def sortI : List Int → List Int
  | [] => []
  | x :: r => insI x (sortI r)
def maxI (x : Int) : List Int → Int
  | [] => x
  | y :: r => maxI (if x < y then y else x) r
def minI (x : Int) : List Int → Int
  | [] => x
  | y :: r => minI (if y < x then y else x) r
def bltD : Blt → List D → Option (Bool × D)
  | .len, [.lst xs] => some (false, .int xs.length)
  | .len, [.tup xs] => some (false, .int xs.length)
  | .max2, [.int i, .int j] => some (false, .int (if j > i then j else i))
  | .min2, [.int i, .int j] => some (false, .int (if j < i then j else i))
  | .maxL, [.lst xs] => match intsD xs with
    | some (i :: r) => some (false, .int (maxI i r))
    | _ => none
  | .minL, [.lst xs] => match intsD xs with
    | some (i :: r) => some (false, .int (minI i r))
    | _ => none
  | .sum, [.lst xs] => match intsD xs with
    | some is => some (false, .int is.sum)
    | _ => none
  | .sorted, [.lst xs] => match intsD xs with
    | some is => some (true, .lst ((sortI is).map .int))
    | _ => none
  | .tuple, [.lst xs] => some (false, .tup xs)
  | .tuple, [.tup xs] => some (false, .tup xs)
  | .list, [.lst xs] => some (true, .lst xs)
  | .list, [.tup xs] => some (true, .lst xs)
  | .int, [.int i] => some (false, .int i)
  | .int, [.bl b] => some (false, .int (if b then 1 else 0))
  | .abs, [.int i] => some (false, .int (if i < 0 then -i else i))
  | .all, [.lst xs] => match boolsD xs with
    | some bs => some (false, .bl (bs.all id))
    | _ => none
  | _, _ => none
/-- the first place of an equal item -/
def idxOf (x : D) : Nat → List D → Option Nat
  | _, [] => none
  | k, y :: ys => if D.eqv y x then some k else idxOf x (k + 1) ys
/-- a method that changes its list: the answer, and the list behind it -/
def mthD : Mth → List D → List D → Option (D × List D)
  | .append, xs, [y] => if xs.length < SZ then some (.non, xs ++ [y]) else none
  | .pop0, xs, [] => match xs[xs.length - 1]? with
    | some y => some (y, xs.dropLast)
    | none => none
  | .pop1, xs, [.int i] => match ixN xs.length i with
    | some k => match xs[k]? with
      | some y => some (y, xs.eraseIdx k)
      | none => none
    | none => none
  | .clear, _, [] => some (.non, [])
  | .extend, xs, [.lst ys] => if xs.length + ys.length ≤ SZ then some (.non, xs ++ ys) else none
  | _, _, _ => none
/-- a method that only looks -/
def mthR : Mth → D → List D → Option D
  | .index, .lst xs, [y] => if y.flat && xs.all D.flat then (match idxOf y 0 xs with | some k => some (.int (Int.ofNat k)) | none => none) else none
  | _, _, _ => none
def Mth.look : Mth → Bool
  | .index => true | .count => true | _ => false
def isL : Option D → Bool
  | some (.lst _) => true
  | _ => false
def methOk (m : Str) : D → Bool
  | .obj 0 fs => (lookF m fs).isNone
  | _ => false
def rangeL (lo : Int) : Nat → List D
  | 0 => []
  | n + 1 => .int lo :: rangeL (lo + 1) n
def rangeC (lo c : Int) : Nat → List D
  | 0 => []
  | n + 1 => .int lo :: rangeC (lo + c) c n
def enumL (k : Int) : List D → List D
  | [] => []
  | x :: xs => .tup [.int k, x] :: enumL (k + 1) xs
def zipL : List D → List D → List D
  | x :: xs, y :: ys => .tup [x, y] :: zipL xs ys
  | _, _ => []
def items : D → Option (List D)
  | .lst xs => some xs
  | .tup xs => some xs
  | _ => none
def lenO : Blt → List Val → Option (Nat × List (Str × D))
  | .len, [.imm (.obj c fs)] => some (c, fs)
  | _, _ => none
def small (i : Int) : Bool := decide (-(2 ^ 62) ≤ i) && decide (i < 2 ^ 62)

/-! ### defs -/
structure FDef where
  raw : List Bool
  slots : Nat
  body : Stms
structure Cfg where
  /-- the defs: for each whether its parameters are in-out -/
  raws : Nat → Option (List Bool)
  /-- the class's init, its fields' names -/
  init : Nat → Option Nat
  fields : Nat → Option (List Str)
  /-- len of an instance, equality of instances: defs -/
  lenF : Nat → Option Nat
  fuel : Nat
abbrev Oracle := Nat → List D → FR

def setTg (ρ : Env) : Tg → D → Option Env
  | .name i, d => some (ρ.set i (some ⟨false, d⟩))
  | .tup is, .tup xs => if is.length = xs.length then some ((is.zip xs).foldl (fun ρ p => ρ.set p.1 (some ⟨false, p.2⟩)) ρ) else none
  | .tup _, _ => none
def wipeE (ρ : Env) : List Nat → Env
  | [] => ρ
  | v :: vs => (wipeE ρ vs).set v none
/-- behind a comprehension its own names are as before -/
def backE (ρ0 ρ : Env) : List Nat → Env
  | [] => ρ
  | v :: vs => (backE ρ0 ρ vs).set v (ρ0[v]?.getD none)

/-- for: the body over the items -/
def forLoop (body : D → Env → SR) : List D → Env → SR
  | [], ρ => .next ρ
  | d :: ds, ρ => match body d ρ with
    | .next ρ' => forLoop body ds ρ'
    | .cont ρ' => forLoop body ds ρ'
    | .brk ρ' => .next ρ'
    | .ret fr v ρ' => .ret fr v ρ'
    | .exc c fs ρ' => .exc c fs ρ'
    | .stuck => .stuck
def whileLoop (test : Env → R Bool) (body : Env → SR) : Nat → Env → SR
  | 0, _ => .stuck
  | n + 1, ρ => match test ρ with
    | .ok true ρ1 => match body ρ1 with
      | .next ρ' => whileLoop test body n ρ'
      | .cont ρ' => whileLoop test body n ρ'
      | .brk ρ' => .next ρ'
      | .ret fr v ρ' => .ret fr v ρ'
      | .exc c fs ρ' => .exc c fs ρ'
      | .stuck => .stuck
    | .ok false ρ1 => .next ρ1
    | .exc c fs ρ' => .exc c fs ρ'
    | .stuck => .stuck
/-- a comprehension: the items that pass, in order -/
def compLoop (turn : D → Env → R (Option D)) : List D → Env → R (List D)
  | [], ρ => .ok [] ρ
  | d :: ds, ρ => match turn d ρ with
    | .ok none ρ1 => compLoop turn ds ρ1
    | .ok (some y) ρ1 => (compLoop turn ds ρ1).bind fun ys ρ2 => .ok (y :: ys) ρ2
    | .exc _ _ _ => .stuck
    | .stuck => .stuck

/-! ### calls -/
/-- the arguments as they are handed over: contents, and (for in-out ones) where they came from -/
inductive AV where
  | plain (d : D)
  | slot (i : Nat) (d : D)
  | temp (d : D)
def AV.d : AV → D
  | .plain d => d
  | .slot _ d => d
  | .temp d => d
/-- what comes back goes to its slots -/
def putOuts : List AV → List D → Env → Option Env
  | [], [], ρ => some ρ
  | .plain _ :: r, os, ρ => putOuts r os ρ
  | .slot i _ :: r, o :: os, ρ => putOuts r os (ρ.set i (some ⟨true, o⟩))
  | .temp _ :: r, _ :: os, ρ => putOuts r os ρ
  | _, _, _ => none
def slotsOf : List AV → List Nat
  | [] => []
  | .slot i _ :: r => i :: slotsOf r
  | _ :: r => slotsOf r
def D.flats (d : D) : Bool := match d with
  | .lst xs => xs.all D.flat
  | _ => false

/-- the call, behind its arguments -/
def callA (Φ : Oracle) (f : Nat) (as : List AV) (ρ : Env) : R Val :=
  if (slotsOf as).Nodup then (match Φ f (as.map AV.d) with
    | .ok fr d outs => opt (putOuts as outs ρ) fun ρ' => .ok (mkV (fr, d)) ρ'
    | .exc c fs outs => opt (putOuts as outs ρ) fun ρ' => .exc c fs ρ'
    | .stuck => .stuck)
  else .stuck

mutual
def evE (C : Cfg) (Φ : Oracle) : Ex → Env → R Val
  | .var i, ρ => opt (varV ρ i) fun v => .ok v ρ
  | .lit d, ρ => .ok (.imm d) ρ
  | .glb _ i, ρ => .ok (.imm (.int i)) ρ
  | .bin op a b, ρ => (evE C Φ a ρ).bind fun va ρ1 => (evE C Φ b ρ1).bind fun vb ρ2 =>
      opt (rd ρ2 va) fun x => opt (rd ρ2 vb) fun y => opt (binop op x y) fun r => .ok (mkV r) ρ2
  | .neg a, ρ => (evE C Φ a ρ).bind fun va ρ1 => match rd ρ1 va with
      | some (.int i) => .ok (.imm (.int (-i))) ρ1
      | _ => .stuck
  | .cmp op a b, ρ => (evE C Φ a ρ).bind fun va ρ1 => (evE C Φ b ρ1).bind fun vb ρ2 =>
      opt (rd ρ2 va) fun x => opt (rd ρ2 vb) fun y => opt (cmpop op x y) fun r => .ok (.imm (.bl r)) ρ2
  | .chain op op' a b c, ρ => (evE C Φ a ρ).bind fun va ρ1 => (evE C Φ b ρ1).bind fun vb ρ2 =>
      opt (rd ρ2 va) fun x => opt (rd ρ2 vb) fun y => opt (cmpop op x y) fun r =>
        if r then (evE C Φ c ρ2).bind fun vc ρ3 => opt (rd ρ3 vb) fun y => opt (rd ρ3 vc) fun z => opt (cmpop op' y z) fun r' => .ok (.imm (.bl r')) ρ3
        else .ok (.imm (.bl false)) ρ2
  | .not a, ρ => (evE C Φ a ρ).bind fun va ρ1 => match va with
      | .imm (.bl b) => .ok (.imm (.bl (!b))) ρ1
      | _ => .stuck
  | .and a b, ρ => (evE C Φ a ρ).bind fun va ρ1 => match va with
      | .imm (.bl true) => evE C Φ b ρ1
      | .imm (.bl false) => .ok (.imm (.bl false)) ρ1
      | _ => .stuck
  | .or a b, ρ => (evE C Φ a ρ).bind fun va ρ1 => match va with
      | .imm (.bl true) => .ok (.imm (.bl true)) ρ1
      | .imm (.bl false) => evE C Φ b ρ1
      | _ => .stuck
  | .ife t a b, ρ => (evE C Φ t ρ).bind fun v ρ1 => match v with
      | .imm (.bl true) => evE C Φ a ρ1
      | .imm (.bl false) => evE C Φ b ρ1
      | _ => .stuck
  | .lstD es, ρ => (evL C Φ es ρ).bind fun ds ρ1 => .ok (.frs (.lst ds)) ρ1
  | .tupD es, ρ => (evL C Φ es ρ).bind fun ds ρ1 => .ok (.imm (.tup ds)) ρ1
  | .dct0, ρ => .ok (.frs (.dct [])) ρ
  | .dct1 k v, ρ => (evE C Φ k ρ).bind fun vk ρ1 => opt (fz ρ1 vk) fun (dk, ρ1) => (evE C Φ v ρ1).bind fun vv ρ2 => opt (fz ρ2 vv) fun (dv, ρ2) => .ok (.frs (.dct [(dk, dv)])) ρ2
  | .idx a b, ρ => (evE C Φ a ρ).bind fun va ρ1 => (evE C Φ b ρ1).bind fun vb ρ2 =>
      opt (rd ρ2 va) fun x => opt (rd ρ2 vb) fun y => opt (idxD x y) fun r => .ok (.imm r) ρ2
  | .slc a lo hi, ρ => (evE C Φ a ρ).bind fun va ρ1 => (evO C Φ lo ρ1).bind fun l ρ2 => (evO C Φ hi ρ2).bind fun h ρ3 =>
      opt (rd ρ3 va) fun x => opt (slcD x l h) fun r => .ok (mkV r) ρ3
  | .rev a, ρ => (evE C Φ a ρ).bind fun va ρ1 => opt (rd ρ1 va) fun x => opt (revD x) fun r => .ok (mkV r) ρ1
  | .fld a f, ρ => (evE C Φ a ρ).bind fun va ρ1 => opt (rd ρ1 va) fun x => opt (fldD f x) fun r => .ok (.imm r) ρ1
  | .blt b es, ρ => (evV C Φ es ρ).bind fun vs ρ1 => (match lenO b vs with
      | some (c, fs) => opt (C.lenF c) fun f => (match Φ f [.obj c fs] with
        | .ok _ (.int i) [] => if 0 ≤ i ∧ i < 1000000 then .ok (.imm (.int i)) ρ1 else .stuck
        | _ => .stuck)
      | none => opt (vs.mapM (rd ρ1)) fun ds => opt (bltD b ds) fun r => .ok (mkV r) ρ1)
  | .isi a t, ρ => (evE C Φ a ρ).bind fun va ρ1 => opt (rd ρ1 va) fun x => opt (isiT x t) fun r => .ok (.imm (.bl r)) ρ1
  | .listR it, ρ => (evI C Φ it ρ).bind fun ds ρ1 => if ds.length ≤ SZ then .ok (.frs (.lst ds)) ρ1 else .stuck
  | .call f snap es, ρ => opt (C.raws f) fun ms => if snap then
        (evV C Φ es ρ).bind fun vs ρ1 => opt (vs.mapM (rd ρ1)) fun ds => if ms = List.replicate ds.length false then (match Φ f ds with
          | .ok fr d [] => if d.flat then .ok (.imm d) ρ1 else if fr && d.flats then .ok (.frs d) ρ1 else .stuck
          | _ => .stuck)
          else .stuck
      else (evA C Φ ms es ρ).bind fun as ρ1 => callA Φ f as ρ1
  | .callK f es ks kes perm, ρ => opt (C.raws f) fun ms => (evL C Φ es ρ).bind fun ds ρ1 => (evL C Φ kes ρ1).bind fun zs ρ2 =>
      if ms.any id then .stuck else
      opt (perm.mapM fun k => (ds ++ zs)[k]?) fun ws => callA Φ f (ws.map .plain) ρ2
  | .meth f m o es, ρ => opt (C.raws f) fun ms => (evE C Φ o ρ).bind fun vo ρ1 => opt (fz ρ1 vo) fun (dO, ρ1) => if methOk m dO then (evL C Φ es ρ1).bind fun ds ρ2 =>
      if ms = List.replicate (ds.length + 1) false then callA Φ f (.plain dO :: ds.map .plain) ρ2 else .stuck
      else .stuck
  | .make c es, ρ => opt (C.init c) fun f => opt (C.raws f) fun ms => (evL C Φ es ρ).bind fun ds ρ1 => if ms = true :: List.replicate ds.length false then (match Φ f (.obj c [] :: ds) with
      | .ok false .non [o] => .ok (.imm o) ρ1
      | .exc c' fs [_] => .exc c' fs ρ1
      | _ => .stuck)
      else .stuck
  | .mth m o es, ρ => (evE C Φ o ρ).bind fun vo ρ1 => if isL (rd ρ1 vo) then (evL C Φ es ρ1).bind fun ds ρ2 => (if m.look then
        opt (rd ρ2 vo) fun x => opt (mthR m x ds) fun r => .ok (.imm r) ρ2
      else (match vo with
        | .vr i => (match ownD ρ2 i with
          | some (.lst xs) => opt (mthD m xs ds) fun (r, ys) => .ok (.imm r) (ρ2.set i (some ⟨true, .lst ys⟩))
          | _ => .stuck)
        | .frs (.lst xs) => opt (mthD m xs ds) fun (r, _) => .ok (.imm r) ρ2
        | _ => .stuck))
      else .stuck
  | .comp elt vs tg it ifs, ρ => (evI C Φ it ρ).bind fun ds ρ1 =>
      (compLoop (fun d ρ => opt (setTg ρ tg d) fun ρ => (evTs C Φ ifs ρ).bind fun b ρ =>
        if b then (evE C Φ elt ρ).bind fun v ρ => opt (fz ρ v) fun (y, ρ) => .ok (some y) (wipeE ρ vs) else .ok none (wipeE ρ vs)) ds (wipeE ρ1 vs)).bind fun ys ρ2 =>
      if ys.length ≤ SZ then .ok (.frs (.lst ys)) (backE ρ1 ρ2 vs) else .stuck
/-- several tests in a row -/
def evTs (C : Cfg) (Φ : Oracle) : Exs → Env → R Bool
  | .nil, ρ => .ok true ρ
  | .cons e es, ρ => (evE C Φ e ρ).bind fun v ρ1 => match v with
      | .imm (.bl true) => evTs C Φ es ρ1
      | .imm (.bl false) => .ok false ρ1
      | _ => .stuck
/-- displays' items, plain arguments -/
def evL (C : Cfg) (Φ : Oracle) : Exs → Env → R (List D)
  | .nil, ρ => .ok [] ρ
  | .cons e es, ρ => (evE C Φ e ρ).bind fun v ρ1 => opt (fz ρ1 v) fun (d, ρ2) => (evL C Φ es ρ2).bind fun ds ρ3 => .ok (d :: ds) ρ3
/-- arguments that are only read at once -/
def evV (C : Cfg) (Φ : Oracle) : Exs → Env → R (List Val)
  | .nil, ρ => .ok [] ρ
  | .cons e es, ρ => (evE C Φ e ρ).bind fun v ρ1 => (evV C Φ es ρ1).bind fun vs ρ2 => .ok (stl v :: vs) ρ2
/-- arguments by the def's modes -/
def evA (C : Cfg) (Φ : Oracle) : List Bool → Exs → Env → R (List AV)
  | [], .nil, ρ => .ok [] ρ
  | true :: ms, .cons e es, ρ => (evE C Φ e ρ).bind fun v ρ1 => (match v with
      | .vr i => (evA C Φ ms es ρ1).bind fun as ρ2 => opt (ownD ρ2 i) fun d => .ok (.slot i d :: as) ρ2
      | .frs d => (evA C Φ ms es ρ1).bind fun as ρ2 => .ok (.temp d :: as) ρ2
      | .imm _ => .stuck)
  | false :: ms, .cons e es, ρ => (evE C Φ e ρ).bind fun v ρ1 => opt (fz ρ1 v) fun (d, ρ2) => (evA C Φ ms es ρ2).bind fun as ρ3 => .ok (.plain d :: as) ρ3
  | _, _, _ => .stuck
def evO (C : Cfg) (Φ : Oracle) : Opt → Env → R (Option Int)
  | .none, ρ => .ok none ρ
  | .some e, ρ => (evE C Φ e ρ).bind fun v ρ1 => match v with
      | .imm (.int i) => .ok (some i) ρ1
      | _ => .stuck
/-- what is walked -/
def evI (C : Cfg) (Φ : Oracle) : It → Env → R (List D)
  | .val e, ρ => (evE C Φ e ρ).bind fun v ρ1 => opt (fz ρ1 v) fun (d, ρ2) => opt (items d) fun ds => .ok ds ρ2
  | .rng1 a, ρ => (evE C Φ a ρ).bind fun v ρ1 => (match v with
      | .imm (.int j) => if small j then .ok (rangeL 0 j.toNat) ρ1 else .stuck
      | _ => .stuck)
  | .rng2 a b, ρ => (evE C Φ a ρ).bind fun v ρ1 => (evE C Φ b ρ1).bind fun w ρ2 => (match v, w with
      | .imm (.int i), .imm (.int j) => if small i && small j then .ok (rangeL i (j - i).toNat) ρ2 else .stuck
      | _, _ => .stuck)
  | .rng3 a b c, ρ => (evE C Φ a ρ).bind fun v ρ1 => (evE C Φ b ρ1).bind fun w ρ2 => (evE C Φ c ρ2).bind fun u ρ3 => (match v, w, u with
      | .imm (.int i), .imm (.int j), .imm (.int k) => if small i && small j && (k == -1) then .ok (rangeC i (-1) (i - j).toNat) ρ3 else .stuck
      | _, _, _ => .stuck)
  | .enum a, ρ => (evE C Φ a ρ).bind fun v ρ1 => opt (fz ρ1 v) fun (d, ρ2) => opt (items d) fun ds => .ok (enumL 0 ds) ρ2
  | .zip a b, ρ => (evE C Φ a ρ).bind fun v ρ1 => opt (fz ρ1 v) fun (d, ρ2) => (evE C Φ b ρ2).bind fun w ρ3 => opt (fz ρ3 w) fun (d', ρ4) =>
      opt (items d) fun ds => opt (items d') fun es => .ok (zipL ds es) ρ4
end
/-- as a test -/
def evT (C : Cfg) (Φ : Oracle) (e : Ex) (ρ : Env) : R Bool := (evE C Φ e ρ).bind fun v ρ1 => match v with
  | .imm (.bl b) => .ok b ρ1
  | _ => .stuck

/-- o[i] = d -/
def setIdx : D → D → D → Option D
  | .lst xs, .int k, d => match ixN xs.length k with
    | some j => some (.lst (xs.set j d))
    | none => none
  | _, _, _ => none
def setFld (f : Str) (d : D) : D → Option D
  | .obj c fs => if c = 0 ∧ fs.length < 1000 then some (.obj c (putF f d fs)) else none
  | _ => none
def augD : Operator → D → D → Option D
  | .Add, .int a, .int b => some (.int (a + b))
  | .Sub, .int a, .int b => some (.int (a - b))
  | _, _, _ => none
/-- a value for a slot: fresh for an own one, else plain -/
def parV (own : Bool) (ρ : Env) (v : Val) : Option (D × Env) := if own then (match v with
    | .frs d => some (d, ρ)
    | _ => none) else fz ρ v
mutual
def exS (C : Cfg) (Φ : Oracle) : Stm → Env → SR
  | .expr e, ρ => (evE C Φ e ρ).thn fun _ ρ1 => .next ρ1
  | .asg own i e, ρ => (evE C Φ e ρ).thn fun v ρ1 => if own then (match v with
      | .frs d => .next (ρ1.set i (some ⟨true, d⟩))
      | _ => .stuck)
    else optS (fz ρ1 v) fun (d, ρ2) => .next (ρ2.set i (some ⟨false, d⟩))
  | .asgT is e, ρ => (evE C Φ e ρ).thn fun v ρ1 => optS (fz ρ1 v) fun (d, ρ2) => optS (setTg ρ2 (.tup is) d) fun ρ3 => .next ρ3
  | .par i j oi oj a b, ρ => if i = j then .stuck else (evE C Φ a ρ).thn fun v ρ1 => optS (parV oi ρ1 v) fun (d, ρ2) => (evE C Φ b ρ2).thn fun w ρ3 => optS (parV oj ρ3 w) fun (d', ρ4) =>
      .next ((ρ4.set i (some ⟨oi, d⟩)).set j (some ⟨oj, d'⟩))
  | .setI o ie e, ρ => (evE C Φ e ρ).thn fun v ρ1 => optS (fz ρ1 v) fun (d, ρ2) => optS (ownD ρ2 o) fun _ => (evE C Φ ie ρ2).thn fun vi ρ3 =>
      optS (rd ρ3 vi) fun k => optS (ownD ρ3 o) fun x => optS (setIdx x k d) fun y => .next (ρ3.set o (some ⟨true, y⟩))
  | .aug i op e, ρ => optS (varV ρ i) fun v => (match v with
      | .imm x => (evE C Φ e ρ).thn fun w ρ1 => optS (rd ρ1 w) fun y => optS (augD op x y) fun z => .next (ρ1.set i (some ⟨false, z⟩))
      | _ => .stuck)
  | .augI o ie op e, ρ => optS (ownD ρ o) fun _ => (evE C Φ ie ρ).thn fun vi ρ1 => optS (rd ρ1 vi) fun k => optS (ownD ρ1 o) fun x => optS (idxD x k) fun old =>
      (evE C Φ e ρ1).thn fun w ρ2 => optS (rd ρ2 w) fun y => optS (augD op old y) fun z => optS (ownD ρ2 o) fun x => optS (setIdx x k z) fun q => .next (ρ2.set o (some ⟨true, q⟩))
  | .fldS o f e, ρ => (evE C Φ e ρ).thn fun v ρ1 => optS (fz ρ1 v) fun (d, ρ2) => optS (ownD ρ2 o) fun x => optS (setFld f d x) fun y => .next (ρ2.set o (some ⟨true, y⟩))
  | .ret e, ρ => (evE C Φ e ρ).thn fun v ρ1 => (match v with
      | .imm d => .ret false d ρ1
      | .frs d => .ret true d ρ1
      | .vr i => (match ρ1[i]? with
        | some (some ⟨true, d⟩) => .ret true d (ρ1.set i none)
        | some (some ⟨false, d⟩) => .ret false d ρ1
        | _ => .stuck))
  | .retN, ρ => .ret false .non ρ
  | .ife c a b, ρ => (evT C Φ c ρ).thn fun t ρ1 => if t then exSs C Φ a ρ1 else exSs C Φ b ρ1
  | .for tg it b, ρ => (evI C Φ it ρ).thn fun ds ρ1 => forLoop (fun d ρ => optS (setTg ρ tg d) fun ρ => exSs C Φ b ρ) ds ρ1
  | .whl c b, ρ => whileLoop (evT C Φ c) (fun ρ => exSs C Φ b ρ) C.fuel ρ
  | .brk, ρ => .brk ρ
  | .cont, ρ => .cont ρ
  | .pass, ρ => .next ρ
  | .raise _ _, _ => .stuck
def exSs (C : Cfg) (Φ : Oracle) : Stms → Env → SR
  | .nil, ρ => .next ρ
  | .cons s ss, ρ => (exS C Φ s ρ).thn fun ρ1 => exSs C Φ ss ρ1
end
/-! ### a def -/
def startE : List Bool → List D → Option Env
  | [], [] => some []
  | b :: bs, d :: ds => (startE bs ds).map (some ⟨b, d⟩ :: ·)
  | _, _ => none
/-- the in-out parameters' contents -/
def outsE : List Bool → Env → Option (List D)
  | [], _ => some []
  | true :: bs, some ⟨true, d⟩ :: ρ => (outsE bs ρ).map (d :: ·)
  | false :: bs, _ :: ρ => outsE bs ρ
  | _, _ => none
def optF {α : Type} (o : Option α) (f : α → FR) : FR := match o with | some a => f a | none => .stuck
def runFn (C : Cfg) (Φ : Oracle) (F : FDef) (args : List D) : FR := optF (startE F.raw args) fun ρ0 =>
  match exSs C Φ F.body (ρ0 ++ List.replicate (F.slots - ρ0.length) none) with
  | .next ρ => optF (outsE F.raw ρ) fun os => .ok false .non os
  | .ret fr d ρ => optF (outsE F.raw ρ) fun os => .ok fr d os
  | .exc c fs ρ => optF (outsE F.raw ρ) fun os => .exc c fs os
  | _ => .stuck
/-- the defs' answers, calls nested at most k deep -/
def Phi (C : Cfg) (tab : Nat → Option FDef) : Nat → Oracle
  | 0 => fun _ _ => .stuck
  | k + 1 => fun f args => match tab f with
    | some F => runFn C (Phi C tab k) F args
    | none => .stuck

end FB

set_option Elab.async false
set_option linter.all false
set_option maxRecDepth 100000
set_option maxHeartbeats 400000
namespace FB
open PySem PySem.Spec PyProof.Rows L2

/-! ### trees over the abstract heap; Z: what may yet be changed -/
abbrev AdP := Addr → Prop
mutual
inductive Rep (cl : Nat → Addr) (H : Hp) (Z : AdP) : V → D → Prop
  | non : Rep cl H Z .non .non
  | bl (b : Bool) : Rep cl H Z (.bl b) (.bl b)
  | int (i : Int) : Rep cl H Z (.int i) (.int i)
  | str (s : Str) : Rep cl H Z (.str s) (.str s)
  | lst {a : Addr} {vs : List V} {ds : List D} : ¬ Z a → Rd H a (.lst vs) → Reps cl H Z vs ds → Rep cl H Z (.ref a) (.lst ds)
  | tup {a : Addr} {vs : List V} {ds : List D} : ¬ Z a → Rd H a (.tup vs) → Reps cl H Z vs ds → Rep cl H Z (.ref a) (.tup ds)
  | dct0 {a : Addr} : ¬ Z a → H a = some (.dK []) → Rep cl H Z (.ref a) (.dct [])
  | obj {a dx : Addr} {c : Nat} {vf : List (Str × V)} {fs : List (Str × D)} : ¬ Z a → H a = some (.ins (cl c) dx vf) → RepF cl H Z vf fs → Rep cl H Z (.ref a) (.obj c fs)
inductive Reps (cl : Nat → Addr) (H : Hp) (Z : AdP) : List V → List D → Prop
  | nil : Reps cl H Z [] []
  | cons {v : V} {vs : List V} {d : D} {ds : List D} : Rep cl H Z v d → Reps cl H Z vs ds → Reps cl H Z (v :: vs) (d :: ds)
inductive RepF (cl : Nat → Addr) (H : Hp) (Z : AdP) : List (Str × V) → List (Str × D) → Prop
  | nil : RepF cl H Z [] []
  | cons {f : Str} {v : V} {vs : List (Str × V)} {d : D} {ds : List (Str × D)} : Rep cl H Z v d → RepF cl H Z vs ds → RepF cl H Z ((f, v) :: vs) ((f, d) :: ds)
end
/-- an object of one's own -/
inductive Ob (cl : Nat → Addr) (H : Hp) (Z : AdP) (a : Addr) : D → Prop
  | lst {vs : List V} {ds : List D} : H a = some (.lst vs) → Reps cl H Z vs ds → Ob cl H Z a (.lst ds)
  | dct0 : H a = some (.dK []) → Ob cl H Z a (.dct [])
  | obj {dx : Addr} {c : Nat} {vf : List (Str × V)} {fs : List (Str × D)} : H a = some (.ins (cl c) dx vf) → RepF cl H Z vf fs → Ob cl H Z a (.obj c fs)

def NT (o : HO) : Prop := ∀ ps, o ≠ .tbl ps
/-- what a tree leans on stays -/
def Stay (Z : AdP) (H : Hp) (Z' : AdP) (H' : Hp) : Prop := ∀ a o, H a = some o → NT o → ¬ Z a → ¬ Z' a ∧ H' a = some o
theorem Stay.rd {Z Z' : AdP} {H H' : Hp} {a : Addr} {u : HO} (s : Stay Z H Z' H') (n : NT u) (z : ¬ Z a) (r : Rd H a u) : ¬ Z' a ∧ Rd H' a u := by
  rcases r with r | ⟨o, r⟩
  · exact ⟨(s a _ r n z).1, .inl (s a _ r n z).2⟩
  · have q := s a _ r (fun ps e => by cases e) z
    exact ⟨q.1, .inr ⟨o, q.2⟩⟩
theorem nt_lst {xs : List V} : NT (.lst xs) := fun _ e => by cases e
theorem nt_tup {xs : List V} : NT (.tup xs) := fun _ e => by cases e
theorem nt_dK {xs : List (Key × V)} : NT (.dK xs) := fun _ e => by cases e
theorem nt_ins {C dx : Addr} {f : List (Str × V)} : NT (.ins C dx f) := fun _ e => by cases e
section
variable {cl : Nat → Addr} {Z Z' : AdP} {H H' : Hp}
mutual
theorem Rep.mono (s : Stay Z H Z' H') : ∀ {v : V} {d : D}, Rep cl H Z v d → Rep cl H' Z' v d
  | _, _, .non => .non
  | _, _, .bl b => .bl b
  | _, _, .int i => .int i
  | _, _, .str x => .str x
  | _, _, .lst z r q => .lst (s.rd nt_lst z r).1 (s.rd nt_lst z r).2 (Reps.mono s q)
  | _, _, .tup z r q => .tup (s.rd nt_tup z r).1 (s.rd nt_tup z r).2 (Reps.mono s q)
  | _, _, .dct0 z r => .dct0 (s _ _ r nt_dK z).1 (s _ _ r nt_dK z).2
  | _, _, .obj z r q => .obj (s _ _ r nt_ins z).1 (s _ _ r nt_ins z).2 (RepF.mono s q)
theorem Reps.mono (s : Stay Z H Z' H') : ∀ {v : List V} {d : List D}, Reps cl H Z v d → Reps cl H' Z' v d
  | _, _, .nil => .nil
  | _, _, .cons r q => .cons (Rep.mono s r) (Reps.mono s q)
theorem RepF.mono (s : Stay Z H Z' H') : ∀ {v : List (Str × V)} {d : List (Str × D)}, RepF cl H Z v d → RepF cl H' Z' v d
  | _, _, .nil => .nil
  | _, _, .cons r q => .cons (Rep.mono s r) (RepF.mono s q)
end
theorem Ob.mono {a : Addr} {d : D} (s : Stay Z H Z' H') (h : ∀ o, H a = some o → NT o → H' a = some o) : Ob cl H Z a d → Ob cl H' Z' a d
  | .lst e r => .lst (h _ e nt_lst) (r.mono s)
  | .dct0 e => .dct0 (h _ e nt_dK)
  | .obj e r => .obj (h _ e nt_ins) (r.mono s)
theorem Ob.there {a : Addr} {d : D} : Ob cl H Z a d → ∃ o, H a = some o ∧ NT o
  | .lst e _ => ⟨_, e, nt_lst⟩
  | .dct0 e => ⟨_, e, nt_dK⟩
  | .obj e _ => ⟨_, e, nt_ins⟩
/-- an own object that is no longer kept apart -/
theorem Ob.rep {a : Addr} {d : D} (z : ¬ Z a) : Ob cl H Z a d → Rep cl H Z (.ref a) d
  | .lst e r => .lst z (.inl e) r
  | .dct0 e => .dct0 z e
  | .obj e r => .obj z e r
theorem Reps.len : ∀ {vs : List V} {ds : List D}, Reps cl H Z vs ds → vs.length = ds.length
  | _, _, .nil => rfl
  | _, _, .cons _ q => congrArg (· + 1) (Reps.len q)
theorem Reps.get : ∀ {vs : List V} {ds : List D} {i : Nat} {d : D}, Reps cl H Z vs ds → ds[i]? = some d → ∃ v, vs[i]? = some v ∧ Rep cl H Z v d
  | _, _, _, _, .nil, e => by simp at e
  | _, _, 0, _, .cons r _, e => by simp at e; subst e; exact ⟨_, rfl, r⟩
  | _, _, i + 1, d, .cons _ q, e => by
    obtain ⟨v, h1, h2⟩ := Reps.get (i := i) (d := d) q (by simpa using e)
    exact ⟨v, by simpa using h1, h2⟩
theorem Reps.getV : ∀ {vs : List V} {ds : List D} {i : Nat} {v : V}, Reps cl H Z vs ds → vs[i]? = some v → ∃ d, ds[i]? = some d ∧ Rep cl H Z v d
  | _, _, _, _, .nil, e => by simp at e
  | _, _, 0, _, .cons r _, e => by simp at e; subst e; exact ⟨_, rfl, r⟩
  | _, _, i + 1, v, .cons _ q, e => by
    obtain ⟨d, h1, h2⟩ := Reps.getV (i := i) (v := v) q (by simpa using e)
    exact ⟨d, by simpa using h1, h2⟩
theorem Reps.app : ∀ {vs ws : List V} {ds es : List D}, Reps cl H Z vs ds → Reps cl H Z ws es → Reps cl H Z (vs ++ ws) (ds ++ es)
  | _, _, _, _, .nil, q => q
  | _, _, _, _, .cons r t, q => .cons r (Reps.app t q)
theorem Reps.take : ∀ {vs : List V} {ds : List D} (n : Nat), Reps cl H Z vs ds → Reps cl H Z (vs.take n) (ds.take n)
  | _, _, 0, _ => .nil
  | _, _, _ + 1, .nil => .nil
  | _, _, n + 1, .cons r t => .cons r (Reps.take n t)
theorem Reps.drop : ∀ {vs : List V} {ds : List D} (n : Nat), Reps cl H Z vs ds → Reps cl H Z (vs.drop n) (ds.drop n)
  | _, _, 0, r => r
  | _, _, _ + 1, .nil => .nil
  | _, _, n + 1, .cons _ t => Reps.drop n t
theorem Reps.set {v : V} {d : D} (r : Rep cl H Z v d) : ∀ {vs : List V} {ds : List D} (i : Nat), Reps cl H Z vs ds → Reps cl H Z (vs.set i v) (ds.set i d)
  | _, _, _, .nil => .nil
  | _, _, 0, .cons _ t => .cons r t
  | _, _, i + 1, .cons q t => .cons q (Reps.set r i t)
theorem Reps.erase : ∀ {vs : List V} {ds : List D} (i : Nat), Reps cl H Z vs ds → Reps cl H Z (vs.eraseIdx i) (ds.eraseIdx i)
  | _, _, _, .nil => .nil
  | _, _, 0, .cons _ t => t
  | _, _, i + 1, .cons q t => .cons q (Reps.erase i t)
theorem Reps.dropLast {vs : List V} {ds : List D} (r : Reps cl H Z vs ds) : Reps cl H Z vs.dropLast ds.dropLast := by
  rw [List.dropLast_eq_take, List.dropLast_eq_take, r.len]
  exact r.take _
theorem Reps.reverse : ∀ {vs : List V} {ds : List D}, Reps cl H Z vs ds → Reps cl H Z vs.reverse ds.reverse
  | _, _, .nil => .nil
  | _, _, .cons r t => by rw [List.reverse_cons, List.reverse_cons]; exact (Reps.reverse t).app (.cons r .nil)
theorem Reps.rep {vs : List V} {ds : List D} (r : Reps cl H Z vs ds) : ∀ k : Nat, Reps cl H Z (List.replicate k vs).flatten (List.replicate k ds).flatten
  | 0 => .nil
  | k + 1 => by rw [List.replicate_succ, List.replicate_succ, List.flatten_cons, List.flatten_cons]; exact r.app (Reps.rep r k)
theorem Reps.ofInts : ∀ (ns : List Int), Reps cl H Z (ns.map V.int) (ns.map D.int)
  | [] => .nil
  | n :: r => .cons (.int n) (Reps.ofInts r)
theorem Reps.intsOf : ∀ {vs : List V} {ds : List D} {ns : List Int}, Reps cl H Z vs ds → intsD ds = some ns → vs = ns.map V.int ∧ ds = ns.map D.int
  | _, _, _, .nil, e => by cases e; exact ⟨rfl, rfl⟩
  | _, _, ns, @Reps.cons _ _ _ v vs d ds r t, e => by
    cases r with
    | int i =>
      obtain ⟨ms, e1, e2⟩ := Option.map_eq_some_iff.mp (show (intsD ds).map (i :: ·) = some ns from e)
      subst e2
      obtain ⟨q1, q2⟩ := Reps.intsOf t e1
      exact ⟨by rw [q1]; rfl, by rw [q2]; rfl⟩
    | _ => exact nomatch (show (none : Option (List Int)) = some ns from e)
theorem Reps.boolsOf : ∀ {vs : List V} {ds : List D} {ns : List Bool}, Reps cl H Z vs ds → boolsD ds = some ns → vs = ns.map V.bl
  | _, _, _, .nil, e => by cases e; rfl
  | _, _, ns, @Reps.cons _ _ _ v vs d ds r t, e => by
    cases r with
    | bl i =>
      obtain ⟨ms, e1, e2⟩ := Option.map_eq_some_iff.mp (show (boolsD ds).map (i :: ·) = some ns from e)
      subst e2
      rw [Reps.boolsOf t e1]; rfl
    | _ => exact nomatch (show (none : Option (List Bool)) = some ns from e)
theorem RepF.look {f : Str} : ∀ {vs : List (Str × V)} {ds : List (Str × D)} {d : D}, RepF cl H Z vs ds → lookF f ds = some d → ∃ v, vs.lookup f = some v ∧ Rep cl H Z v d
  | _, _, _, .nil, e => by cases e
  | _, _, d, @RepF.cons _ _ _ g v vs d' ds r t, e => by
    unfold lookF at e
    by_cases h : f = g
    · rw [if_pos h] at e; cases e
      exact ⟨v, by simp [List.lookup, h], r⟩
    · rw [if_neg h] at e
      obtain ⟨w, h1, h2⟩ := RepF.look t e
      have hb : (f == g) = false := by simpa using h
      exact ⟨w, by simp only [List.lookup, hb]; exact h1, h2⟩
theorem RepF.put {f : Str} {v : V} {d : D} (r : Rep cl H Z v d) : ∀ {vs : List (Str × V)} {ds : List (Str × D)}, RepF cl H Z vs ds → RepF cl H Z (L2.putF f v vs) (FB.putF f d ds)
  | _, _, .nil => .cons r .nil
  | _, _, @RepF.cons _ _ _ g v' vs d' ds r' t => by
    unfold L2.putF FB.putF
    by_cases h : g = f
    · rw [if_pos h, if_pos h]; exact .cons r t
    · rw [if_neg h, if_neg h]; exact .cons r' (RepF.put r t)
theorem RepF.len : ∀ {vs : List (Str × V)} {ds : List (Str × D)}, RepF cl H Z vs ds → vs.length = ds.length
  | _, _, .nil => rfl
  | _, _, .cons _ t => congrArg (· + 1) (RepF.len t)
end

/-! ### the state of a def -/
def Own (ρ : FB.Env) (σ : L2.St) : AdP := fun a => ∃ (i : Nat) (d : D), ρ[i]? = some (some ⟨true, d⟩) ∧ σ[i]? = some (some (.ref a))
abbrev TabL := List (Addr × Str)
structure Sim (cl : Nat → Addr) (T : TabL) (Z : AdP) (ρ : FB.Env) (σ : L2.St) (H : Hp) : Prop where
  len : ρ.length = σ.length
  imm : ∀ (i : Nat) (d : D), ρ[i]? = some (some ⟨false, d⟩) → ∃ v, σ[i]? = some (some v) ∧ Rep cl H Z v d
  own : ∀ (i : Nat) (d : D), ρ[i]? = some (some ⟨true, d⟩) → ∃ a, σ[i]? = some (some (.ref a)) ∧ Z a ∧ Ob cl H Z a d
  dis : ∀ (i j : Nat) (d e : D) (a : Addr), ρ[i]? = some (some ⟨true, d⟩) → ρ[j]? = some (some ⟨true, e⟩) → σ[i]? = some (some (.ref a)) → σ[j]? = some (some (.ref a)) → i = j
  zt : ∀ a, Z a → ∃ o, H a = some o ∧ NT o
  tab : LamX.Tabs T H
structure Stp (O Z : AdP) (H : Hp) (Z' : AdP) (H' : Hp) : Prop where
  keep : ∀ a o, H a = some o → ¬ O a → NT o → H' a = some o
  there : ∀ a, H a ≠ none → H' a ≠ none
  new : ∀ a, Z' a → Z a ∨ H a = none
  ex : ∀ a, Z a → ¬ O a → Z' a
section
variable {cl : Nat → Addr} {T : TabL} {O O' Z Z' Z'' : AdP} {ρ ρ' ρ'' : FB.Env} {σ σ' : L2.St} {H H' H'' : Hp}
theorem Stp.refl : Stp O Z H Z H := ⟨fun _ _ e _ _ => e, fun _ e => e, fun _ z => .inl z, fun _ z _ => z⟩
theorem Stp.gone (s : Stp O Z H Z' H') {a : Addr} (h : H' a = none) : H a = none := by
  cases e : H a with
  | none => rfl
  | some o => exact absurd h (s.there a (by rw [e]; simp))
theorem Stp.trans (zt : ∀ a, Z a → ∃ o, H a = some o ∧ NT o) (s : Stp O Z H Z' H') (t : Stp O' Z' H' Z'' H'') (sub : ∀ a, O' a → O a ∨ H a = none) : Stp O Z H Z'' H'' where
  keep := fun a o e n nt => t.keep a o (s.keep a o e n nt) (fun q => (sub a q).elim n fun q => by rw [q] at e; cases e) nt
  there := fun a e => t.there a (s.there a e)
  new := fun a z => (t.new a z).elim (s.new a) fun q => .inr (s.gone q)
  ex := fun a z n => t.ex a (s.ex a z n) fun q => (sub a q).elim n fun q => by
    obtain ⟨o, e, _⟩ := zt a z
    rw [q] at e; cases e
theorem Stp.stay (hO : ∀ a, O a → Z a) (s : Stp O Z H Z' H') : Stay Z H Z' H' := fun a o e n z =>
  ⟨fun q => (s.new a q).elim z fun q => (by rw [q] at e; cases e), s.keep a o e (fun q => z (hO a q)) n⟩
theorem Sim.ownZ (s : Sim cl T Z ρ σ H) : ∀ a, Own ρ σ a → Z a := fun a ⟨i, d, e1, e2⟩ => by
  obtain ⟨b, e3, z, _⟩ := s.own i d e1
  rw [e2] at e3; cases e3
  exact z
theorem Sim.ownT (s : Sim cl T Z ρ σ H) {a : Addr} (h : Own ρ σ a) : ∃ o, H a = some o ∧ NT o := s.zt a (s.ownZ a h)
theorem Sim.stay (s : Sim cl T Z ρ σ H) (t : Stp (Own ρ σ) Z H Z' H') : Stay Z H Z' H' := t.stay s.ownZ

/-- what an expression leaves behind -/
structure Pst (cl : Nat → Addr) (T : TabL) (σ : L2.St) (Z : AdP) (H : Hp) (ρ : FB.Env) (Z' : AdP) (H' : Hp) (ρ' : FB.Env) : Prop where
  stp : Stp (Own ρ σ) Z H Z' H'
  sim : Sim cl T Z' ρ' σ H'
  sub : ∀ a, Own ρ' σ a → Own ρ σ a
theorem Pst.refl (s : Sim cl T Z ρ σ H) : Pst cl T σ Z H ρ Z H ρ := ⟨.refl, s, fun _ h => h⟩
theorem Pst.trans (s : Sim cl T Z ρ σ H) (p : Pst cl T σ Z H ρ Z' H' ρ') (q : Pst cl T σ Z' H' ρ' Z'' H'' ρ'') : Pst cl T σ Z H ρ Z'' H'' ρ'' :=
  ⟨p.stp.trans s.zt q.stp fun a h => .inl (p.sub a h), q.sim, fun a h => p.sub a (q.sub a h)⟩
theorem Pst.stay (s : Sim cl T Z ρ σ H) (p : Pst cl T σ Z H ρ Z' H' ρ') : Stay Z H Z' H' := s.stay p.stp

/-- a value of an expression that began in H -/
inductive VR (cl : Nat → Addr) (H0 : Hp) (Z : AdP) (H : Hp) (ρ : FB.Env) (σ : L2.St) : V → Val → Prop
  | imm {u : V} {d : D} : Rep cl H Z u d → VR cl H0 Z H ρ σ u (.imm d)
  | frs {a : Addr} {d : D} : Z a → H0 a = none → Ob cl H Z a d → VR cl H0 Z H ρ σ (.ref a) (.frs d)
  | vr {u : V} {i : Nat} : σ[i]? = some (some u) → VR cl H0 Z H ρ σ u (.vr i)
/-- what may be read of a value -/
inductive Rep1 (cl : Nat → Addr) (H : Hp) (Z : AdP) : V → D → Prop
  | rep {u : V} {d : D} : Rep cl H Z u d → Rep1 cl H Z u d
  | ob {a : Addr} {d : D} : Ob cl H Z a d → Rep1 cl H Z (.ref a) d

theorem Sim.slot (s : Sim cl T Z ρ σ H) {i : Nat} {d : D} (e : slotD ρ i = some d) : ∃ u, σ[i]? = some (some u) ∧ Rep1 cl H Z u d := by
  unfold slotD at e
  split at e
  · rename_i sl q
    cases e
    obtain ⟨o, d⟩ := sl
    cases o with
    | true => obtain ⟨a, e1, _, e2⟩ := s.own i d q; exact ⟨_, e1, .ob e2⟩
    | false => obtain ⟨v, e1, e2⟩ := s.imm i d q; exact ⟨_, e1, .rep e2⟩
  · cases e
/-- a value, read behind a step -/
theorem VR.read {H0 : Hp} {u : V} {v : Val} {d : D} (s : Sim cl T Z ρ σ H) (r : VR cl H0 Z H ρ σ u v) (hz : ∀ a, H0 a = none → ¬ Own ρ σ a) (p : Pst cl T σ Z H ρ Z' H' ρ') (e : rd ρ' v = some d) : Rep1 cl H' Z' u d := by
  cases r with
  | imm q => cases e; exact .rep (q.mono (p.stay s))
  | frs z n q => cases e; exact .ob (q.mono (p.stay s) fun o e nt => p.stp.keep _ o e (hz _ n) nt)
  | vr e1 =>
    obtain ⟨w, e3, q⟩ := p.sim.slot e
    rw [e1] at e3; cases e3
    exact q
/-- a fresh value is no operand of its own -/
theorem Rep1.mono {u : V} {d : D} (s : Stay Z H Z' H') (h : ∀ a o, u = .ref a → H a = some o → NT o → H' a = some o) : Rep1 cl H Z u d → Rep1 cl H' Z' u d
  | .rep r => .rep (r.mono s)
  | .ob r => .ob (r.mono s fun o e n => h _ o rfl e n)
theorem Rep1.int {u : V} {i : Int} : Rep1 cl H Z u (.int i) → u = .int i
  | .rep (.int _) => rfl
theorem Rep1.bl {u : V} {i : Bool} : Rep1 cl H Z u (.bl i) → u = .bl i
  | .rep (.bl _) => rfl
theorem Rep1.str {u : V} {i : Str} : Rep1 cl H Z u (.str i) → u = .str i
  | .rep (.str _) => rfl
theorem Rep1.non {u : V} : Rep1 cl H Z u .non → u = .non
  | .rep .non => rfl
theorem Rep1.lst {u : V} {ds : List D} : Rep1 cl H Z u (.lst ds) → ∃ a vs, u = .ref a ∧ Rd H a (.lst vs) ∧ Reps cl H Z vs ds
  | .rep (.lst _ r q) => ⟨_, _, rfl, r, q⟩
  | .ob (.lst r q) => ⟨_, _, rfl, .inl r, q⟩
theorem Rep1.tup {u : V} {ds : List D} : Rep1 cl H Z u (.tup ds) → ∃ a vs, u = .ref a ∧ ¬ Z a ∧ Rd H a (.tup vs) ∧ Reps cl H Z vs ds
  | .rep (.tup z r q) => ⟨_, _, rfl, z, r, q⟩
theorem Rep1.obj {u : V} {c : Nat} {fs : List (Str × D)} : Rep1 cl H Z u (.obj c fs) → ∃ a dx vf, u = .ref a ∧ H a = some (.ins (cl c) dx vf) ∧ RepF cl H Z vf fs
  | .rep (.obj _ r q) => ⟨_, _, _, rfl, r, q⟩
  | .ob (.obj r q) => ⟨_, _, _, rfl, r, q⟩
/-- the flat ones lean on nothing -/
theorem Rep.flat {u : V} {d : D} {H1 : Hp} {Z1 : AdP} (f : d.flat = true) (r : Rep cl H Z u d) : Rep cl H1 Z1 u d := by
  cases r with
  | non => exact .non
  | bl b => exact .bl b
  | int i => exact .int i
  | str x => exact .str x
  | lst _ _ _ => exact nomatch f
  | tup _ _ _ => exact nomatch f
  | dct0 _ _ => exact nomatch f
  | obj _ _ _ => exact nomatch f

/-! ### tables stay where other things are laid or written -/
theorem Tabs.upd {p : Addr} {o : HO} (t : LamX.Tabs T H) (h : ∀ u, H p = some u → NT u ∧ ∀ c q, u ≠ LamX.CodeO c q) : LamX.Tabs T (L2.upd H p o) := fun x hx => by
  obtain ⟨ps, e1, e2, e3⟩ := t x hx
  have n1 : x.1 ≠ p := fun z => (h _ (by rw [← z]; exact e1)).1 ps rfl
  refine ⟨ps, (upd_ne n1).trans e1, e2, fun pos cv hc => ?_⟩
  obtain ⟨c, e4, e5⟩ := e3 pos cv hc
  have n2 : c ≠ p := fun z => (h _ (by rw [← z]; exact e5)).2 _ _ rfl
  exact ⟨c, e4, (upd_ne n2).trans e5⟩
theorem codeO_lst {c : Addr} {q : Str} {xs : List V} : HO.lst xs ≠ LamX.CodeO c q := by
  unfold LamX.CodeO
  intro e
  cases e
theorem codeO_dK {c : Addr} {q : Str} {xs : List (Key × V)} : HO.dK xs ≠ LamX.CodeO c q := by
  unfold LamX.CodeO
  intro e
  cases e
theorem codeO_ins {c : Addr} {q : Str} {C dx : Addr} {f : List (Str × V)} : HO.ins C dx f ≠ LamX.CodeO c q := by
  unfold LamX.CodeO
  intro e
  cases e
/-- a new object: untracked so far -/
theorem Tabs.new {p : Addr} {o : HO} (t : LamX.Tabs T H) (h : H p = none) : LamX.Tabs T (L2.upd H p o) := Tabs.upd t fun u e => by rw [h] at e; cases e

/-- a new object is laid and kept apart -/
theorem Sim.alloc {p : Addr} {o : HO} (s : Sim cl T Z ρ σ H) (h : H p = none) (n : NT o) : Sim cl T (fun a => Z a ∨ a = p) ρ σ (upd H p o) ∧ Stay Z H (fun a => Z a ∨ a = p) (upd H p o) ∧ Stp (Own ρ σ) Z H (fun a => Z a ∨ a = p) (upd H p o) := by
  have ne : ∀ a u, H a = some u → a ≠ p := fun a u e => ne_of_none e h
  have st : Stay Z H (fun a => Z a ∨ a = p) (upd H p o) := fun a u e _ z => ⟨fun q => q.elim z (ne a u e), by rw [upd_ne (ne a u e)]; exact e⟩
  refine ⟨⟨s.len, fun i d e => ?_, fun i d e => ?_, s.dis, fun a z => ?_, Tabs.new s.tab h⟩, st, ⟨fun a u e _ _ => by rw [upd_ne (ne a u e)]; exact e, fun a e => ?_, fun a z => z.elim .inl fun z => .inr (by rw [z]; exact h), fun a z _ => .inl z⟩⟩
  · obtain ⟨v, e1, e2⟩ := s.imm i d e
    exact ⟨v, e1, e2.mono st⟩
  · obtain ⟨a, e1, z, e2⟩ := s.own i d e
    exact ⟨a, e1, .inl z, e2.mono st fun u e _ => by rw [upd_ne (ne a u e)]; exact e⟩
  · rcases z with z | z
    · obtain ⟨u, e, n⟩ := s.zt a z
      exact ⟨u, by rw [upd_ne (ne a u e)]; exact e, n⟩
    · rw [z]; exact ⟨o, upd_same, n⟩
  · by_cases q : a = p
    · rw [q, upd_same]; simp
    · rw [upd_ne q]; exact e
/-- .. and left to all -/
theorem Sim.allocI {p : Addr} {o : HO} (s : Sim cl T Z ρ σ H) (h : H p = none) : Sim cl T Z ρ σ (upd H p o) ∧ Stay Z H Z (upd H p o) ∧ Stp (Own ρ σ) Z H Z (upd H p o) ∧ ¬ Z p := by
  have ne : ∀ a u, H a = some u → a ≠ p := fun a u e => ne_of_none e h
  have st : Stay Z H Z (upd H p o) := fun a u e _ z => ⟨z, by rw [upd_ne (ne a u e)]; exact e⟩
  refine ⟨⟨s.len, fun i d e => ?_, fun i d e => ?_, s.dis, fun a z => ?_, Tabs.new s.tab h⟩, st, ⟨fun a u e _ _ => by rw [upd_ne (ne a u e)]; exact e, fun a e => ?_, fun a z => .inl z, fun a z _ => z⟩, fun z => ?_⟩
  · obtain ⟨v, e1, e2⟩ := s.imm i d e
    exact ⟨v, e1, e2.mono st⟩
  · obtain ⟨a, e1, z, e2⟩ := s.own i d e
    exact ⟨a, e1, z, e2.mono st fun u e _ => by rw [upd_ne (ne a u e)]; exact e⟩
  · obtain ⟨u, e, n⟩ := s.zt a z
    exact ⟨u, by rw [upd_ne (ne a u e)]; exact e, n⟩
  · by_cases q : a = p
    · rw [q, upd_same]; simp
    · rw [upd_ne q]; exact e
  · obtain ⟨u, e, _⟩ := s.zt p z
    rw [h] at e; cases e
/-- a thing kept apart that is no slot's is let go -/
theorem Sim.drop (s : Sim cl T Z ρ σ H) (p : Addr) (no : ¬ Own ρ σ p) : Sim cl T (fun a => Z a ∧ a ≠ p) ρ σ H := by
  have st : Stay Z H (fun a => Z a ∧ a ≠ p) H := fun a u e _ z => ⟨fun q => z q.1, e⟩
  refine ⟨s.len, fun i d e => ?_, fun i d e => ?_, s.dis, fun a z => s.zt a z.1, s.tab⟩
  · obtain ⟨v, e1, e2⟩ := s.imm i d e
    exact ⟨v, e1, e2.mono st⟩
  · obtain ⟨a, e1, z, e2⟩ := s.own i d e
    exact ⟨a, e1, ⟨z, fun q => no ⟨i, d, e, by rw [e1, q]⟩⟩, e2.mono st fun u e _ => e⟩
/-- an owned slot is frozen -/
theorem Sim.freeze {i : Nat} {d : D} {a : Addr} (s : Sim cl T Z ρ σ H) (e : ρ[i]? = some (some ⟨true, d⟩)) (ea : σ[i]? = some (some (.ref a))) :
    Sim cl T (fun b => Z b ∧ b ≠ a) (ρ.set i (some ⟨false, d⟩)) σ H ∧ Rep cl H (fun b => Z b ∧ b ≠ a) (.ref a) d ∧ Stp (Own ρ σ) Z H (fun b => Z b ∧ b ≠ a) H ∧ ∀ b, Own (ρ.set i (some ⟨false, d⟩)) σ b → Own ρ σ b := by
  have st : Stay Z H (fun b => Z b ∧ b ≠ a) H := fun b u e _ z => ⟨fun q => z q.1, e⟩
  have hi : i < ρ.length := (List.getElem?_eq_some_iff.mp e).1
  obtain ⟨a', e1, z, ob⟩ := s.own i d e
  rw [ea] at e1; cases e1
  have rp : Rep cl H (fun b => Z b ∧ b ≠ a) (.ref a) d := (ob.mono st fun _ q _ => q).rep fun q => q.2 rfl
  have get : ∀ j x, (ρ.set i (some ⟨false, d⟩))[j]? = some (some ⟨true, x⟩) → j ≠ i ∧ ρ[j]? = some (some ⟨true, x⟩) := fun j x q => by
    by_cases h : i = j
    · subst h; rw [List.getElem?_set_self hi] at q; cases q
    · rw [List.getElem?_set_ne h] at q; exact ⟨fun z => h z.symm, q⟩
  refine ⟨⟨by rw [List.length_set]; exact s.len, fun j x q => ?_, fun j x q => ?_, fun j k x y b q1 q2 => s.dis j k x y b (get j x q1).2 (get k y q2).2, fun b z => s.zt b z.1, s.tab⟩, rp, ⟨fun _ _ e _ _ => e, fun _ e => e, fun b z => .inl z.1, fun b z n => ⟨z, fun q => n ⟨i, d, e, by rw [ea, q]⟩⟩⟩, fun b ⟨j, x, q1, q2⟩ => ⟨j, x, (get j x q1).2, q2⟩⟩
  · by_cases h : i = j
    · subst h; rw [List.getElem?_set_self hi] at q; cases q
      exact ⟨_, ea, rp⟩
    · rw [List.getElem?_set_ne h] at q
      obtain ⟨v, e1, e2⟩ := s.imm j x q
      exact ⟨v, e1, e2.mono st⟩
  · obtain ⟨hj, q'⟩ := get j x q
    obtain ⟨b, e1, z, e2⟩ := s.own j x q'
    refine ⟨b, e1, ⟨z, fun h => ?_⟩, e2.mono st fun u e _ => e⟩
    rw [h] at e1
    exact hj (s.dis j i x d a q' e e1 ea)
end
end FB

set_option Elab.async false
set_option linter.all false
set_option maxRecDepth 100000
set_option maxHeartbeats 400000
namespace FB
open PySem PySem.Spec PyProof.Rows L2

/-! ### the answer of an operation: flat or there already, or one new object -/
inductive NewR (cl : Nat → Addr) (Z : AdP) (H : Hp) : Bool × D → V → Hp → Prop
  | same {u : V} {d : D} : Rep cl H Z u d → NewR cl Z H (false, d) u H
  | newI {p : Addr} {o : HO} {d : D} : H p = none → Rep cl (upd H p o) Z (.ref p) d → NewR cl Z H (false, d) (.ref p) (upd H p o)
  | newF {p : Addr} {o : HO} {d : D} : H p = none → NT o → Ob cl (upd H p o) (fun a => Z a ∨ a = p) p d → NewR cl Z H (true, d) (.ref p) (upd H p o)
def ZT (Z : AdP) (H : Hp) : Prop := ∀ a, Z a → ∃ o, H a = some o ∧ NT o
section
variable {cl : Nat → Addr} {T : TabL} {Z : AdP} {H H' : Hp}
theorem NewR.int (i : Int) : NewR cl Z H (false, .int i) (.int i) H := .same (.int i)
theorem NewR.bl (i : Bool) : NewR cl Z H (false, .bl i) (.bl i) H := .same (.bl i)
/-- the new object behind the laying: what stood stands -/
theorem stay_new {p : Addr} {o : HO} (h : H p = none) : Stay Z H Z (upd H p o) := fun a u e _ z => ⟨z, by rw [upd_ne (ne_of_none e h)]; exact e⟩
theorem stay_newF {p : Addr} {o : HO} (h : H p = none) : Stay Z H (fun a => Z a ∨ a = p) (upd H p o) := fun a u e _ z =>
  ⟨fun q => q.elim z (ne_of_none e h), by rw [upd_ne (ne_of_none e h)]; exact e⟩
theorem ZT.no {p : Addr} (z : ZT Z H) (h : H p = none) : ¬ Z p := fun q => by
  obtain ⟨o, e, _⟩ := z p q
  rw [h] at e; cases e
theorem NewR.list {p : Addr} {vs : List V} {ds : List D} (h : H p = none) (r : Reps cl H Z vs ds) : NewR cl Z H (true, .lst ds) (.ref p) (upd H p (.lst vs)) :=
  .newF h nt_lst (.lst upd_same (r.mono (stay_newF h)))
theorem NewR.tuple {p : Addr} {vs : List V} {ds : List D} (zt : ZT Z H) (h : H p = none) (r : Reps cl H Z vs ds) : NewR cl Z H (false, .tup ds) (.ref p) (upd H p (.tup vs)) :=
  .newI h (.tup (zt.no h) (.inl upd_same) (r.mono (stay_new h)))
/-- behind an operation the state goes on -/
theorem NewR.post {ρ : FB.Env} {σ : L2.St} {r : Bool × D} {u : V} (s : Sim cl T Z ρ σ H) (n : NewR cl Z H r u H') : ∃ Z', Pst cl T σ Z H ρ Z' H' ρ ∧ VR cl H Z' H' ρ σ u (mkV r) := by
  cases n with
  | same q => exact ⟨Z, .refl s, .imm q⟩
  | newI h q =>
    obtain ⟨s1, _, st, _⟩ := s.allocI h
    exact ⟨Z, ⟨st, s1, fun _ h => h⟩, .imm q⟩
  | newF h n q =>
    obtain ⟨s1, _, st⟩ := s.alloc h n
    exact ⟨_, ⟨st, s1, fun _ h => h⟩, .frs (.inr rfl) h q⟩
end

/-! ### binary operators -/
def rB (cl : Nat → Addr) (op : Operator) : R2 := fun x y H Q => ∃ Z a b r, ZT Z H ∧ Rep1 cl H Z x a ∧ Rep1 cl H Z y b ∧ binop op a b = some r ∧ ∀ u H1, NewR cl Z H r u H1 → Q u H1
theorem SZ_eq : SZ = sizeLine := by rw [sizeLine_eq]; rfl
section
variable {X : Cx} {pins : List (Addr × Obj)} {σ : L2.St} {H : Hp} {s : Shared} {cl : Nat → Addr}
theorem lstRd {l : Addr} {xs : List V} (I : Inv X pins σ H s) (h : Rd H l (.lst xs)) : xs.length ≤ sizeLine ∧ ∃ (its : List Value) (n : Nat), Vals xs its ∧ xs.length = its.length ∧ s.heap.get? l = some { cls := .type "list", data := .seq its.toArray n } := by
  obtain ⟨z, its, n, r, e⟩ := h.ok I.hok
  exact ⟨z, its, n, r, r.length, e⟩
theorem op_catL {x y : V} {v u : Value} {Q : VK} {l b : Addr} {xs zs : List V} (I : Inv X pins σ H s) (rx : RelV x v) (ry : RelV y u) (ex : x = .ref l) (ey : y = .ref b) (hH : Rd H l (.lst xs)) (hB : Rd H b (.lst zs)) (hz : xs.length + zs.length ≤ sizeLine)
    (q : ∀ p, H p = none → Q (.ref p) (upd H p (.lst (xs ++ zs)))) : wpAny (model X.prog X.w) X.A (binaryOp .Add v u) (EP X pins σ Q) X.xe s := by
  subst ex ey
  cases rx
  cases ry
  obtain ⟨z, its, n, r, hl, e⟩ := lstRd I hH
  obtain ⟨z2, its2, n2, r2, hl2, e2⟩ := lstRd I hB
  refine PySem.P.add_list e e2 ?_ (by rw [List.size_toArray, List.size_toArray]; omega)
  have ea : its.toArray ++ its2.toArray = (its ++ its2).toArray := by simp
  rw [ea]
  exact ⟨.ref _, _, I.lnew (t' := s.toks) (r.append r2) (by rw [List.length_append]; omega), rfl, q _ I.fresh⟩
theorem op_repL {x y : V} {v u : Value} {Q : VK} {l : Addr} {k : Int} {xs : List V} (I : Inv X pins σ H s) (rx : RelV x v) (ry : RelV y u) (ex : x = .ref l) (ey : y = .int k) (hH : Rd H l (.lst xs)) (h1 : -(2 ^ 63) ≤ k) (h2 : k < 2 ^ 63) (hz : xs.length * k.toNat ≤ sizeLine)
    (q : ∀ p, H p = none → Q (.ref p) (upd H p (.lst (List.replicate k.toNat xs).flatten))) : wpAny (model X.prog X.w) X.A (binaryOp .Mult v u) (EP X pins σ Q) X.xe s := by
  subst ex ey
  cases rx
  obtain ⟨t, rfl⟩ := ry
  obtain ⟨z, its, n, r, hl, e⟩ := lstRd I hH
  have hlen : its.toArray.size * k.toNat ≤ sizeLine := by rw [List.size_toArray, ← hl]; exact hz
  have hcap : ¬ its.toArray.size * k.toNat > (2 ^ 63 - 1) / 8 := by
    have : (sizeLine : Nat) ≤ (2 ^ 63 - 1) / 8 := by rw [sizeLine_eq]; decide
    omega
  have hfit : ¬ (!Builtin.List.listFitsIndex k) = true := by
    rw [fitsIndex_both h1 h2]
    exact Bool.false_ne_true
  have hlong : ¬ Builtin.List.listTooLong (its.toArray.size * k.toNat) = true := by
    rw [notLongL hlen]
    exact Bool.false_ne_true
  have hnew : List.foldl (fun x1 x2 => x1 ++ x2) #[] (List.replicate (if its.toArray.isEmpty = true then 0 else k.toNat) its.toArray) = (List.replicate k.toNat its).flatten.toArray := by
    rw [size_rep]
    cases its with
    | nil => simp
    | cons a r' => rw [if_neg (by simp)]
  refine wpAny_binaryOp_repeat_ref (T := "list") (U := "int") (by decide) ⟨_, e, rfl⟩ (fun s' => typeIs_int s' k t) noFill_list_mul F.fills_int_mul F.slot_int_rmul repeat_list F.slot_int_index.lookup
    (call_meets F.slot_int_rmul (typeIs_int s k t) F.entry_int_rmul (F.args_int_rmul_2 _ _) (int___rmul___int_list k t l its.toArray n)
      ⟨e, rfl, ⟨_, e, rfl⟩, call_meets F.slot_list_mul ⟨_, e, rfl⟩ F.entry_list_mul (F.args_list_mul_2 _ _) (AutoListH.list___mul___list_int_3 l its.toArray n k t hfit hcap hlong) ⟨e, ?_⟩⟩)
  rw [hnew]
  exact ⟨.ref _, _, I.lnew (t' := s.toks) (r.rep k.toNat) (by rw [PyProof.Rows.lm_len_rep_flat, Nat.mul_comm]; exact hz), rfl, q _ I.fresh⟩
/-- tuple * k, k ≤ 0 -/
theorem tuple_mul0 (l : Addr) (items : Array Value) (n : Nat) (dd : Option Addr) (sl : Array (Option Value)) (x : Int) (u : Tok) (c0 : (decide (x < -(2 ^ 63)) || decide (x ≥ 2 ^ 63)) = false) (c1 : (items.isEmpty || x == 1) = false) (c2 : (decide (x ≤ 0) || items.isEmpty) = true) :
    Meets (Builtin.«tuple.__mul__» ⟨[.ref l, .int x u], []⟩) (fun _ R s => s.heap.get? l = some { cls := .type "tuple", dict := dd, data := .seq items n, slots := sl } ∧
      R (.ok (.ret (Value.ref s.heap.objs.size))) { s with heap := s.heap.push { cls := Value.type "tuple", data := Data.seq #[] }, toks := s.toks }) :=
  .of_wp fun prog w A R s h => by
    obtain ⟨hp, g, d, tk, os⟩ := s
    obtain ⟨hl, h⟩ := h
    have f1 := AutoSeq1.idx_int
    wp_walk using wpAny_loadPart' hl
    repeat (first
      | (refine wpAny_ite_false (decide_eq_false (by rw [c0]; exact Bool.false_ne_true)) ?_; wp_walk using wpAny_loadPart' hl)
      | (refine wpAny_ite_false (decide_eq_false (by rw [c1]; exact Bool.false_ne_true)) ?_; wp_walk using wpAny_loadPart' hl)
      | (refine wpAny_ite_true (decide_eq_true c2) ?_; wp_walk using wpAny_loadPart' hl))
    exact ⟨_, rfl, h⟩
theorem tuple_mul1 (l : Addr) (items : Array Value) (n : Nat) (dd : Option Addr) (sl : Array (Option Value)) (u : Tok) :
    Meets (Builtin.«tuple.__mul__» ⟨[.ref l, .int 1 u], []⟩) (fun _ R s => s.heap.get? l = some { cls := .type "tuple", dict := dd, data := .seq items n, slots := sl } ∧ R (.ok (.ret (Value.ref l))) s) :=
  .of_wp fun prog w A R s h => by
    obtain ⟨hp, g, d, tk, os⟩ := s
    obtain ⟨hl, h⟩ := h
    have f1 := AutoSeq1.idx_int
    wp_walk using wpAny_loadPart' hl
    repeat (first
      | (refine wpAny_ite_false (by decide) ?_; wp_walk using wpAny_loadPart' hl)
      | (refine wpAny_ite_true (decide_eq_true (by simp)) ?_; wp_walk using wpAny_loadPart' hl))
    exact ⟨_, rfl, h⟩

theorem op_repTL {x y : V} {v u : Value} {Q : VK} {l : Addr} {k : Int} {xs : List V} (I : Inv X pins σ H s) (rx : RelV x v) (ry : RelV y u) (ex : x = .ref l) (ey : y = .int k) (hT : Rd H l (.tup xs)) (h1 : -(2 ^ 63) ≤ k) (h2 : k ≤ 1000) (hz : xs.length = 1)
    (q1 : k = 1 → Q (.ref l) H) (q : k ≠ 1 → ∀ p, H p = none → Q (.ref p) (upd H p (.tup (List.replicate k.toNat xs).flatten))) : wpAny (model X.prog X.w) X.A (binaryOp .Mult v u) (EP X pins σ Q) X.xe s := by
  by_cases hk : 2 ≤ k
  · exact op_repT pins s σ H x y v u Q I rx ry ⟨l, k, xs, ex, ey, Or.inl hT, (by intro e; rw [e] at hz; cases hz), hk, h2, by omega, q (by omega)⟩
  subst ex ey
  cases rx
  obtain ⟨t, rfl⟩ := ry
  obtain ⟨its, r, ⟨⟨cls, dd, data, sl⟩, ho, hc, n, hd⟩, hs⟩ := I.tuple (.inl hT)
  simp only at hc hd
  subst hc hd
  have hle : its.length = xs.length := r.length.symm
  have hi : its.toArray.isEmpty = false := by
    cases its with
    | nil => rw [hz] at hle; cases hle
    | cons a b => rfl
  by_cases k1 : k = 1
  · subst k1
    refine wpAny_binaryOp_repeat_ref (T := "tuple") (U := "int") (by decide) ⟨_, ho, rfl⟩ (fun s' => typeIs_int s' 1 t) noFill_tuple_mul F.fills_int_mul F.slot_int_rmul repeat_tuple F.slot_int_index.lookup
      (call_meets F.slot_int_rmul (typeIs_int s 1 t) F.entry_int_rmul (F.args_int_rmul_2 _ _) (int_rmul_tuple 1 t l its.toArray n dd sl)
        ⟨ho, rfl, ⟨_, ho, rfl⟩, call_meets F.slot_tuple_mul ⟨_, ho, rfl⟩ F.entry_tuple_mul (F.args_tuple_mul_2 _ _) (tuple_mul1 l its.toArray n dd sl t) ⟨ho, ?_⟩⟩)
    exact ⟨.ref l, H, I, rfl, q1 rfl⟩
  · have c0 : (decide (k < -(2 ^ 63)) || decide (k ≥ 2 ^ 63)) = false := by
      rw [decide_eq_false (by omega), decide_eq_false (by omega)] <;> rfl
    have c1 : (its.toArray.isEmpty || k == 1) = false := by
      rw [hi, Bool.false_or]
      exact beq_eq_false_iff_ne.mpr k1
    have c2 : (decide (k ≤ 0) || its.toArray.isEmpty) = true := by
      rw [decide_eq_true (by omega)] <;> rfl
    refine wpAny_binaryOp_repeat_ref (T := "tuple") (U := "int") (by decide) ⟨_, ho, rfl⟩ (fun s' => typeIs_int s' k t) noFill_tuple_mul F.fills_int_mul F.slot_int_rmul repeat_tuple F.slot_int_index.lookup
      (call_meets F.slot_int_rmul (typeIs_int s k t) F.entry_int_rmul (F.args_int_rmul_2 _ _) (int_rmul_tuple k t l its.toArray n dd sl)
        ⟨ho, rfl, ⟨_, ho, rfl⟩, call_meets F.slot_tuple_mul ⟨_, ho, rfl⟩ F.entry_tuple_mul (F.args_tuple_mul_2 _ _) (tuple_mul0 l its.toArray n dd sl k t c0 c1 c2) ⟨ho, ?_⟩⟩)
    have e0 : k.toNat = 0 := by omega
    have q' := q k1 s.heap.objs.size (I.hok.fresh (Nat.le_refl _))
    rw [e0] at q'
    exact ⟨.ref s.heap.objs.size, _, I.laid (t' := s.toks) (o := .tup []) (fun b ob q => Heap.get?_push_of_some _ q) (Nat.le_refl _) ⟨Nat.zero_le _, [], .nil, IsTup.new _ _⟩, rfl, q'⟩

theorem bin_sound (op : Operator) : OpR X (binaryOp op) (rB cl op) := by
  intro pins s σ H x y v u Q I rx ry h
  obtain ⟨Z, a, b, r, zt, ra, rb, e, q⟩ := h
  unfold binop at e
  split at e
  · cases e
    exact op_add pins s σ H x y v u Q I rx ry ⟨_, _, ra.int, rb.int, q _ _ (.int _)⟩
  · rename_i xs ys
    split at e
    · rename_i hz
      cases e
      obtain ⟨l, vs, ex, h1, q1⟩ := ra.lst
      obtain ⟨m, ws, ey, h2, q2⟩ := rb.lst
      exact op_catL I rx ry ex ey h1 h2 (by rw [q1.len, q2.len, ← SZ_eq]; exact hz) fun p hp => q _ _ (.list hp (q1.app q2))
    · cases e
  · rename_i xs ys
    split at e
    · rename_i hz
      cases e
      obtain ⟨l, vs, ex, z1, h1, q1⟩ := ra.tup
      obtain ⟨m, ws, ey, z2, h2, q2⟩ := rb.tup
      refine op_catA pins s σ H x y v u Q I rx ry ⟨l, m, vs, ws, ex, ey, .inl h1, .inl h2, by rw [q1.len, q2.len, ← SZ_eq]; exact hz, fun e0 => ?_, fun _ e0 => ?_, fun _ _ p hp => q _ _ (.tuple zt hp (q1.app q2))⟩
      · subst e0
        cases q1
        exact q _ _ (.same (.tup z2 h2 q2))
      · subst e0
        cases q2
        rw [List.append_nil] at q
        exact q _ _ (.same (.tup z1 h1 q1))
    · cases e
  · cases e
    exact op_sub pins s σ H x y v u Q I rx ry ⟨_, _, ra.int, rb.int, q _ _ (.int _)⟩
  · split at e
    · rename_i hc
      cases e
      exact op_mul pins s σ H x y v u Q I rx ry ⟨_, _, ra.int, rb.int, hc, q _ _ (.int _)⟩
    · cases e
  · split at e
    · rename_i hc
      cases e
      obtain ⟨l, vs, ex, h1, q1⟩ := ra.lst
      exact op_repL I rx ry ex rb.int h1 hc.1 hc.2.1 (by rw [q1.len, ← SZ_eq]; exact hc.2.2) fun p hp => q _ _ (.list hp (q1.rep _))
    · cases e
  · split at e
    · rename_i k hc
      cases e
      obtain ⟨l, vs, ex, z1, h1, q1⟩ := ra.tup
      refine op_repTL I rx ry ex rb.int h1 hc.2.1 hc.2.2 (by rw [q1.len]; exact hc.1) (fun e1 => ?_) fun _ p hp => q _ _ (.tuple zt hp (q1.rep _))
      subst e1
      have e2 : ∀ {α : Type} (l : List α), (List.replicate (1 : Int).toNat l).flatten = l := fun l => by simp
      rw [e2] at q
      exact q _ _ (.same (.tup z1 h1 q1))
    · cases e
  · split at e
    · rename_i hc
      cases e
      exact op_fdiv pins s σ H x y v u Q I rx ry ⟨_, _, ra.int, rb.int, hc, q _ _ (.int _)⟩
    · cases e
  · split at e
    · rename_i hc
      cases e
      exact op_mod pins s σ H x y v u Q I rx ry ⟨_, _, ra.int, rb.int, hc, q _ _ (.int _)⟩
    · cases e
  · split at e
    · rename_i hc
      cases e
      exact op_pow pins s σ H x y v u Q I rx ry ⟨_, _, ra.int, rb.int, hc, q _ _ (.int _)⟩
    · cases e
  · cases e

/-! ### comparisons -/
def rCm (cl : Nat → Addr) (op : CmpOp) : R2 := fun x y H Q => ∃ Z a b r, Rep1 cl H Z x a ∧ Rep1 cl H Z y b ∧ cmpop op a b = some r ∧ Q (.bl r) H
mutual
def toPy : D → PyData
  | .non => .none
  | .bl b => .bool b
  | .int i => .int i
  | .str s => .str s
  | .lst xs => .list (toPys xs)
  | .tup xs => .tuple (toPys xs)
  | _ => .none
def toPys : List D → List PyData
  | [] => []
  | x :: xs => toPy x :: toPys xs
end
mutual
theorem Rep.dp {Z : AdP} {K : PySem.W.Frag} {n : Nat} : ∀ {u : V} {d : D}, Rep cl H Z u d → D.lay n d = true → Dp K H u (toPy d)
  | _, _, .non, _ => .non
  | _, _, .bl b, _ => .bl b
  | _, _, .int i, _ => .int i
  | _, _, .str s, _ => .str s
  | _, _, .lst _ r q, h => by
    cases n with
    | zero => simp [D.lay] at h
    | succ n => exact .lst (.inl r) (Reps.dp q (by simpa [D.lay] using h))
  | _, _, .tup _ r q, h => by
    cases n with
    | zero => simp [D.lay] at h
    | succ n => exact .tup (.inl r) (Reps.dp q (by simpa [D.lay] using h))
  | _, _, .dct0 _ _, h => by cases n <;> simp [D.lay] at h
  | _, _, .obj _ _ _, h => by cases n <;> simp [D.lay] at h
theorem Reps.dp {Z : AdP} {K : PySem.W.Frag} {n : Nat} : ∀ {u : List V} {d : List D}, Reps cl H Z u d → D.lays n d = true → DpAll K H u (toPys d)
  | _, _, .nil, _ => .nil
  | _, _, .cons r q, h => by
    simp only [D.lays, Bool.and_eq_true] at h
    exact .cons (Rep.dp r h.1) (Reps.dp q h.2)
end
theorem Rep1.dp {Z : AdP} {K : PySem.W.Frag} {n : Nat} {u : V} {d : D} (r : Rep1 cl H Z u d) (h : D.lay n d = true) : Dp K H u (toPy d) := by
  cases r with
  | rep r => exact r.dp h
  | ob o =>
    cases o with
    | lst e q =>
      cases n with
      | zero => simp [D.lay] at h
      | succ n => exact .lst (.inl (.inl e)) (Reps.dp q (by simpa [D.lay] using h))
    | dct0 e => cases n <;> simp [D.lay] at h
    | obj e q => cases n <;> simp [D.lay] at h
mutual
theorem lay_can : ∀ (n : Nat) (d : D), D.lay n d = true → (toPy d).canLay0 = true ∧ (toPy d).depth ≤ n + 1
  | n, .non, _ => by simp [toPy, PyData.canLay0, PyData.depth]
  | n, .bl b, _ => by simp [toPy, PyData.canLay0, PyData.depth]
  | n, .int i, _ => by simp [toPy, PyData.canLay0, PyData.depth]
  | n, .str s, h => by
    have h' : s.cps.all (· < 0x110000) = true := by simpa [D.lay] using h
    exact ⟨by simp only [toPy, PyData.canLay0]; exact h', by simp [toPy, PyData.depth]⟩
  | 0, .lst xs, h => by simp [D.lay] at h
  | n + 1, .lst xs, h => by
    obtain ⟨h1, h2⟩ := lays_can n xs (by simpa [D.lay] using h)
    simp only [toPy, PyData.canLay0, PyData.depth]
    exact ⟨h1, by omega⟩
  | 0, .tup xs, h => by simp [D.lay] at h
  | n + 1, .tup xs, h => by
    obtain ⟨h1, h2⟩ := lays_can n xs (by simpa [D.lay] using h)
    simp only [toPy, PyData.canLay0, PyData.depth]
    exact ⟨h1, by omega⟩
  | n, .dct _, h => by cases n <;> simp [D.lay] at h
  | n, .set _, h => by cases n <;> simp [D.lay] at h
  | n, .obj _ _, h => by cases n <;> simp [D.lay] at h
theorem lays_can : ∀ (n : Nat) (d : List D), D.lays n d = true → PyData.canLayAll0 (toPys d) = true ∧ PyData.depthAll (toPys d) ≤ n + 1
  | n, [], _ => by simp [toPys, PyData.canLayAll0, PyData.depthAll]
  | n, x :: xs, h => by
    simp only [D.lays, Bool.and_eq_true] at h
    obtain ⟨h1, h2⟩ := lay_can n x h.1
    obtain ⟨h3, h4⟩ := lays_can n xs h.2
    simp only [toPys, PyData.canLayAll0, PyData.depthAll, Bool.and_eq_true]
    exact ⟨⟨h1, h3⟩, by omega⟩
end
theorem lay_shaped {n : Nat} {d : D} (hn : n ≤ 60) (h : D.lay n d = true) : SeqAt.shaped (toPy d) = true := by
  obtain ⟨h1, h2⟩ := lay_can n d h
  unfold SeqAt.shaped
  rw [h1, Bool.true_and]
  exact decide_eq_true (by omega)
mutual
theorem eqv_py : ∀ (n m : Nat) (a b : D), D.lay n a = true → D.lay m b = true → PyData.eqv (toPy a) (toPy b) = D.eqv a b := by
  intro n m a b ha hb
  cases a with
  | lst xs =>
    cases n with
    | zero => simp [D.lay] at ha
    | succ n =>
      cases b with
      | lst ys =>
        cases m with
        | zero => simp [D.lay] at hb
        | succ m =>
          simp only [toPy, PyData.eqv, D.eqv]
          exact eqvs_py n m xs ys (by simpa [D.lay] using ha) (by simpa [D.lay] using hb)
      | dct _ => cases m <;> simp [D.lay] at hb
      | set _ => cases m <;> simp [D.lay] at hb
      | obj _ _ => cases m <;> simp [D.lay] at hb
      | _ => simp [toPy, PyData.eqv, D.eqv]
  | tup xs =>
    cases n with
    | zero => simp [D.lay] at ha
    | succ n =>
      cases b with
      | tup ys =>
        cases m with
        | zero => simp [D.lay] at hb
        | succ m =>
          simp only [toPy, PyData.eqv, D.eqv]
          exact eqvs_py n m xs ys (by simpa [D.lay] using ha) (by simpa [D.lay] using hb)
      | dct _ => cases m <;> simp [D.lay] at hb
      | set _ => cases m <;> simp [D.lay] at hb
      | obj _ _ => cases m <;> simp [D.lay] at hb
      | _ => simp [toPy, PyData.eqv, D.eqv]
  | dct _ => cases n <;> simp [D.lay] at ha
  | set _ => cases n <;> simp [D.lay] at ha
  | obj _ _ => cases n <;> simp [D.lay] at ha
  | _ =>
    cases b with
    | dct _ => cases m <;> simp [D.lay] at hb
    | set _ => cases m <;> simp [D.lay] at hb
    | obj _ _ => cases m <;> simp [D.lay] at hb
    | _ => simp [toPy, PyData.eqv, D.eqv]
theorem eqvs_py : ∀ (n m : Nat) (a b : List D), D.lays n a = true → D.lays m b = true → PyData.eqvAll (toPys a) (toPys b) = D.eqvs a b
  | n, m, [], [], _, _ => by simp [toPys, PyData.eqvAll, D.eqvs]
  | n, m, [], _ :: _, _, _ => by simp [toPys, PyData.eqvAll, D.eqvs]
  | n, m, _ :: _, [], _, _ => by simp [toPys, PyData.eqvAll, D.eqvs]
  | n, m, x :: xs, y :: ys, ha, hb => by
    simp only [D.lays, Bool.and_eq_true] at ha hb
    simp only [toPys, PyData.eqvAll, D.eqvs]
    rw [eqv_py n m x y ha.1 hb.1, eqvs_py n m xs ys ha.2 hb.2]
end

theorem isin_py (n m : Nat) (x : D) (hx : D.lay n x = true) : ∀ xs : List D, D.lays m xs = true → ((toPys xs).any fun y => PyData.eqv y (toPy x)) = isin x xs
  | [], _ => rfl
  | y :: ys, h => by
    simp only [D.lays, Bool.and_eq_true] at h
    simp only [toPys, List.any_cons, isin, eqv_py m n y x h.1 hx, isin_py n m x hx ys h.2]
theorem map_some {α β : Type} {o : Option α} {f : α → β} {b : β} (h : o.map f = some b) : ∃ a, o = some a ∧ f a = b := by
  cases o with
  | none => cases h
  | some a => exact ⟨a, rfl, Option.some.inj h⟩
theorem mem_sound {op : CmpOp} {neg : Bool} (ho : (op = .In ∧ neg = false) ∨ (op = .NotIn ∧ neg = true)) (hu : X.A.units + 65 < cLine) :
    OpR X (compareOp op) (fun x y H Q => ∃ Z a b r, Rep1 cl H Z x a ∧ Rep1 cl H Z y b ∧ memD a b = some r ∧ Q (.bl (if neg then !r else r)) H) := by
  intro pins s σ H x y v u Q I rx ry h
  obtain ⟨Z, a, b, r, ra, rb, e, q⟩ := h
  unfold memD at e
  split at e
  · rename_i xs
    split at e
    · rename_i hl
      cases e
      rw [Bool.and_eq_true] at hl
      obtain ⟨as, r1⟩ := Dp.reads I _ x v (ra.dp (K := X.K) hl.1) rx
      have hy : D.lay 9 (.lst xs) = true := by simpa [D.lay] using hl.2
      obtain ⟨bs, r2⟩ := Dp.reads I _ y u (rb.dp (K := X.K) hy) ry
      have s1 := lay_shaped (by decide) hl.1
      have s2 := lay_shaped (by decide) hy
      rw [toPy] at r2 s2
      rcases ho with ⟨rfl, rfl⟩ | ⟨rfl, rfl⟩
      · exact SeqAt.in_list_reads r2 r1 (SeqAt.canLay_of_shaped s2) (SeqAt.canLay_of_shaped s1) (room_in_shaped s1 hu) ⟨.bl _, H, I, rfl, by rw [isin_py 8 8 a hl.1 xs hl.2]; exact q⟩
      · exact SeqAt.notIn_list_reads r2 r1 (SeqAt.canLay_of_shaped s2) (SeqAt.canLay_of_shaped s1) (room_in_shaped s1 hu) ⟨.bl _, H, I, rfl, by rw [isin_py 8 8 a hl.1 xs hl.2]; exact q⟩
    · cases e
  · rename_i xs
    split at e
    · rename_i hl
      cases e
      rw [Bool.and_eq_true] at hl
      obtain ⟨as, r1⟩ := Dp.reads I _ x v (ra.dp (K := X.K) hl.1) rx
      have hy : D.lay 9 (.tup xs) = true := by simpa [D.lay] using hl.2
      obtain ⟨bs, r2⟩ := Dp.reads I _ y u (rb.dp (K := X.K) hy) ry
      have s1 := lay_shaped (by decide) hl.1
      have s2 := lay_shaped (by decide) hy
      rw [toPy] at r2 s2
      rcases ho with ⟨rfl, rfl⟩ | ⟨rfl, rfl⟩
      · exact SeqAt.in_tuple_reads r2 r1 (SeqAt.canLay_of_shaped s2) (SeqAt.canLay_of_shaped s1) (room_in_shaped s1 hu) ⟨.bl _, H, I, rfl, by rw [isin_py 8 8 a hl.1 xs hl.2]; exact q⟩
      · exact SeqAt.notIn_tuple_reads r2 r1 (SeqAt.canLay_of_shaped s2) (SeqAt.canLay_of_shaped s1) (room_in_shaped s1 hu) ⟨.bl _, H, I, rfl, by rw [isin_py 8 8 a hl.1 xs hl.2]; exact q⟩
    · cases e
  · cases e
theorem isNon_of {Z : AdP} {x : V} {a : D} (r : Rep1 cl H Z x a) : decide (x = .non) = a.isNon := by
  cases r with
  | rep r => cases r <;> simp [D.isNon]
  | ob o => cases o <;> simp [D.isNon]
theorem cmp_sound (op : CmpOp) (hu : X.A.units + 65 < cLine) : OpR X (compareOp op) (rCm cl op) := by
  intro pins s σ H x y v u Q I rx ry h
  obtain ⟨Z, a, b, r, ra, rb, e, q⟩ := h
  unfold cmpop at e
  split at e
  · unfold D.pyEq at e
    split at e
    · rename_i hl
      cases e
      rw [Bool.and_eq_true] at hl
      exact op_eqD (by omega) pins s σ H x y v u Q I rx ry ⟨_, _, ra.dp hl.1, rb.dp hl.2, lay_shaped (by decide) hl.1, lay_shaped (by decide) hl.2, by rw [eqv_py 9 9 _ _ hl.1 hl.2]; exact q⟩
    · cases e
  · obtain ⟨r0, e, e2⟩ := map_some e
    unfold D.pyEq at e
    split at e
    · rename_i hl
      have e1 := Option.some.inj e
      rw [Bool.and_eq_true] at hl
      exact op_neD (by omega) pins s σ H x y v u Q I rx ry ⟨_, _, ra.dp hl.1, rb.dp hl.2, lay_shaped (by decide) hl.1, lay_shaped (by decide) hl.2, by rw [eqv_py 9 9 _ _ hl.1 hl.2, e1, show (!r0) = r from e2]; exact q⟩
    · cases e
  · cases e; exact op_lt pins s σ H x y v u Q I rx ry ⟨_, _, ra.int, rb.int, q⟩
  · cases e; exact op_le pins s σ H x y v u Q I rx ry ⟨_, _, ra.int, rb.int, q⟩
  · cases e; exact op_gt pins s σ H x y v u Q I rx ry ⟨_, _, ra.int, rb.int, q⟩
  · cases e; exact op_ge pins s σ H x y v u Q I rx ry ⟨_, _, ra.int, rb.int, q⟩
  · cases e; exact op_isN pins s σ H x y v u Q I rx ry ⟨rb.non, by rw [isNon_of ra]; exact q⟩
  · cases e; exact op_notN pins s σ H x y v u Q I rx ry ⟨rb.non, by rw [isNon_of ra]; exact q⟩
  · exact mem_sound (.inl ⟨rfl, rfl⟩) hu pins s σ H x y v u Q I rx ry ⟨Z, a, b, r, ra, rb, e, q⟩
  · obtain ⟨r0, e, e2⟩ := map_some e
    exact mem_sound (.inr ⟨rfl, rfl⟩) hu pins s σ H x y v u Q I rx ry ⟨Z, a, b, r0, ra, rb, e, by rw [if_pos rfl, show (!r0) = r from e2]; exact q⟩
  · cases e

/-! ### items, slices -/
def rIxD (cl : Nat → Addr) : R2 := fun x y H Q => ∃ Z a b d, Rep1 cl H Z x a ∧ Rep1 cl H Z y b ∧ idxD a b = some d ∧ ∀ u, Rep cl H Z u d → Q u H
theorem ixN_lt {n j : Nat} {i : Int} (h : FB.ixN n i = some j) : j < n := (L2.ixN_seq (show L2.ixN n i = some j from h)).2.1
theorem atI_rep {Z : AdP} {vs : List V} {ds : List D} {i : Int} {d : D} (q : Reps cl H Z vs ds) (h : FB.atI ds i = some d) : ∃ u, L2.atI vs i = some u ∧ Rep cl H Z u d := by
  unfold FB.atI at h
  obtain ⟨j, h1, h2⟩ := Option.bind_eq_some_iff.mp h
  obtain ⟨u, h3, h4⟩ := q.get h2
  refine ⟨u, ?_, h4⟩
  unfold L2.atI
  rw [show L2.ixN vs.length i = some j by rw [q.len]; exact h1]
  exact h3
theorem ix_sound : IxR X (rIxD cl) := by
  intro value slice pins s σ H x y v u Q I rx ry h hs
  obtain ⟨Z, a, b, d, ra, rb, e, q⟩ := h
  unfold idxD at e
  split at e
  · obtain ⟨l, vs, ex, h1, q1⟩ := ra.lst
    obtain ⟨w, h2, h3⟩ := atI_rep q1 e
    exact ix_list value slice pins s σ H x y v u Q I rx ry ⟨l, vs, _, w, ex, rb.int, .inl h1, h2, q w h3⟩ hs
  · obtain ⟨l, vs, ex, _, h1, q1⟩ := ra.tup
    obtain ⟨w, h2, h3⟩ := atI_rep q1 e
    exact ix_tup value slice pins s σ H x y v u Q I rx ry ⟨l, vs, _, w, ex, rb.int, .inl h1, h2, q w h3⟩ hs
  · cases e
theorem get_sound : PGet X (rIxL X.K) := by
  intro pins s σ H x y v u Q I rx ry h
  obtain ⟨p, xs, i, z, rfl, rfl, hq, he, q⟩ := h
  cases rx
  obtain ⟨t, rfl⟩ := ry
  obtain ⟨its, r, pl, hz⟩ := I.list hq
  obtain ⟨j, h1, h2, h3, h4, h5⟩ := atI_get he
  obtain ⟨w, ew, rw'⟩ := r.get h2
  have hl := r.length
  have hn := line63
  have fin : EP X pins σ Q w s := ⟨z, H, I, rw', q⟩
  by_cases h0 : 0 ≤ i
  · have hj : i.toNat = j := by
      rw [seqIndex_of h0 h5] at h1
      exact Option.some.inj h1
    exact getItem_listL pl.isList h0 (by omega) (by rw [hj]; exact ew) fin
  · have hj : (i + (its.toArray.size : Int)).toNat = j := by
      rw [seqIndex_neg (by omega) h4] at h1
      rw [List.size_toArray, ← hl]
      exact Option.some.inj h1
    exact wpAny_getItem_list_neg pl.isList (by omega) (by rw [List.size_toArray] <;> omega) (by omega) (by rw [hj]; simpa using ew) fin
def rSlD (cl : Nat → Addr) : V → Option Int → Option Int → Hp → VK → Prop := fun x lo hi H Q => ∃ Z a r, ZT Z H ∧ Rep1 cl H Z x a ∧ slcD a lo hi = some r ∧ ∀ u H1, NewR cl Z H r u H1 → Q u H1
theorem sIx_eq : FB.sIx = HT.sIx := rfl
theorem cut_rep {Z : AdP} {vs : List V} {ds : List D} {lo hi : Option Int} (q : Reps cl H Z vs ds) : Reps cl H Z (cutV vs lo hi) (cutD ds lo hi) := by
  unfold cutV cutD
  rw [sIx_eq, q.len]
  exact (q.drop _).take _
theorem cut_whole {α : Type} {xs : List α} {lo hi : Option Int} (h : HT.sIx xs.length 0 lo = 0 ∧ HT.sIx xs.length xs.length hi = xs.length) : cutD xs lo hi = xs := by
  unfold cutD
  rw [sIx_eq, h.1, h.2]
  simp
theorem sl_sound : SlR X (rSlD cl) := by
  intro pins s σ H x v vl vu lo hi sl Q I rx hs pl pu h
  obtain ⟨Z, a, r, zt, ra, e, q⟩ := h
  unfold slcD at e
  split at e
  · cases e
    obtain ⟨l, vs, ex, h1, q1⟩ := ra.lst
    exact sl_list pins s σ H x v vl vu lo hi sl Q I rx hs pl pu ⟨l, vs, ex, .inl h1, fun p hp => q _ _ (.list hp (cut_rep q1))⟩
  · cases e
    obtain ⟨l, vs, ex, z, h1, q1⟩ := ra.tup
    refine sl_tupA pins s σ H x v vl vu lo hi sl Q I rx hs pl pu ⟨l, vs, ex, .inl h1, fun hw => ?_, fun _ p hp => q _ _ (.tuple zt hp (cut_rep q1))⟩
    rw [q1.len] at hw
    rw [cut_whole hw] at q
    exact q _ _ (.same (.tup z h1 q1))
  · cases e

/-! ### built-in functions -/
inductive Reps1 (cl : Nat → Addr) (H : Hp) (Z : AdP) : List V → List D → Prop
  | nil : Reps1 cl H Z [] []
  | cons {v : V} {vs : List V} {d : D} {ds : List D} : Rep1 cl H Z v d → Reps1 cl H Z vs ds → Reps1 cl H Z (v :: vs) (d :: ds)
def bltName : Blt → Str
  | .len => "len" | .max2 => "max" | .min2 => "min" | .maxL => "max" | .minL => "min" | .sum => "sum" | .sorted => "sorted" | .tuple => "tuple" | .list => "list" | .int => "int" | .abs => "abs" | .all => "all" | .set0 => "set" | .setOf => "set" | .reprV => "repr"
def bltVal : Blt → Value
  | .len => .builtin "len" | .max2 => .builtin "max" | .min2 => .builtin "min" | .maxL => .builtin "max" | .minL => .builtin "min" | .sum => .builtin "sum" | .sorted => .builtin "sorted" | .tuple => .type "tuple" | .list => .type "list" | .int => .type "int" | .abs => .builtin "abs" | .all => .builtin "all" | .set0 => .type "set" | .setOf => .type "set" | .reprV => .builtin "repr"
theorem bltBoot (b : Blt) : bootBuiltins (bltName b) = some (bltVal b) := by cases b <;> decide +kernel
def rBl (cl : Nat → Addr) (b : Blt) : List V → Hp → VK → Prop := fun xs H Q => ∃ Z ds r, ZT Z H ∧ Reps1 cl H Z xs ds ∧ bltD b ds = some r ∧ ∀ u H1, NewR cl Z H r u H1 → Q u H1
theorem maxI_mem (x : Int) (xs : List Int) : maxI x xs ∈ x :: xs ∧ ∀ y ∈ x :: xs, y ≤ maxI x xs := by
  induction xs generalizing x with
  | nil => simp [maxI]
  | cons y r ih =>
    obtain ⟨h1, h2⟩ := ih (if x < y then y else x)
    unfold maxI
    generalize maxI (if x < y then y else x) r = m at h1 h2
    refine ⟨?_, fun z hz => ?_⟩
    · rcases List.mem_cons.mp h1 with e | h
      · rw [e]; split <;> simp
      · simp [h]
    · have h3 := h2 _ List.mem_cons_self
      rcases List.mem_cons.mp hz with e | hz
      · rw [e]; split at h3 <;> omega
      · rcases List.mem_cons.mp hz with e | hz
        · rw [e]; split at h3 <;> omega
        · exact h2 z (List.mem_cons_of_mem _ hz)
theorem minI_mem (x : Int) (xs : List Int) : minI x xs ∈ x :: xs ∧ ∀ y ∈ x :: xs, minI x xs ≤ y := by
  induction xs generalizing x with
  | nil => simp [minI]
  | cons y r ih =>
    obtain ⟨h1, h2⟩ := ih (if y < x then y else x)
    unfold minI
    generalize minI (if y < x then y else x) r = m at h1 h2
    refine ⟨?_, fun z hz => ?_⟩
    · rcases List.mem_cons.mp h1 with e | h
      · rw [e]; split <;> simp
      · simp [h]
    · have h3 := h2 _ List.mem_cons_self
      rcases List.mem_cons.mp hz with e | hz
      · rw [e]; split at h3 <;> omega
      · rcases List.mem_cons.mp hz with e | hz
        · rw [e]; split at h3 <;> omega
        · exact h2 z (List.mem_cons_of_mem _ hz)
theorem insI_perm (x : Int) (xs : List Int) : (insI x xs).Perm (x :: xs) := by
  induction xs with
  | nil => exact .refl _
  | cons y r ih =>
    unfold insI
    split
    · exact .refl _
    · exact (List.Perm.cons y ih).trans (.swap x y r)
theorem sortI_perm (xs : List Int) : (sortI xs).Perm xs := by
  induction xs with
  | nil => exact .refl _
  | cons x r ih => exact (insI_perm x _).trans (.cons x ih)
theorem insI_up (x : Int) (xs : List Int) (h : xs.Pairwise (· ≤ ·)) : (insI x xs).Pairwise (· ≤ ·) := by
  induction xs with
  | nil => simp [insI]
  | cons y r ih =>
    unfold insI
    obtain ⟨h1, h2⟩ := List.pairwise_cons.mp h
    split
    · rename_i hxy
      refine List.pairwise_cons.mpr ⟨fun z hz => ?_, h⟩
      rcases List.mem_cons.mp hz with e | hz
      · rw [e]; exact hxy
      · exact Int.le_trans hxy (h1 z hz)
    · rename_i hxy
      refine List.pairwise_cons.mpr ⟨fun z hz => ?_, ih h2⟩
      rcases List.mem_cons.mp ((insI_perm x r).mem_iff.mp hz) with e | hz
      · rw [e]; omega
      · exact h1 z hz
theorem sortI_up (xs : List Int) : (sortI xs).Pairwise (· ≤ ·) := by
  induction xs with
  | nil => exact .nil
  | cons x r ih => exact insI_up x _ ih
theorem up_unique : ∀ {xs ys : List Int}, xs.Perm ys → xs.Pairwise (· ≤ ·) → ys.Pairwise (· ≤ ·) → xs = ys
  | [], ys, p, _, _ => (List.Perm.nil_eq p)
  | x :: xs, [], p, _, _ => absurd p.length_eq (by simp)
  | x :: xs, y :: ys, p, h1, h2 => by
    obtain ⟨a1, a2⟩ := List.pairwise_cons.mp h1
    obtain ⟨b1, b2⟩ := List.pairwise_cons.mp h2
    have e : x = y := by
      have hx : x ∈ y :: ys := p.mem_iff.mp List.mem_cons_self
      have hy : y ∈ x :: xs := p.mem_iff.mpr List.mem_cons_self
      rcases List.mem_cons.mp hx with e | hx
      · exact e
      · rcases List.mem_cons.mp hy with e | hy
        · exact e.symm
        · have := a1 y hy
          have := b1 x hx
          omega
    subst e
    rw [up_unique (List.Perm.cons_inv p) a2 b2]
theorem blt_sound (b : Blt) (hc : X.calm = true) : CallR X (bltVal b) (rBl cl b) := by
  intro pins s σ H xs us Q I r h
  obtain ⟨Z, ds, r0, zt, q1, e, q⟩ := h
  unfold bltD at e
  split at e
  · cases e
    cases q1 with | cons ra t => cases t; obtain ⟨l, vs, ex, h1, q2⟩ := ra.lst; exact call_len pins s σ H _ us Q I r ⟨_, vs.length, rfl, by subst ex; exact .inl ⟨vs, .inl h1, rfl⟩, by rw [q2.len]; exact q _ _ (.int _)⟩
  · cases e
    cases q1 with | cons ra t => cases t; obtain ⟨l, vs, ex, _, h1, q2⟩ := ra.tup; exact call_len pins s σ H _ us Q I r ⟨_, vs.length, rfl, by subst ex; exact .inr ⟨vs, .inl h1, rfl⟩, by rw [q2.len]; exact q _ _ (.int _)⟩
  · cases e
    cases q1 with | cons ra t => cases t with | cons rb t => cases t; exact call_max2 hc pins s σ H _ us Q I r ⟨_, _, by rw [ra.int, rb.int], q _ _ (.int _)⟩
  · cases e
    cases q1 with | cons ra t => cases t with | cons rb t => cases t; exact call_min2 hc pins s σ H _ us Q I r ⟨_, _, by rw [ra.int, rb.int], q _ _ (.int _)⟩
  · split at e
    · rename_i i rr ei
      cases e
      cases q1 with | cons ra t =>
        cases t
        obtain ⟨l, vs, ex, h1, q2⟩ := ra.lst
        obtain ⟨e1, _⟩ := q2.intsOf ei
        subst e1 ex
        refine cr_max hc pins s σ H _ us Q I r ⟨l, _, rfl, .inl h1, Nat.succ_pos _, fun m m1 m2 => ?_⟩
        obtain ⟨n1, n2⟩ := maxI_mem i rr
        have em : m = maxI i rr := Int.le_antisymm (n2 m m1) (m2 _ n1)
        rw [em]
        exact q _ _ (.int _)
    · cases e
  · split at e
    · rename_i i rr ei
      cases e
      cases q1 with | cons ra t =>
        cases t
        obtain ⟨l, vs, ex, h1, q2⟩ := ra.lst
        obtain ⟨e1, _⟩ := q2.intsOf ei
        subst e1 ex
        refine cr_min hc pins s σ H _ us Q I r ⟨l, _, rfl, .inl h1, Nat.succ_pos _, fun m m1 m2 => ?_⟩
        obtain ⟨n1, n2⟩ := minI_mem i rr
        have em : m = minI i rr := Int.le_antisymm (m2 _ n1) (n2 m m1)
        rw [em]
        exact q _ _ (.int _)
    · cases e
  · split at e
    · rename_i is ei
      cases e
      cases q1 with | cons ra t =>
        cases t
        obtain ⟨l, vs, ex, h1, q2⟩ := ra.lst
        obtain ⟨e1, _⟩ := q2.intsOf ei
        subst e1 ex
        exact cr_sum hc pins s σ H _ us Q I r ⟨l, _, rfl, .inl h1, q _ _ (.int _)⟩
    · cases e
  · split at e
    · rename_i is ei
      cases e
      cases q1 with | cons ra t =>
        cases t
        obtain ⟨l, vs, ex, h1, q2⟩ := ra.lst
        obtain ⟨e1, _⟩ := q2.intsOf ei
        subst e1 ex
        refine cr_sortedI pins s σ H _ us Q I r ⟨l, _, rfl, .inl h1, fun ns' p p1 p2 hp => ?_⟩
        have en : ns' = sortI is := up_unique (p1.trans (sortI_perm is).symm) p2 (sortI_up is)
        rw [en]
        exact q _ _ (.list hp (Reps.ofInts _))
    · cases e
  · cases e
    cases q1 with | cons ra t => cases t; obtain ⟨l, vs, ex, h1, q2⟩ := ra.lst; subst ex; exact call_tuple_of pins s σ H _ us Q I r ⟨l, vs, rfl, .inl ⟨.inl h1, fun p hp => q _ _ (.tuple zt hp q2)⟩⟩
  · cases e
    cases q1 with | cons ra t => cases t; obtain ⟨l, vs, ex, z, h1, q2⟩ := ra.tup; subst ex; exact call_tuple_of pins s σ H _ us Q I r ⟨l, vs, rfl, .inr ⟨.inl h1, q _ _ (.same (.tup z h1 q2))⟩⟩
  · cases e
    cases q1 with | cons ra t => cases t; obtain ⟨l, vs, ex, h1, q2⟩ := ra.lst; subst ex; exact call_list_of pins s σ H _ us Q I r ⟨l, vs, rfl, .inl (.inl h1), fun p hp => q _ _ (.list hp q2)⟩
  · cases e
    cases q1 with | cons ra t => cases t; obtain ⟨l, vs, ex, _, h1, q2⟩ := ra.tup; subst ex; exact call_list_of pins s σ H _ us Q I r ⟨l, vs, rfl, .inr (.inl h1), fun p hp => q _ _ (.list hp q2)⟩
  · cases e
    cases q1 with | cons ra t => cases t; exact call_int1 pins s σ H _ us Q I r (.inl ⟨_, by rw [ra.int], q _ _ (.int _)⟩)
  · cases e
    cases q1 with | cons ra t => cases t; exact call_int1 pins s σ H _ us Q I r (.inr ⟨_, by rw [ra.bl], q _ _ (.int _)⟩)
  · cases e
    cases q1 with | cons ra t => cases t; exact call_abs pins s σ H _ us Q I r ⟨_, by rw [ra.int], q _ _ (.int _)⟩
  · split at e
    · rename_i bs eb
      cases e
      cases q1 with | cons ra t =>
        cases t
        obtain ⟨l, vs, ex, h1, q2⟩ := ra.lst
        have e1 := q2.boolsOf eb
        subst e1 ex
        exact cr_all hc pins s σ H _ us Q I r ⟨l, _, rfl, .inl h1, q _ _ (.bl _)⟩
    · cases e
  · cases e
end
end FB

set_option Elab.async false
set_option linter.all false
set_option maxRecDepth 100000
set_option maxHeartbeats 400000
namespace FB
open PySem PySem.Spec PyProof.Rows L2
section
variable {cl : Nat → Addr} {T : TabL} {O Z Z' Z'' : AdP} {ρ ρ' ρ'' : FB.Env} {σ : L2.St} {H H' H'' H0 : Hp}
theorem Pst.noOwn (s : Sim cl T Z ρ σ H) (p : Pst cl T σ Z H ρ Z' H' ρ') {a : Addr} (h : H a = none) : ¬ Own ρ' σ a := fun q => by
  obtain ⟨o, e, _⟩ := s.ownT (p.sub a q)
  rw [h] at e; cases e
/-- a value behind a further step -/
theorem VR.later {u : V} {v : Val} (s : Sim cl T Z ρ σ H) (p : Pst cl T σ Z H ρ Z' H' ρ') (r : VR cl H Z' H' ρ' σ u v) (q : Pst cl T σ Z' H' ρ' Z'' H'' ρ'') : VR cl H Z'' H'' ρ'' σ u v := by
  cases r with
  | imm r => exact .imm (r.mono (q.stay p.sim))
  | frs z n r => exact .frs (q.stp.ex _ z (p.noOwn s n)) n (r.mono (q.stay p.sim) fun o e nt => q.stp.keep _ o e (p.noOwn s n) nt)
  | vr e => exact .vr e
theorem VR.readL {u : V} {v : Val} {d : D} (s : Sim cl T Z ρ σ H) (p : Pst cl T σ Z H ρ Z' H' ρ') (r : VR cl H Z' H' ρ' σ u v) (e : rd ρ' v = some d) : Rep1 cl H' Z' u d :=
  r.read p.sim (fun _ h => p.noOwn s h) (.refl p.sim) e
/-- a fresh thing is let go -/
theorem Pst.let (s : Sim cl T Z ρ σ H) (p : Pst cl T σ Z H ρ Z' H' ρ') {a : Addr} (n : H a = none) : Pst cl T σ Z H ρ (fun b => Z' b ∧ b ≠ a) H' ρ' :=
  ⟨⟨p.stp.keep, p.stp.there, fun b z => p.stp.new b z.1, fun b z o => ⟨p.stp.ex b z o, fun q => by
    obtain ⟨u, e, _⟩ := s.zt b z
    rw [q, n] at e; cases e⟩⟩, p.sim.drop a (p.noOwn s n), p.sub⟩
theorem stay_less {a : Addr} : Stay Z H (fun b => Z b ∧ b ≠ a) H := fun _ _ e _ z => ⟨fun q => z q.1, e⟩
/-- the value as an operand -/
theorem VR.stl {u : V} {v : Val} (s : Sim cl T Z ρ σ H) (p : Pst cl T σ Z H ρ Z' H' ρ') (r : VR cl H Z' H' ρ' σ u v) : ∃ Z'', Pst cl T σ Z H ρ Z'' H' ρ' ∧ VR cl H Z'' H' ρ' σ u (stl v) := by
  cases r with
  | imm r => exact ⟨Z', p, .imm r⟩
  | frs z n r => exact ⟨_, p.let s n, .imm ((r.mono stay_less fun _ e _ => e).rep fun q => q.2 rfl)⟩
  | vr e => exact ⟨Z', p, .vr e⟩
/-- the value made plain -/
theorem VR.fz {u : V} {v : Val} {d : D} (s : Sim cl T Z ρ σ H) (p : Pst cl T σ Z H ρ Z' H' ρ') (r : VR cl H Z' H' ρ' σ u v) (e : fz ρ' v = some (d, ρ'')) : ∃ Z'', Pst cl T σ Z H ρ Z'' H' ρ'' ∧ Rep cl H' Z'' u d := by
  cases r with
  | imm r => cases e; exact ⟨Z', p, r⟩
  | frs z n r => cases e; exact ⟨_, p.let s n, (r.mono stay_less fun _ e _ => e).rep fun q => q.2 rfl⟩
  | @vr u i eu =>
    dsimp only [FB.fz] at e
    split at e
    · rename_i d0 q
      cases e
      obtain ⟨a, e1, z, ob⟩ := p.sim.own i d q
      rw [eu] at e1; cases e1
      obtain ⟨s2, r2, st2, sub2⟩ := p.sim.freeze q eu
      exact ⟨_, p.trans s ⟨st2, s2, sub2⟩, r2⟩
    · rename_i d0 q
      cases e
      obtain ⟨w, e1, r⟩ := p.sim.imm i d q
      rw [eu] at e1; cases e1
      exact ⟨Z', p, r⟩
    · cases e

/-! ### lists of values -/
inductive VRs (cl : Nat → Addr) (H0 : Hp) (Z : AdP) (H : Hp) (ρ : FB.Env) (σ : L2.St) : List V → List Val → Prop
  | nil : VRs cl H0 Z H ρ σ [] []
  | cons {u : V} {us : List V} {v : Val} {vs : List Val} : VR cl H0 Z H ρ σ u v → VRs cl H0 Z H ρ σ us vs → VRs cl H0 Z H ρ σ (u :: us) (v :: vs)
theorem VRs.start {us : List V} {vs : List Val} (h : ∀ a, H0 a = none → H a = none) (r : VRs cl H Z' H' ρ' σ us vs) (f : ∀ v ∈ vs, ∀ d, v ≠ .frs d) : VRs cl H0 Z' H' ρ' σ us vs := by
  induction r with
  | nil => exact .nil
  | cons r _ ih =>
    refine .cons ?_ (ih fun v hv => f v (List.mem_cons_of_mem _ hv))
    cases r with
    | imm r => exact .imm r
    | frs _ _ _ => exact absurd rfl (f _ List.mem_cons_self _)
    | vr e => exact .vr e
theorem VRs.read {us : List V} {vs : List Val} {ds : List D} (s : Sim cl T Z ρ σ H) (p : Pst cl T σ Z H ρ Z' H' ρ') (r : VRs cl H Z' H' ρ' σ us vs) (e : vs.mapM (rd ρ') = some ds) : Reps1 cl H' Z' us ds := by
  induction r generalizing ds with
  | nil => simp at e; subst e; exact .nil
  | @cons u us v vs r _ ih =>
    rw [List.mapM_cons] at e
    simp only [Option.bind_eq_bind, Option.bind_eq_some_iff, Option.pure_def, Option.some.injEq] at e
    obtain ⟨d, e1, ds', e2, e3⟩ := e
    subst e3
    exact .cons (r.readL s p e1) (ih e2)

/-! ### exceptions -/
/-- an exception of the class c with the fields ds: its class, its own dict -/
def ExR (C : Cfg) (cl : Nat → Addr) (Z : AdP) (H : Hp) (c : Nat) (ds : List D) (cls : Value) (d : Option Addr) : Prop :=
  ∃ (dd : Addr) (vf : List (Str × V)) (ns : List Str), cls = .ref (cl c) ∧ d = some dd ∧ H dd = some (.xd vf) ∧ ¬ Z dd ∧ C.fields c = some ns ∧ RepF cl H Z vf (ns.zip ds)

/-! ### what a def promises -/
inductive ArgsR (cl : Nat → Addr) (Z : AdP) (H : Hp) : List Bool → List V → List D → Prop
  | nil : ArgsR cl Z H [] [] []
  | plain {ms : List Bool} {v : V} {vs : List V} {d : D} {ds : List D} : Rep cl H Z v d → ArgsR cl Z H ms vs ds → ArgsR cl Z H (false :: ms) (v :: vs) (d :: ds)
  | raw {ms : List Bool} {a : Addr} {vs : List V} {d : D} {ds : List D} : Z a → Ob cl H Z a d → ArgsR cl Z H ms vs ds → ArgsR cl Z H (true :: ms) (.ref a :: vs) (d :: ds)
def rawA : List Bool → List V → List Addr
  | true :: ms, .ref a :: vs => a :: rawA ms vs
  | _ :: ms, _ :: vs => rawA ms vs
  | _, _ => []
inductive OutsR (cl : Nat → Addr) (Z : AdP) (H : Hp) : List Addr → List D → Prop
  | nil : OutsR cl Z H [] []
  | cons {a : Addr} {as : List Addr} {d : D} {ds : List D} : Z a → Ob cl H Z a d → OutsR cl Z H as ds → OutsR cl Z H (a :: as) (d :: ds)
/-- a call's answer: fresh or plain -/
def AnsR (cl : Nat → Addr) (H0 : Hp) (Z : AdP) (H : Hp) (fr : Bool) (u : V) (d : D) : Prop :=
  if fr = true then ∃ a, u = .ref a ∧ Z a ∧ H0 a = none ∧ Ob cl H Z a d else Rep cl H Z u d
structure Bk (cl : Nat → Addr) (T : TabL) (as : List Addr) (Z : AdP) (H : Hp) (Z' : AdP) (H' : Hp) (outs : List D) : Prop where
  stp : Stp (fun a => a ∈ as) Z H Z' H'
  zt : ZT Z' H'
  tab : LamX.Tabs T H'
  outs : OutsR cl Z' H' as outs
def spOf (C : Cfg) (cl : Nat → Addr) (T : TabL) (ms : List Bool) (F : List D → FR) : Sp := fun vs H Q E => ∃ Z ds, ZT Z H ∧ LamX.Tabs T H ∧ ArgsR cl Z H ms vs ds ∧ (rawA ms vs).Nodup ∧ match F ds with
  | .ok fr d outs => ∀ u H' Z', Bk cl T (rawA ms vs) Z H Z' H' outs → AnsR cl H Z' H' fr u d → Q u H'
  | .exc c xs outs => ∀ cls dd H' Z', Bk cl T (rawA ms vs) Z H Z' H' outs → ExR C cl Z' H' c xs cls dd → E cls dd H'
  | .stuck => False
theorem ArgsR.len {ms : List Bool} {vs : List V} {ds : List D} (r : ArgsR cl Z H ms vs ds) : vs.length = ms.length := by
  induction r with
  | nil => rfl
  | plain _ _ ih => simp [ih]
  | raw _ _ _ ih => simp [ih]

/-! ### the caller's arguments -/
def avA : List V → List AV → List Addr
  | .ref a :: us, .slot _ _ :: as => a :: avA us as
  | .ref a :: us, .temp _ :: as => a :: avA us as
  | _ :: us, _ :: as => avA us as
  | _, _ => []
def avM : List AV → List Bool
  | [] => []
  | .plain _ :: r => false :: avM r
  | _ :: r => true :: avM r
inductive AVR (cl : Nat → Addr) (H0 : Hp) (Z : AdP) (H : Hp) (ρ : FB.Env) (σ : L2.St) : List V → List AV → Prop
  | nil : AVR cl H0 Z H ρ σ [] []
  | plain {u : V} {us : List V} {d : D} {as : List AV} : Rep cl H Z u d → AVR cl H0 Z H ρ σ us as → AVR cl H0 Z H ρ σ (u :: us) (.plain d :: as)
  | slot {a : Addr} {us : List V} {i : Nat} {d : D} {as : List AV} : σ[i]? = some (some (.ref a)) → ρ[i]? = some (some ⟨true, d⟩) → AVR cl H0 Z H ρ σ us as → AVR cl H0 Z H ρ σ (.ref a :: us) (.slot i d :: as)
  | temp {a : Addr} {us : List V} {d : D} {as : List AV} : Z a → H0 a = none → a ∉ avA us as → Ob cl H Z a d → AVR cl H0 Z H ρ σ us as → AVR cl H0 Z H ρ σ (.ref a :: us) (.temp d :: as)
theorem avA_cons_plain {u : V} {us : List V} {d : D} {as : List AV} : avA (u :: us) (.plain d :: as) = avA us as := by cases u <;> rfl
/-- every handed-over thing is a slot's or fresh -/
theorem AVR.mem {us : List V} {as : List AV} (r : AVR cl H0 Z H ρ σ us as) {a : Addr} (h : a ∈ avA us as) : (∃ i d, i ∈ slotsOf as ∧ σ[i]? = some (some (.ref a)) ∧ ρ[i]? = some (some ⟨true, d⟩)) ∨ (Z a ∧ H0 a = none) := by
  induction r with
  | nil => simp [avA] at h
  | plain _ _ ih => rw [avA_cons_plain] at h; exact ih h
  | slot e1 e2 _ ih =>
    rcases List.mem_cons.mp h with e | h
    · subst e; exact .inl ⟨_, _, List.mem_cons_self, e1, e2⟩
    · rcases ih h with ⟨i, d, m, q⟩ | q
      · exact .inl ⟨i, d, List.mem_cons_of_mem _ m, q⟩
      · exact .inr q
  | temp z n _ _ _ ih =>
    rcases List.mem_cons.mp h with e | h
    · subst e; exact .inr ⟨z, n⟩
    · exact ih h
theorem AVR.slots {us : List V} {as : List AV} (r : AVR cl H0 Z H ρ σ us as) {i : Nat} (h : i ∈ slotsOf as) : ∃ a d, a ∈ avA us as ∧ σ[i]? = some (some (.ref a)) ∧ ρ[i]? = some (some ⟨true, d⟩) := by
  induction r with
  | nil => simp [slotsOf] at h
  | plain _ _ ih => rw [avA_cons_plain]; exact ih h
  | slot e1 e2 _ ih =>
    rcases List.mem_cons.mp h with e | h
    · subst e; exact ⟨_, _, List.mem_cons_self, e1, e2⟩
    · obtain ⟨a, d, m, q⟩ := ih h
      exact ⟨a, d, List.mem_cons_of_mem _ m, q⟩
  | temp z n _ _ _ ih =>
    obtain ⟨a, d, m, q⟩ := ih h
    exact ⟨a, d, List.mem_cons_of_mem _ m, q⟩
/-- the arguments as the callee has them -/
theorem AVR.args {us : List V} {as : List AV} (s : Sim cl T Z ρ σ H) (hz : ∀ a, H0 a = none → ¬ Own ρ σ a) (r : AVR cl H0 Z H ρ σ us as) : ArgsR cl Z H (avM as) us (as.map AV.d) ∧ rawA (avM as) us = avA us as := by
  induction r with
  | nil => exact ⟨.nil, rfl⟩
  | @plain u _ _ _ q _ ih =>
    refine ⟨.plain q ih.1, ?_⟩
    rw [avA_cons_plain, ← ih.2]
    cases u <;> rfl
  | slot e1 e2 _ ih =>
    obtain ⟨a, q1, z, ob⟩ := s.own _ _ e2
    rw [e1] at q1; cases q1
    exact ⟨.raw z ob ih.1, congrArg (_ :: ·) ih.2⟩
  | temp z n _ ob _ ih => exact ⟨.raw z ob ih.1, congrArg (_ :: ·) ih.2⟩
theorem AVR.nodup {us : List V} {as : List AV} (s : Sim cl T Z ρ σ H) (hz : ∀ a, H0 a = none → ¬ Own ρ σ a) (r : AVR cl H0 Z H ρ σ us as) (h : (slotsOf as).Nodup) : (avA us as).Nodup := by
  induction r with
  | nil => exact .nil
  | plain _ _ ih => rw [avA_cons_plain]; exact ih h
  | @slot a us i d as e1 e2 r ih =>
    obtain ⟨h1, h2⟩ := List.nodup_cons.mp (show (i :: slotsOf as).Nodup from h)
    refine List.nodup_cons.mpr ⟨fun m => ?_, ih h2⟩
    rcases r.mem m with ⟨j, e, mj, q1, q2⟩ | ⟨_, n⟩
    · have := s.dis i j d e a e2 q2 e1 q1
      subst this
      exact h1 mj
    · exact hz a n ⟨i, d, e2, e1⟩
  | temp z n nm _ _ ih => exact List.nodup_cons.mpr ⟨nm, ih h⟩
/-- what comes back is put into the slots -/
theorem putOuts_spec {as : List AV} {us : List V} (r : AVR cl H0 Z H ρ'' σ us as) : ∀ {outs : List D} {ρ ρ' : FB.Env}, putOuts as outs ρ = some ρ' → (slotsOf as).Nodup → OutsR cl Z' H' (avA us as) outs →
    ρ'.length = ρ.length ∧ (∀ i, i ∉ slotsOf as → ρ'[i]? = ρ[i]?) ∧ ∀ i, i ∈ slotsOf as → i < ρ.length → ∃ (a : Addr) (d : D), σ[i]? = some (some (.ref a)) ∧ ρ'[i]? = some (some ⟨true, d⟩) ∧ Z' a ∧ Ob cl H' Z' a d := by
  induction r with
  | nil =>
    intro outs ρ ρ' e nd o
    cases o
    cases e
    exact ⟨rfl, fun _ _ => rfl, fun i h => by simp [slotsOf] at h⟩
  | @plain u us d as q r ih =>
    intro outs ρ ρ' e nd o
    rw [avA_cons_plain] at o
    exact ih (show putOuts as outs ρ = some ρ' from by cases outs <;> exact e) nd o
  | @slot a us i d as e1 e2 r ih =>
    intro outs ρ ρ' e nd o
    cases o with
    | @cons _ _ d' ds z ob o =>
      obtain ⟨h1, h2⟩ := List.nodup_cons.mp (show (i :: slotsOf as).Nodup from nd)
      obtain ⟨q1, q2, q3⟩ := ih (show putOuts as ds (ρ.set i (some ⟨true, d'⟩)) = some ρ' from e) h2 o
      refine ⟨by rw [q1, List.length_set], fun j hj => ?_, fun j hj hl => ?_⟩
      · have n1 : j ≠ i := fun z => hj (by rw [z]; exact List.mem_cons_self)
        rw [q2 j fun z => hj (List.mem_cons_of_mem _ z), List.getElem?_set_ne (Ne.symm n1)]
      · by_cases hji : j = i
        · subst hji
          refine ⟨a, d', e1, ?_, z, ob⟩
          rw [q2 j h1, List.getElem?_set_self hl]
        · rcases List.mem_cons.mp hj with z | hj
          · exact absurd z hji
          · exact q3 j hj (by rw [List.length_set]; exact hl)
  | @temp a us d as z n nm ob r ih =>
    intro outs ρ ρ' e nd o
    cases o with
    | @cons _ _ d' ds z ob o => exact ih (show putOuts as ds ρ = some ρ' from e) nd o
/-- behind a call: the state with the slots' new contents -/
theorem call_back {Z0 : AdP} {ρ0 : FB.Env} {us : List V} {as : List AV} {outs : List D} (s0 : Sim cl T Z0 ρ0 σ H0) (p : Pst cl T σ Z0 H0 ρ0 Z H ρ) (r : AVR cl H0 Z H ρ σ us as) (nd : (slotsOf as).Nodup) (b : Bk cl T (avA us as) Z H Z' H' outs) (e : putOuts as outs ρ = some ρ') :
    Pst cl T σ Z0 H0 ρ0 Z' H' ρ' := by
  have s := p.sim
  have hz : ∀ a, H0 a = none → ¬ Own ρ σ a := fun a h => p.noOwn s0 h
  obtain ⟨q1, q2, q3⟩ := putOuts_spec r e nd b.outs
  have inZ : ∀ a, a ∈ avA us as → Z a := fun a h => by
    rcases r.mem h with ⟨i, d, _, e1, e2⟩ | ⟨z, _⟩
    · exact s.ownZ a ⟨i, d, e2, e1⟩
    · exact z
  have st : Stay Z H Z' H' := b.stp.stay inZ
  have sub : ∀ a, Own ρ' σ a → Own ρ σ a := fun a ⟨i, d, e1, e2⟩ => by
    by_cases hi : i ∈ slotsOf as
    · obtain ⟨a', d', _, e3, e4⟩ := r.slots hi
      rw [e2] at e3; cases e3
      exact ⟨i, d', e4, e2⟩
    · rw [q2 i hi] at e1
      exact ⟨i, d, e1, e2⟩
  have notIn : ∀ i d a, ρ[i]? = some (some ⟨true, d⟩) → σ[i]? = some (some (.ref a)) → i ∉ slotsOf as → a ∉ avA us as := fun i d a e1 e2 hi hm => by
    rcases r.mem hm with ⟨j, d', mj, e3, e4⟩ | ⟨_, n⟩
    · have := s.dis i j d d' a e1 e4 e2 e3
      subst this
      exact hi mj
    · exact hz a n ⟨i, d, e1, e2⟩
  have sim : Sim cl T Z' ρ' σ H' := by
    refine ⟨by rw [q1]; exact s.len, fun i d h => ?_, fun i d h => ?_, fun i j d d' a h1 h2 h3 h4 => ?_, b.zt, b.tab⟩
    · by_cases hi : i ∈ slotsOf as
      · obtain ⟨a, d', _, e1, e2⟩ := r.slots hi
        obtain ⟨_, _, _, e3, _⟩ := q3 i hi (List.getElem?_eq_some_iff.mp e2).1
        rw [h] at e3; cases e3
      · rw [q2 i hi] at h
        obtain ⟨v, e1, e2⟩ := s.imm i d h
        exact ⟨v, e1, e2.mono st⟩
    · by_cases hi : i ∈ slotsOf as
      · obtain ⟨a, d', _, e1, e2⟩ := r.slots hi
        obtain ⟨a', d2, e3, e4, z, ob⟩ := q3 i hi (List.getElem?_eq_some_iff.mp e2).1
        rw [h] at e4; cases e4
        exact ⟨a', e3, z, ob⟩
      · rw [q2 i hi] at h
        obtain ⟨a, e1, z, ob⟩ := s.own i d h
        have na := notIn i d a h e1 hi
        exact ⟨a, e1, b.stp.ex a z na, ob.mono st fun o e nt => b.stp.keep a o e na nt⟩
    · have back : ∀ (k : Nat) (x : D), ρ'[k]? = some (some ⟨true, x⟩) → ∃ y : D, ρ[k]? = some (some ⟨true, y⟩) := fun k x h => by
        by_cases hk : k ∈ slotsOf as
        · obtain ⟨_, y, _, _, e2⟩ := r.slots hk
          exact ⟨y, e2⟩
        · rw [q2 k hk] at h
          exact ⟨x, h⟩
      obtain ⟨y1, b1⟩ := back i d h1
      obtain ⟨y2, b2⟩ := back j d' h2
      exact s.dis i j y1 y2 a b1 b2 h3 h4
  refine ⟨p.stp.trans s0.zt b.stp fun a h => ?_, sim, fun a h => p.sub a (sub a h)⟩
  rcases r.mem h with ⟨i, d, _, e1, e2⟩ | ⟨_, n⟩
  · exact .inl (p.sub a ⟨i, d, e2, e1⟩)
  · exact .inr n
end
end FB

set_option Elab.async false
set_option linter.all false
set_option maxRecDepth 100000
set_option maxHeartbeats 800000
namespace FB
open PySem PySem.Spec PyProof.Rows L2
open Sem (wp)
open AutoSeq1 (wpAny_loadPart')

/-! ### lists and tuples as one: kind k (true: a tuple) -/
def SqK (k : Bool) (H : Hp) (a : Addr) (xs : List V) : Prop := Rd H a (if k = true then .tup xs else .lst xs)
def IsSqK (k : Bool) (h : Heap) (a : Addr) (its : Array Value) : Prop := if k = true then h.IsTuple a its else h.IsList a its
def IsItK (k : Bool) (h : Heap) (it a : Addr) (i : Nat) : Prop := if k = true then h.IsTupleIter it a i else h.IsListIter it a i
def itObj (k : Bool) (a : Addr) : Obj := if k = true then { cls := .type "tuple_iterator", data := .fields #[.ref a, .int 0 0] } else { cls := .type "list_iterator", data := .fields #[.ref a, .int 0 0] }
section
variable {X : Cx} {pins : List (Addr × Obj)} {σ : L2.St} {H : Hp} {s : Shared} {k : Bool} {a it : Addr} {xs ys : List V} {i : Nat}
theorem sqK_get (I : Inv X pins σ H s) (h : SqK k H a xs) : ∃ its : List Value, Vals xs its ∧ IsSqK k s.heap a its.toArray ∧ xs.length ≤ sizeLine := by
  cases k with
  | true =>
    obtain ⟨its, r, p, z⟩ := I.tuple (.inl h)
    exact ⟨its, r, p, z⟩
  | false =>
    obtain ⟨its, r, p, z⟩ := I.list (.inl h)
    exact ⟨its, r, p.isList, z⟩
theorem sqK_inj (I : Inv X pins σ H s) (h : SqK k H a xs) (h' : SqK k H a ys) : xs = ys := by
  cases k with
  | true => exact I.tuple_inj (.inl h) (.inl h')
  | false => exact I.list_inj (.inl h) (.inl h')
theorem IsItK.at {h h' : Heap} (x : IsItK k h it a i) (k' : ∀ o, h.get? it = some o → h'.get? it = some o) : IsItK k h' it a i := by
  cases k with
  | true => exact Heap.IsTupleIter.at (show h.IsTupleIter it a i from x) k'
  | false => exact Heap.IsListIter.at (show h.IsListIter it a i from x) k'
theorem IsItK.ob {h : Heap} (x : IsItK k h it a i) : ∃ o, h.get? it = some o ∧ ∀ v, o.data ≠ .cell v := by
  cases k with
  | true =>
    obtain ⟨o, e, _, d⟩ := (show h.IsTupleIter it a i from x)
    exact ⟨o, e, fun v z => by rw [d] at z; cases z⟩
  | false =>
    obtain ⟨o, e, _, d⟩ := (show h.IsListIter it a i from x)
    exact ⟨o, e, fun v z => by rw [d] at z; cases z⟩
theorem IsItK.lt {h : Heap} (x : IsItK k h it a i) : it < h.objs.size := let ⟨_, e, _⟩ := x.ob; Heap.lt_size e
theorem IsSqK.lt {h : Heap} {its : Array Value} (x : IsSqK k h a its) : a < h.objs.size := by
  cases k with
  | true => obtain ⟨o, e, _⟩ := (show h.IsTuple a its from x); exact Heap.lt_size e
  | false => obtain ⟨o, e, _⟩ := (show h.IsList a its from x); exact Heap.lt_size e
theorem begins_K (k : Bool) (l : Addr) (items : Array Value) : Begins (.ref l) (itObj k l) fun h => IsSqK k h l items := by
  cases k with
  | true => exact begins_tuple l items
  | false => exact begins_list l items
theorem itObj_is {h : Heap} (e : h.get? it = some (itObj k a)) : IsItK k h it a 0 := by
  cases k with
  | true => exact ⟨_, e, rfl, rfl⟩
  | false => exact ⟨_, e, rfl, rfl⟩
theorem draws_K {prog : Program} {w : World} {A : Around} (hh : A.handled = none) (k : Bool) (it l : Addr) (hne : l ≠ it) (items : Array Value) :
    Draws prog w A it [it, l] items.size (fun i v => items[i]? = some v) (fun i h => IsItK k h it l i ∧ IsSqK k h l items) := by
  cases k with
  | true => exact Draws.tuple hh it l hne items
  | false => exact Draws.list hh it l hne items
end

/-! ### enumerate(x) begins -/
theorem meets_enum1 {v : Value} {o : Obj} {H : Heap → Prop} (B : Begins v o H) :
    Meets (Builtin.«enumerate.__new__» ⟨[.type "enumerate", v], []⟩) (fun _ R s => H s.heap ∧
      R (.ok (.ret (.ref (s.heap.push o).objs.size))) { s with heap := (s.heap.push o).push { cls := .type "enumerate", data := .fields #[.none, .bool false, .ref s.heap.objs.size, rawInt 0, .none, .none] } }) :=
  .of_wp fun prog w A R s h => by
    obtain ⟨hp, g, d, tk, os⟩ := s; obtain ⟨h1, h⟩ := h
    have hsub := sub_enumerate
    have q1 : ∀ {A' : Around} {E : Value → Shared → Prop} {Q : Value → Shared → Prop}, Q (.ref hp.objs.size) ⟨(hp.push o), g, d, tk, os⟩ → wpAny (model prog w) A' (pyIter v) Q E ⟨hp, g, d, tk, os⟩ :=
      fun q => B.iter prog w _ _ ⟨hp, g, d, tk, os⟩ _ h1 q
    wp_walk
    refine wpAny_stack_any fun st => wpAny_pure ?_
    split
    · rename_i c _ _ _ _ _
      cases (c == Value.type "enumerate")
      · wp_walk using q1
        exact ⟨_, rfl, h⟩
      · wp_walk using q1
        exact ⟨_, rfl, h⟩
    · wp_walk using q1
      exact ⟨_, rfl, h⟩
theorem call_enum1 {prog : Program} {w : World} {A : Around} {E : Value → Shared → Prop} {s : Shared} {v : Value} {o : Obj} {H : Heap → Prop} {Q : Value → Shared → Prop} (B : Begins v o H) (h1 : H s.heap)
    (h : ∀ h', IsEnum h' (s.heap.objs.size + 1) s.heap.objs.size 0 .none → h'.get? s.heap.objs.size = some o → h'.objs.size = s.heap.objs.size + 2 →
      (∀ b o, s.heap.get? b = some o → h'.get? b = some o) → Q (.ref (s.heap.objs.size + 1)) { s with heap := h' }) :
    wpAny (model prog w) A (call (.type "enumerate") [v]) Q E s := by
  refine callType_new F.called_enumerate (by decide) (F.typeCall_enumerate_1 _) (F.newCall_enumerate_1 _) (fun obj => F.args_object_init_2 obj _) F.entry_enumerate_new
    (meets_enum1 B) ⟨h1, ?_⟩
  have hz : (s.heap.push o).objs.size = s.heap.objs.size + 1 := Heap.size_push ..
  show _ ∧ _
  rw [hz]
  have he : IsEnum ((s.heap.push o).push { cls := .type "enumerate", data := .fields #[.none, .bool false, .ref s.heap.objs.size, rawInt 0, .none, .none] }) (s.heap.objs.size + 1) s.heap.objs.size 0 .none := by
    have := Heap.get?_push_size (s.heap.push o) (o := { cls := .type "enumerate", data := .fields #[.none, .bool false, .ref s.heap.objs.size, rawInt 0, .none, .none] }) rfl
    rw [hz] at this; exact this
  exact ⟨⟨_, he, rfl⟩, h _ he (Heap.get?_push_of_some _ (Heap.get?_push_size _ B.free)) (by rw [Heap.size_push, hz]) fun b o x => Heap.get?_push_of_some _ (Heap.get?_push_of_some _ x)⟩

/-! ### enumerate walked -/
def IteK (k : Bool) (a : Addr) : L2.It :=
  ⟨fun i H => ∃ (xs : List V) (x : V), SqK k H a xs ∧ xs[i]? = some x, fun i H v H' => ∃ T x, v = .ref T ∧ H T = none ∧ H' = upd H T (.tup [.int (i : Nat), x]) ∧ ∀ xs, SqK k H a xs → xs[i]? = some x, fun i H => ∃ xs : List V, SqK k H a xs ∧ xs.length = i⟩
theorem turn_enumK {P : Program} {w : World} {K : PySem.W.Frag} {k : Bool} {elts : List Expr} {kk : Nat} {tpos : Pos} (a e it : Addr) (hai : a ≠ it) (hae : a ≠ e) :
    Turn P w K (.Tuple elts kk tpos) (IteK k a) [e, it] e (fun i h => (∃ old, IsEnum h e it ((i : Nat) : Int) old) ∧ IsItK k h it a i ∧ e ≠ it) where
  mem := by simp
  obj := fun i h st b hb => by
    obtain ⟨⟨old, he⟩, hi, _⟩ := st
    have e' : b = e ∨ b = it := by simpa using hb
    rcases e' with z | z
    · rw [z]; exact ⟨_, he, fun v q => nomatch q⟩
    · rw [z]; exact hi.ob
  keep := fun i h h' st k => let ⟨⟨old, he⟩, hi, hne⟩ := st; ⟨⟨old, k e (by simp) _ he⟩, hi.at fun o q => k it (by simp) o q, hne⟩
  item := by
    intro X hP hw hK hc i pins s σ H E I hf st hg
    subst hP hw hK
    obtain ⟨⟨old, he⟩, hit, hne⟩ := st
    obtain ⟨xs, x, hq, hx⟩ := hg
    obtain ⟨its, rv, p, hz⟩ := sqK_get I hq
    obtain ⟨u, hu, ru⟩ := rv.get hx
    have hel : e < s.heap.objs.size := Heap.lt_size he
    have hil : it < s.heap.objs.size := hit.lt
    have hi : i < its.toArray.size := by
      have := (List.getElem?_eq_some_iff.mp hu).1
      simpa using this
    refine wpAny_pyNext_enum_itemD (draws_K (A := X.A.in1) (prog := X.prog) (w := X.w) (show X.A.in1.handled = none from I.ok.hd hc) k it a hai its.toArray) he ⟨hit, p⟩ hi hne (by simp [hne, Ne.symm hae]) fun x' h' tk hx' ho hst' hT hsz hk => ?_
    have ex : x' = u := by
      have h2 : its.toArray[i]? = some u := by simpa using hu
      rw [h2] at hx'
      exact (Option.some.inj hx').symm
    subst ex
    refine ⟨_, rfl, wpAny_letOwnedTupleGo_enum (s := { s with heap := h', toks := tk + 1 }) ho fun h'' he' sb => ?_⟩
    have hT2 : h''.get? s.heap.objs.size = some { cls := .type "tuple", data := .seq #[.int i tk, x'] } := (sb.2 _ (Nat.ne_of_gt hel)).trans hT
    have new : ObjOk X.prog X.w (upd H s.heap.objs.size (.tup [.int (i : Nat), x])) h'' s.heap.objs.size (.tup [.int (i : Nat), x]) :=
      ⟨by show 2 ≤ sizeLine; decide, [.int i tk, x'], .cons ⟨_, rfl⟩ (.cons ru .nil), ⟨_, hT2, rfl, _, rfl⟩⟩
    have I1 : Inv X pins σ (upd H s.heap.objs.size (.tup [.int (i : Nat), x])) { s with heap := h'', toks := tk + 1 } :=
      I.turnedNew (ch := [e, it]) (fun b ob hb q => (sb.2 b (fun z => hb (by simp [z]))).trans (hk b ob (fun z => hb (by simp [z])) (fun z => hb (by simp [z])) q)) hf (Nat.le_refl _) new
    refine ⟨.ref s.heap.objs.size, _, I1, rfl, ⟨_, x, rfl, I.hok.fresh (Nat.le_refl _), rfl, fun ys hy => by rw [sqK_inj I hy hq]; exact hx⟩, ⟨⟨x', ?_⟩, hst'.1.at fun o q => (sb.2 it (Ne.symm hne)).trans q, hne⟩, fun b hb => ?_⟩
    · have e1 : ((i + 1 : Nat) : Int) = (i : Int) + 1 := by omega
      rw [e1]; exact he'
    · have hb' : b < s.heap.objs.size := by
        have e' : b = e ∨ b = it := by simpa using hb
        rcases e' with z | z
        · rw [z]; exact hel
        · rw [z]; exact hil
      rw [upd_ne (Nat.ne_of_lt hb')]
      exact (hf b hb).1
  done := by
    intro X hP hw hK hc i pins s σ H E I hf st hg
    subst hP hw hK
    obtain ⟨⟨old, he⟩, hit, hne⟩ := st
    obtain ⟨xs, hq, hx⟩ := hg
    obtain ⟨its, rv, p, hz⟩ := sqK_get I hq
    obtain ⟨f0, f1, f2, f3, f4, f5⟩ := hf it (by simp)
    have hl := rv.length
    have hn : its.toArray.size = i := by simp; omega
    refine wpAny_pyNext_enum_endD (draws_K (A := X.A.in1) (prog := X.prog) (w := X.w) (show X.A.in1.handled = none from I.ok.hd hc) k it a hai its.toArray) he (by rw [hn]; exact ⟨hit, p⟩) fun h' eb => ⟨rfl, I.turned (t' := s.toks) (fun b o hb q => eb b o hb q) f0 f1 f3 f4 f5⟩
  self := fun A i s Q E st h => let ⟨⟨_, he⟩, _⟩ := st; wpAny_pyIter_enum he h
def iEnumK (ta : TA) : TI := fun σ H R => ta σ H fun vs H1 => ∃ k a xs, vs = [.ref a] ∧ SqK k H1 a xs ∧ R (IteK k a) H1
theorem pi_enumK {X : Cx} {e : Expr} {ta : TA} {p pos tpos : Pos} {elts : List Expr} {kk : Nat} (hg : Gl X "enumerate") (hm : X.mg "enumerate" = none) (ha : PA X [e] ta) (hs : starEach [e] X.env = [(false, eval e X.env)]) :
    PI X (.Tuple elts kk tpos) (.Call (.Name "enumerate" p) [e] [] pos) (iEnumK ta) := by
  refine ⟨fun pins s σ H R I h => ?_⟩
  refine Call_ (ld_blt I hg hm boot_enumerate (PyProof.Rows.callWith_type1 (thn (ha.run pos pins s σ H _ I h) fun us s1 ⟨vs, H1, I1, r1, q1⟩ => ?_) hs rfl))
  obtain ⟨k, a, xs, ex, hq, q⟩ := q1
  subst ex
  cases r1 with
  | cons r rr =>
    cases rr
    cases r
    obtain ⟨its, rv, p', hz⟩ := sqK_get I1 hq
    refine call_enum1 (begins_K k a its.toArray) p' fun h' he hit hsz hk => wpAny_pyIter_enum he ?_
    have I2 : Inv X pins σ H1 { s1 with heap := h' } := I1.kept (t' := s1.toks) hk
    have hlt := p'.lt
    refine ⟨s1.heap.objs.size + 1, [s1.heap.objs.size + 1, s1.heap.objs.size], _, _, H1, rfl, I2, turn_enumK a (s1.heap.objs.size + 1) s1.heap.objs.size (Nat.ne_of_lt hlt) (Nat.ne_of_lt (Nat.lt_succ_of_lt hlt)), ⟨⟨.none, he⟩, itObj_is hit, Nat.succ_ne_self _⟩, fun b hb => ?_, q⟩
    have e' : b = s1.heap.objs.size + 1 ∨ b = s1.heap.objs.size := by simpa using hb
    have hle : s1.heap.objs.size ≤ b := by
      rcases e' with z | z
      · rw [z]; exact Nat.le_add_right _ _
      · rw [z]; exact Nat.le_refl _
    exact I1.fpOk hle (I1.hok.fresh hle)

/-! ### zip walked -/
def ItzK (k l : Bool) (a b : Addr) : L2.It :=
  ⟨fun i H => ∃ (xs ys : List V) (x y : V), SqK k H a xs ∧ SqK l H b ys ∧ xs[i]? = some x ∧ ys[i]? = some y,
    fun i H v H' => ∃ T x y, v = .ref T ∧ H T = none ∧ H' = upd H T (.tup [x, y]) ∧ (∀ xs, SqK k H a xs → xs[i]? = some x) ∧ ∀ ys, SqK l H b ys → ys[i]? = some y,
    fun i H => ∃ xs ys : List V, SqK k H a xs ∧ SqK l H b ys ∧ i ≤ xs.length ∧ i ≤ ys.length ∧ (i = xs.length ∨ i = ys.length)⟩
theorem turn_zipK {P : Program} {w : World} {K : PySem.W.Frag} {k l : Bool} {elts : List Expr} {kk : Nat} {tpos : Pos} {a b z TI TO i1 i2 : Addr} (S : ZipSep2 z TI TO i1 i2 [i1, a] [i2, b]) (n1 : a ≠ i1) (n2 : b ≠ i2) :
    Turn P w K (.Tuple elts kk tpos) (ItzK k l a b) [z, TI, TO, i1, i2] z (fun i h => IsZip h z TI TO .none ∧ IsTupOf2 h TI (.ref i1) (.ref i2) ∧ (∃ x y, IsTupOf2 h TO x y) ∧ IsItK k h i1 a i ∧ IsItK l h i2 b i) where
  mem := by simp
  obj := fun i h st c hc => by
    obtain ⟨hz, hTI, ⟨x, y, hTO⟩, h1, h2⟩ := st
    have e' : c = z ∨ c = TI ∨ c = TO ∨ c = i1 ∨ c = i2 := by simpa using hc
    rcases e' with q | q | q | q | q
    · rw [q]; exact ⟨_, hz, fun v q => nomatch q⟩
    · rw [q]; exact ⟨_, hTI, fun v q => nomatch q⟩
    · rw [q]; exact ⟨_, hTO, fun v q => nomatch q⟩
    · rw [q]; exact h1.ob
    · rw [q]; exact h2.ob
  keep := fun i h h' st k => by
    obtain ⟨hz, hTI, ⟨x, y, hTO⟩, h1, h2⟩ := st
    exact ⟨k z (by simp) _ hz, k TI (by simp) _ hTI, ⟨x, y, k TO (by simp) _ hTO⟩, h1.at fun o q => k i1 (by simp) o q, h2.at fun o q => k i2 (by simp) o q⟩
  item := by
    intro X hP hw hK hc i pins s σ H E I hf st hg
    subst hP hw hK
    obtain ⟨hz, hTI, ⟨x0, y0, hTO⟩, h1, h2⟩ := st
    obtain ⟨xs, ys, x, y, hqx, hqy, hx, hy⟩ := hg
    obtain ⟨its, rv, p, _⟩ := sqK_get I hqx
    obtain ⟨its2, rv2, p2, _⟩ := sqK_get I hqy
    obtain ⟨u, hu, ru⟩ := rv.get hx
    obtain ⟨u2, hu2, ru2⟩ := rv2.get hy
    have hzl : z < s.heap.objs.size := Heap.lt_size hz
    have hi1 : i < its.toArray.size := by
      have := (List.getElem?_eq_some_iff.mp hu).1
      simpa using this
    have hi2 : i < its2.toArray.size := by
      have := (List.getElem?_eq_some_iff.mp hu2).1
      simpa using this
    refine wpAny_pyNext_zipD2_item S (draws_K (A := X.A.in1) (prog := X.prog) (w := X.w) (show X.A.in1.handled = none from I.ok.hd hc) k i1 a n1 its.toArray) (draws_K (A := X.A.in1) (prog := X.prog) (w := X.w) (show X.A.in1.handled = none from I.ok.hd hc) l i2 b n2 its2.toArray) hz hTI hTO ⟨h1, p⟩ ⟨h2, p2⟩ hi1 hi2 fun x1 x2 h' tk hx1 hx2 z' TO' d1 d2 hT hsz hk => ?_
    have e1 : x1 = u := by
      have q : its.toArray[i]? = some u := by simpa using hu
      rw [q] at hx1
      exact (Option.some.inj hx1).symm
    have e2 : x2 = u2 := by
      have q : its2.toArray[i]? = some u2 := by simpa using hu2
      rw [q] at hx2
      exact (Option.some.inj hx2).symm
    subst e1 e2
    refine ⟨_, rfl, wpAny_letOwnedTupleGo_zip (s := { s with heap := h', toks := tk }) z' fun h'' z'' sb => ?_⟩
    have hT2 : h''.get? s.heap.objs.size = some { cls := .type "tuple", data := .seq #[x1, x2] } := (sb.2 _ (Nat.ne_of_gt hzl)).trans hT
    have new : ObjOk X.prog X.w (upd H s.heap.objs.size (.tup [x, y])) h'' s.heap.objs.size (.tup [x, y]) :=
      ⟨by show 2 ≤ sizeLine; decide, [x1, x2], .cons ru (.cons ru2 .nil), ⟨_, hT2, rfl, _, rfl⟩⟩
    have I1 : Inv X pins σ (upd H s.heap.objs.size (.tup [x, y])) { s with heap := h'', toks := tk } :=
      I.turnedNew (t' := tk) (ch := [z, TI, TO, i1, i2]) (fun c o hb q => (sb.2 c (fun q' => hb (by simp [q']))).trans (hk c o (fun q' => hb (by simp [q'])) (fun q' => hb (by simp [q'])) (fun q' => hb (by simp [q'])) (fun q' => hb (by simp [q'])) q)) hf (Nat.le_refl _) new
    have zi1 : i1 ≠ z := fun q => S.zf1 (by rw [← q]; simp)
    have zi2 : i2 ≠ z := fun q => S.zf2 (by rw [← q]; simp)
    refine ⟨.ref s.heap.objs.size, _, I1, rfl, ⟨_, x, y, rfl, I.hok.fresh (Nat.le_refl _), rfl, fun l' hl' => by rw [sqK_inj I hl' hqx]; exact hx, fun l' hl' => by rw [sqK_inj I hl' hqy]; exact hy⟩, ⟨z'', ?_, ⟨x1, x2, ?_⟩, ?_, ?_⟩, fun c hcm => ?_⟩
    · exact (sb.2 _ S.TIz).trans (hk _ _ S.TIz S.TITO S.TIi1 S.TIi2 hTI)
    · exact (sb.2 _ S.TOz).trans TO'
    · exact d1.1.at fun o q => (sb.2 _ zi1).trans q
    · exact d2.1.at fun o q => (sb.2 _ zi2).trans q
    · have hlt : c < s.heap.objs.size := by
        have e' : c = z ∨ c = TI ∨ c = TO ∨ c = i1 ∨ c = i2 := by simpa using hcm
        rcases e' with q | q | q | q | q
        · rw [q]; exact hzl
        · rw [q]; exact Heap.lt_size hTI
        · rw [q]; exact Heap.lt_size hTO
        · rw [q]; exact h1.lt
        · rw [q]; exact h2.lt
      rw [upd_ne (Nat.ne_of_lt hlt)]
      exact (hf c hcm).1
  done := by
    intro X hP hw hK hc i pins s σ H E I hf st hg
    subst hP hw hK
    obtain ⟨hz, hTI, ⟨x0, y0, hTO⟩, h1, h2⟩ := st
    obtain ⟨xs, ys, hqx, hqy, le1, le2, hend⟩ := hg
    obtain ⟨its, rv, p, _⟩ := sqK_get I hqx
    obtain ⟨its2, rv2, p2, _⟩ := sqK_get I hqy
    have l1 := rv.length
    have l2 := rv2.length
    have m1 : its.toArray.size = xs.length := by simp [l1]
    have m2 : its2.toArray.size = ys.length := by simp [l2]
    exact wpAny_pyNext_zipD2_end S (draws_K (A := X.A.in1) (prog := X.prog) (w := X.w) (show X.A.in1.handled = none from I.ok.hd hc) k i1 a n1 its.toArray) (draws_K (A := X.A.in1) (prog := X.prog) (w := X.w) (show X.A.in1.handled = none from I.ok.hd hc) l i2 b n2 its2.toArray) hz hTI hTO ⟨h1, p⟩ ⟨h2, p2⟩ (by rw [m1]; exact le1) (by rw [m2]; exact le2) (by rw [m1, m2]; exact hend) fun h' tk hk => ⟨rfl, I.turnedL (t' := tk) (ch := [z, TI, TO, i1, i2]) (fun c o hb q =>
      hk c o (fun q' => hb (by simp [q'])) (fun q' => hb (by simp [q'])) (fun q' => hb (by simp [q'])) (fun q' => hb (by simp [q'])) q) hf⟩
  self := fun A i s Q E st h => wpAny_pyIter_zip st.1 h
def iZipK (ta : TA) : TI := fun σ H R => ta σ H fun vs H1 => ∃ k l a b xs ys, vs = [.ref a, .ref b] ∧ SqK k H1 a xs ∧ SqK l H1 b ys ∧ R (ItzK k l a b) H1
theorem pi_zipK {X : Cx} {e e2 : Expr} {ta : TA} {p pos tpos : Pos} {elts : List Expr} {kk : Nat} (hg : Gl X "zip") (hm : X.mg "zip" = none) (ha : PA X [e, e2] ta)
    (hs : starEach [e, e2] X.env = (false, eval e X.env) :: starEach [e2] X.env) (hpl : (backTo pos (starEach [e2] X.env)).any (·.1) = false) :
    PI X (.Tuple elts kk tpos) (.Call (.Name "zip" p) [e, e2] [] pos) (iZipK ta) := by
  refine ⟨fun pins s σ H R I h => ?_⟩
  refine Call_ (ld_blt I hg hm PyProof.Rows.boot_zip (PyProof.Rows.callWith_type1 (thn (ha.run pos pins s σ H _ I h) fun us s1 ⟨vs, H1, I1, r1, q1⟩ => ?_) hs hpl))
  obtain ⟨k, l, a, b, xs, ys, ex, hqx, hqy, q⟩ := q1
  subst ex
  cases r1 with
  | cons r rr =>
    cases rr with
    | cons r' rr =>
      cases rr
      cases r
      cases r'
      obtain ⟨its, rv, p1, _⟩ := sqK_get I1 hqx
      obtain ⟨its2, rv2, p2, _⟩ := sqK_get I1 hqy
      have la := p1.lt
      have lb := p2.lt
      refine zip_begins2 (begins_K k a its.toArray) (begins_K l b its2.toArray) p1 p2 fun h' hz hTI hTO h1 h2 hsz hk => wpAny_pyIter_zip hz ?_
      have I2 : Inv X pins σ H1 { s1 with heap := h' } := I1.kept (t' := s1.toks) hk
      refine ⟨s1.heap.objs.size + 4, [s1.heap.objs.size + 4, s1.heap.objs.size + 2, s1.heap.objs.size + 3, s1.heap.objs.size, s1.heap.objs.size + 1], _, _, H1, rfl, I2,
        turn_zipK (zip_sep2 (fp1 := [a]) (fp2 := [b]) (fun c hc => by rw [List.mem_singleton.mp hc]; exact la) (fun c hc => by rw [List.mem_singleton.mp hc]; exact lb)) (Nat.ne_of_lt la) (Nat.ne_of_lt (Nat.lt_succ_of_lt lb)), ⟨hz, hTI, ⟨_, _, hTO⟩, itObj_is h1, itObj_is h2⟩, fun c hcm => ?_, q⟩
      have e' : c = s1.heap.objs.size + 4 ∨ c = s1.heap.objs.size + 2 ∨ c = s1.heap.objs.size + 3 ∨ c = s1.heap.objs.size ∨ c = s1.heap.objs.size + 1 := by simpa using hcm
      have hle : s1.heap.objs.size ≤ c := by
        rcases e' with z | z | z | z | z
        · rw [z]; exact Nat.le_add_right _ _
        · rw [z]; exact Nat.le_add_right _ _
        · rw [z]; exact Nat.le_add_right _ _
        · rw [z]; exact Nat.le_refl _
        · rw [z]; exact Nat.le_add_right _ _
      exact I1.fpOk hle (I1.hok.fresh hle)

/-! ### what is walked, as a list of trees -/
structure Wk (cl : Nat → Addr) (J : L2.It) (Z : AdP) (H : Hp) (ds : List D) : Prop where
  go : ∀ i H2 Z2, i < ds.length → Stay Z H Z2 H2 → J.go i H2
  stop : ∀ H2 Z2, Stay Z H Z2 H2 → J.stop ds.length H2
  yld : ∀ i H2 Z2 x H3 d, ds[i]? = some d → Stay Z H Z2 H2 → ZT Z2 H2 → J.yld i H2 x H3 → NewR cl Z2 H2 (false, d) x H3
section
variable {cl : Nat → Addr} {Z : AdP} {H : Hp}
/-- a list or a tuple that is left as it is -/
theorem Reps.sqK {a : Addr} {d : D} {ds : List D} (r : Rep cl H Z (.ref a) d) (e : items d = some ds) : ∃ k vs, ¬ Z a ∧ SqK k H a vs ∧ Reps cl H Z vs ds := by
  cases r with
  | lst z r q => cases e; exact ⟨false, _, z, r, q⟩
  | tup z r q => cases e; exact ⟨true, _, z, r, q⟩
  | dct0 _ _ => cases e
  | obj _ _ _ => cases e
theorem items_ref {u : V} {d : D} {ds : List D} (r : Rep cl H Z u d) (e : items d = some ds) : ∃ a, u = .ref a := by
  cases r <;> first | exact ⟨_, rfl⟩ | cases e
theorem SqK.stay {k : Bool} {a : Addr} {vs : List V} {Z2 : AdP} {H2 : Hp} (s : Stay Z H Z2 H2) (z : ¬ Z a) (h : SqK k H a vs) : SqK k H2 a vs := by
  cases k with
  | true => exact (s.rd nt_tup z h).2
  | false => exact (s.rd nt_lst z h).2
theorem wk_list {K : PySem.W.Frag} {a : Addr} {vs : List V} {ds : List D} (z : ¬ Z a) (h : SqK false H a vs) (r : Reps cl H Z vs ds) : Wk cl (Itl K a) Z H ds where
  go := fun i H2 Z2 hi s => by
    have hi' : i < vs.length := by rw [r.len]; exact hi
    exact ⟨vs, vs[i], .inl (SqK.stay s z h), by simp [hi']⟩
  stop := fun H2 Z2 s => ⟨vs, .inl (SqK.stay s z h), by rw [r.len]; exact Nat.le_refl _⟩
  yld := fun i H2 Z2 x H3 d hd s _ y => by
    obtain ⟨e, y⟩ := y
    subst e
    obtain ⟨v, hv, rv⟩ := r.get hd
    have := y vs (.inl (SqK.stay s z h))
    rw [hv] at this; cases this
    exact .same (rv.mono s)
theorem wk_tup {K : PySem.W.Frag} {a : Addr} {vs : List V} {ds : List D} (z : ¬ Z a) (h : SqK true H a vs) (r : Reps cl H Z vs ds) : Wk cl (Itt K a) Z H ds where
  go := fun i H2 Z2 hi s => by
    have hi' : i < vs.length := by rw [r.len]; exact hi
    exact ⟨vs, vs[i], .inl (SqK.stay s z h), by simp [hi']⟩
  stop := fun H2 Z2 s => ⟨vs, .inl (SqK.stay s z h), by rw [r.len]; exact Nat.le_refl _⟩
  yld := fun i H2 Z2 x H3 d hd s _ y => by
    obtain ⟨e, y⟩ := y
    subst e
    obtain ⟨v, hv, rv⟩ := r.get hd
    have := y vs (.inl (SqK.stay s z h))
    rw [hv] at this; cases this
    exact .same (rv.mono s)
theorem rangeL_len : ∀ (n : Nat) (lo : Int), (rangeL lo n).length = n
  | 0, _ => rfl
  | n + 1, lo => congrArg (· + 1) (rangeL_len n (lo + 1))
theorem rangeL_get : ∀ (n i : Nat) (lo : Int) (d : D), (rangeL lo n)[i]? = some d → d = .int (lo + i)
  | 0, _, _, _, h => by simp [rangeL] at h
  | n + 1, 0, lo, d, h => by
    simp [rangeL] at h
    rw [← h]; simp
  | n + 1, i + 1, lo, d, h => by
    have := rangeL_get n i (lo + 1) d (by simpa [rangeL] using h)
    rw [this]
    congr 1
    omega
theorem rangeC_len : ∀ (n : Nat) (lo c : Int), (rangeC lo c n).length = n
  | 0, _, _ => rfl
  | n + 1, lo, c => congrArg (· + 1) (rangeC_len n (lo + c) c)
theorem rangeC_get : ∀ (n i : Nat) (lo c : Int) (d : D), (rangeC lo c n)[i]? = some d → d = .int (lo + i * c)
  | 0, _, _, _, _, h => by simp [rangeC] at h
  | n + 1, 0, lo, c, d, h => by
    simp [rangeC] at h
    rw [← h]; simp
  | n + 1, i + 1, lo, c, d, h => by
    have := rangeC_get n i (lo + c) c d (by simpa [rangeC] using h)
    rw [this]
    have e : ((i + 1 : Nat) : Int) * c = i * c + c := by rw [Int.natCast_add, Int.add_mul]; simp
    rw [e]
    congr 1
    omega
theorem wk_range {lo : Int} {n : Nat} : Wk cl (Itr lo n) Z H (rangeL lo n) where
  go := fun i H2 Z2 hi _ => by rw [rangeL_len] at hi; exact hi
  stop := fun H2 Z2 _ => by rw [rangeL_len]; exact Nat.le_refl _
  yld := fun i H2 Z2 x H3 d hd _ _ y => by
    obtain ⟨e, y⟩ := y
    subst e y
    rw [rangeL_get n i lo d hd]
    exact .int _
theorem wk_rangeC {lo c : Int} {n : Nat} : Wk cl (Itc lo c n) Z H (rangeC lo c n) where
  go := fun i H2 Z2 hi _ => by rw [rangeC_len] at hi; exact hi
  stop := fun H2 Z2 _ => by rw [rangeC_len]; exact Nat.le_refl _
  yld := fun i H2 Z2 x H3 d hd _ _ y => by
    obtain ⟨e, y⟩ := y
    subst e y
    rw [rangeC_get n i lo c d hd]
    exact .int _
theorem enumL_get : ∀ (ds : List D) (k : Int) (i : Nat) (d : D), (enumL k ds)[i]? = some d → ∃ x, ds[i]? = some x ∧ d = .tup [.int (k + i), x]
  | [], _, _, _, h => by simp [enumL] at h
  | x :: xs, k, 0, d, h => by
    simp [enumL] at h
    exact ⟨x, by simp, by rw [← h]; simp⟩
  | x :: xs, k, i + 1, d, h => by
    obtain ⟨y, h1, h2⟩ := enumL_get xs (k + 1) i d (by simpa [enumL] using h)
    refine ⟨y, by simpa using h1, ?_⟩
    rw [h2]
    have : k + 1 + (i : Int) = k + ((i + 1 : Nat) : Int) := by omega
    rw [this]
theorem enumL_len : ∀ (ds : List D) (k : Int), (enumL k ds).length = ds.length
  | [], _ => rfl
  | x :: xs, k => congrArg (· + 1) (enumL_len xs (k + 1))
theorem wk_enum {k : Bool} {a : Addr} {vs : List V} {ds : List D} (z : ¬ Z a) (h : SqK k H a vs) (r : Reps cl H Z vs ds) : Wk cl (IteK k a) Z H (enumL 0 ds) where
  go := fun i H2 Z2 hi s => by
    rw [enumL_len] at hi
    have hi' : i < vs.length := by rw [r.len]; exact hi
    exact ⟨vs, vs[i], SqK.stay s z h, by simp [hi']⟩
  stop := fun H2 Z2 s => ⟨vs, SqK.stay s z h, by rw [enumL_len, r.len]⟩
  yld := fun i H2 Z2 x H3 d hd s zt y => by
    obtain ⟨T, x', e1, e2, e3, y⟩ := y
    subst e1 e3
    obtain ⟨d', h1, h2⟩ := enumL_get _ _ _ _ hd
    subst h2
    obtain ⟨v, hv, rv⟩ := r.get h1
    have := y vs (SqK.stay s z h)
    rw [hv] at this; cases this
    rw [show (0 : Int) + (i : Int) = (i : Nat) by omega]
    exact .tuple zt e2 (.cons (.int _) (.cons (rv.mono s) .nil))
theorem zipL_get : ∀ (ds es : List D) (i : Nat) (d : D), (zipL ds es)[i]? = some d → ∃ x y, ds[i]? = some x ∧ es[i]? = some y ∧ d = .tup [x, y]
  | [], _, _, _, h => by simp [zipL] at h
  | _ :: _, [], _, _, h => by simp [zipL] at h
  | x :: xs, y :: ys, 0, d, h => by
    simp [zipL] at h
    exact ⟨x, y, by simp, by simp, h.symm⟩
  | x :: xs, y :: ys, i + 1, d, h => by
    obtain ⟨a, b, h1, h2, h3⟩ := zipL_get xs ys i d (by simpa [zipL] using h)
    exact ⟨a, b, by simpa using h1, by simpa using h2, h3⟩
theorem zipL_len : ∀ (ds es : List D), (zipL ds es).length = min ds.length es.length
  | [], _ => by simp [zipL]
  | _ :: _, [] => by simp [zipL]
  | x :: xs, y :: ys => by
    simp only [zipL, List.length_cons, zipL_len xs ys]
    omega
theorem wk_zip {k l : Bool} {a b : Addr} {vs ws : List V} {ds es : List D} (z : ¬ Z a) (h : SqK k H a vs) (r : Reps cl H Z vs ds) (z' : ¬ Z b) (h' : SqK l H b ws) (r' : Reps cl H Z ws es) : Wk cl (ItzK k l a b) Z H (zipL ds es) where
  go := fun i H2 Z2 hi s => by
    rw [zipL_len] at hi
    have hi1 : i < vs.length := by rw [r.len]; omega
    have hi2 : i < ws.length := by rw [r'.len]; omega
    exact ⟨vs, ws, vs[i], ws[i], SqK.stay s z h, SqK.stay s z' h', by simp [hi1], by simp [hi2]⟩
  stop := fun H2 Z2 s => ⟨vs, ws, SqK.stay s z h, SqK.stay s z' h', by rw [zipL_len, r.len]; omega, by rw [zipL_len, r'.len]; omega, by rw [zipL_len, r.len, r'.len]; omega⟩
  yld := fun i H2 Z2 x H3 d hd s zt y => by
    obtain ⟨T, x', y', e1, e2, e3, y1, y2⟩ := y
    subst e1 e3
    obtain ⟨d1, d2, h1, h2, h3⟩ := zipL_get _ _ _ _ hd
    subst h3
    obtain ⟨v, hv, rv⟩ := r.get h1
    obtain ⟨w, hw, rw'⟩ := r'.get h2
    have q1 := y1 vs (SqK.stay s z h)
    have q2 := y2 ws (SqK.stay s z' h')
    rw [hv] at q1; cases q1
    rw [hw] at q2; cases q2
    exact .tuple zt e2 (.cons (rv.mono s) (.cons (rw'.mono s) .nil))
end
end FB

set_option Elab.async false
set_option linter.all false
set_option maxRecDepth 100000
set_option maxHeartbeats 400000
namespace FB
open PySem PySem.Spec PyProof.Rows L2

/-! ### runs, by what must hold behind them -/
def Wp {α : Type} (r : R α) (k : α → FB.Env → Prop) (e : Nat → List D → FB.Env → Prop) : Prop := match r with
  | .ok a ρ => k a ρ
  | .exc c ds ρ => e c ds ρ
  | .stuck => False
section
variable {α β : Type} {k k' : β → FB.Env → Prop} {e e' : Nat → List D → FB.Env → Prop}
theorem Wp.bind {r : R α} {f : α → FB.Env → R β} (h : Wp (r.bind f) k e) : Wp r (fun a ρ => Wp (f a ρ) k e) e := by cases r <;> exact h
theorem Wp.mono {r : R β} (h : Wp r k e) (hk : ∀ a ρ, k a ρ → k' a ρ) (he : ∀ c ds ρ, e c ds ρ → e' c ds ρ) : Wp r k' e' := by
  cases r with
  | ok a ρ => exact hk _ _ h
  | exc c ds ρ => exact he _ _ _ h
  | stuck => exact h
theorem Wp.opt {o : Option α} {f : α → R β} (h : Wp (FB.opt o f) k e) : ∃ a, o = some a ∧ Wp (f a) k e := by
  cases o with
  | none => exact h.elim
  | some a => exact ⟨a, rfl, h⟩
end

section
variable {C : Cfg} {Φ : Oracle} {cl : Nat → Addr} {T : TabL} {W : WX} {σ : L2.St} {H H' H1 H0 : Hp} {Z Z' Z1 Z0 : AdP} {ρ ρ' ρ1 ρ0 : FB.Env}
/-- an exception out of a run that began at Z H ρ -/
def Xp (C : Cfg) (cl : Nat → Addr) (T : TabL) (W : WX) (σ : L2.St) (Z : AdP) (H : Hp) (ρ : FB.Env) : Nat → List D → FB.Env → Prop := fun c ds ρ' =>
  ∀ cls d H' Z', Pst cl T σ Z H ρ Z' H' ρ' → ExR C cl Z' H' c ds cls d → W cls d σ H'
theorem Xp.later (s : Sim cl T Z ρ σ H) (p : Pst cl T σ Z H ρ Z1 H1 ρ1) {c : Nat} {ds : List D} (h : Xp C cl T W σ Z H ρ c ds ρ') : Xp C cl T W σ Z1 H1 ρ1 c ds ρ' :=
  fun cls d H' Z' q x => h cls d H' Z' (p.trans s q) x
abbrev Rel (α β : Type) := Hp → AdP → Hp → FB.Env → L2.St → β → α → Prop
def Kp {α β : Type} (cl : Nat → Addr) (T : TabL) (rel : Rel α β) (σ : L2.St) (Z : AdP) (H : Hp) (ρ : FB.Env) (Q : β → Hp → Prop) : α → FB.Env → Prop := fun v ρ' =>
  ∀ u H' Z', Pst cl T σ Z H ρ Z' H' ρ' → rel H Z' H' ρ' σ u v → Q u H'
/-- what a run promises -/
def tR {α β : Type} (C : Cfg) (cl : Nat → Addr) (T : TabL) (W : WX) (run : FB.Env → R α) (rel : Rel α β) : L2.St → Hp → (β → Hp → Prop) → Prop := fun σ H Q =>
  ∃ Z ρ, Sim cl T Z ρ σ H ∧ Wp (run ρ) (Kp cl T rel σ Z H ρ Q) (Xp C cl T W σ Z H ρ)
/-- the first part of a run, from a point on -/
theorem tR.go {α β γ : Type} {run : FB.Env → R α} {rel : Rel α β} {f : α → FB.Env → R γ} {k : γ → FB.Env → Prop} {Q : β → Hp → Prop} (s0 : Sim cl T Z0 ρ0 σ H0) (p : Pst cl T σ Z0 H0 ρ0 Z H ρ)
    (h : Wp ((run ρ).bind f) k (Xp C cl T W σ Z0 H0 ρ0)) (hq : ∀ v ρ1 u H1 Z1, Pst cl T σ Z H ρ Z1 H1 ρ1 → rel H Z1 H1 ρ1 σ u v → Wp (f v ρ1) k (Xp C cl T W σ Z0 H0 ρ0) → Q u H1) : tR C cl T W run rel σ H Q :=
  ⟨Z, ρ, p.sim, h.bind.mono (fun v ρ1 hv u H1 Z1 p1 r1 => hq v ρ1 u H1 Z1 p1 r1 hv) fun c ds ρ' hx => hx.later s0 p⟩
/-- the last part -/
theorem tR.last {α β : Type} {run : FB.Env → R α} {rel : Rel α β} {k : α → FB.Env → Prop} {Q : β → Hp → Prop} (s0 : Sim cl T Z0 ρ0 σ H0) (p : Pst cl T σ Z0 H0 ρ0 Z H ρ)
    (h : Wp (run ρ) k (Xp C cl T W σ Z0 H0 ρ0)) (hq : ∀ v ρ1 u H1 Z1, Pst cl T σ Z H ρ Z1 H1 ρ1 → rel H Z1 H1 ρ1 σ u v → k v ρ1 → Q u H1) : tR C cl T W run rel σ H Q :=
  ⟨Z, ρ, p.sim, h.mono (fun v ρ1 hv u H1 Z1 p1 r1 => hq v ρ1 u H1 Z1 p1 r1 hv) fun c ds ρ' hx => hx.later s0 p⟩
theorem Pst.back (p : Pst cl T σ Z H ρ Z' H' ρ') {a : Addr} (h : H' a = none) : H a = none := p.stp.gone h
theorem VR.back {u : V} {v : Val} (p : ∀ a, H1 a = none → H0 a = none) (r : VR cl H1 Z H ρ σ u v) : VR cl H0 Z H ρ σ u v := by
  cases r with
  | imm r => exact .imm r
  | frs z n r => exact .frs z (p _ n) r
  | vr e => exact .vr e
abbrev tM (C : Cfg) (Φ : Oracle) (cl : Nat → Addr) (T : TabL) (W : WX) (x : Ex) : TE := tR C cl T W (evE C Φ x) (VR cl)
/-- an operation's new answer, as the last thing -/
theorem NewR.fin {r : Bool × D} {u : V} {Q : VK} (s0 : Sim cl T Z0 ρ0 σ H0) (p : Pst cl T σ Z0 H0 ρ0 Z H ρ) (n : NewR cl Z H r u H') (k : Kp cl T (VR cl) σ Z0 H0 ρ0 Q (mkV r) ρ) : Q u H' := by
  obtain ⟨Z', p', r'⟩ := n.post p.sim
  exact k u H' Z' (p.trans s0 p') (r'.back fun a h => p.back h)
/-- a plain one -/
theorem Rep.fin {d : D} {u : V} {Q : VK} (s0 : Sim cl T Z0 ρ0 σ H0) (p : Pst cl T σ Z0 H0 ρ0 Z H ρ) (r : Rep cl H Z u d) (k : Kp cl T (VR cl) σ Z0 H0 ρ0 Q (.imm d) ρ) : Q u H :=
  k u H Z p (.imm r)
theorem _root_.L2.PE.mono {X : Cx} {e : Expr} {t t' : TE} (h : PE X e t) (i : ∀ σ H Q, t' σ H Q → t σ H Q) : PE X e t' := ⟨fun pins s σ H Q I q => h.run pins s σ H Q I (i σ H Q q)⟩
theorem _root_.L2.PT.mono {X : Cx} {e : Expr} {t t' : TT} (h : PT X e t) (i : ∀ σ H Q, t' σ H Q → t σ H Q) : PT X e t' := ⟨fun pins s σ H Q I q => h.run pins s σ H Q I (i σ H Q q)⟩
theorem _root_.L2.PA.mono {X : Cx} {e : List Expr} {t t' : TA} (h : PA X e t) (i : ∀ σ H Q, t' σ H Q → t σ H Q) : PA X e t' := ⟨fun pos pins s σ H Q I q => h.run pos pins s σ H Q I (i σ H Q q)⟩
theorem _root_.L2.PO.mono {X : Cx} {e : Option Expr} {t t' : TO} (h : PO X e t) (i : ∀ σ H Q, t' σ H Q → t σ H Q) : PO X e t' := ⟨fun pins s σ H Q I q => h.run pins s σ H Q I (i σ H Q q)⟩
theorem _root_.L2.PI.mono {X : Cx} {tg e : Expr} {t t' : TI} (h : PI X tg e t) (i : ∀ σ H Q, t' σ H Q → t σ H Q) : PI X tg e t' := ⟨fun pins s σ H Q I q => h.run pins s σ H Q I (i σ H Q q)⟩
theorem _root_.L2.PS.mono {X : Cx} {e : Stmt} {t t' : TS} (h : PS X e t) (i : ∀ D σ H, t' D σ H → t D σ H) : PS X e t' := ⟨fun pins s σ H D I q => h.run pins s σ H D I (i D σ H q)⟩
theorem _root_.L2.PSs.mono {X : Cx} {e : List Stmt} {t t' : TS} (h : PSs X e t) (i : ∀ D σ H, t' D σ H → t D σ H) : PSs X e t' := ⟨fun pins s σ H D I q => h.run pins s σ H D I (i D σ H q)⟩
/-- the tests -/
def rlB : Rel Bool Bool := fun _ _ _ _ _ u v => u = v
abbrev tMt (C : Cfg) (Φ : Oracle) (cl : Nat → Addr) (T : TabL) (W : WX) (x : Ex) : TT := tR C cl T W (evT C Φ x) rlB

variable {X : Cx} {a b c : Expr} {xa xb xc : Ex} {pos : Pos}
theorem vr_b {u : V} {b : Bool} (r : VR cl H0 Z H ρ σ u (.imm (.bl b))) : u = .bl b := by
  cases r with
  | imm r => cases r; rfl
theorem vr_i {u : V} {b : Int} (r : VR cl H0 Z H ρ σ u (.imm (.int b))) : u = .int b := by
  cases r with
  | imm r => cases r; rfl

/-! ### expressions, each with its parts given -/
theorem s_lit {d : D} {v : V} (h : PE X a (tC v)) (r : ∀ H Z, Rep cl H Z v d) : PE X a ((tM C Φ cl T W) (.lit d)) := h.mono fun σ H Q ⟨Z, ρ, s, k⟩ => Rep.fin s (.refl s) (r H Z) k
theorem s_glb {x : Str} {i : Int} (h : PE X a (tC (.int i))) : PE X a ((tM C Φ cl T W) (.glb x i)) := h.mono fun σ H Q ⟨Z, ρ, s, k⟩ => Rep.fin s (.refl s) (.int i) k
theorem varV_vr {i : Nat} {v : Val} (s : Sim cl T Z ρ σ H) (h : varV ρ i = some v) : ∃ u, σ[i]? = some (some u) ∧ VR cl H0 Z H ρ σ u v := by
  unfold varV at h
  split at h
  · rename_i d q
    cases h
    obtain ⟨a, e, _⟩ := s.own i d q
    exact ⟨_, e, .vr e⟩
  · rename_i d q
    cases h
    obtain ⟨u, e, r⟩ := s.imm i d q
    exact ⟨u, e, .imm r⟩
  · cases h
theorem s_var {i : Nat} (h : PE X a (tVar i)) : PE X a ((tM C Φ cl T W) (.var i)) := h.mono fun σ H Q ⟨Z, ρ, s, k⟩ => by
  obtain ⟨v, e, k⟩ := Wp.opt k
  obtain ⟨u, eu, r⟩ := varV_vr s e
  exact ⟨u, eu, k u H Z (.refl s) r⟩
theorem s_bin {op : Operator} (ha : PE X a ((tM C Φ cl T W) xa)) (hb : PE X b ((tM C Φ cl T W) xb)) : PE X (.BinOp a op b pos) ((tM C Φ cl T W) (.bin op xa xb)) :=
  (pe_op (bin_sound op) ha hb).mono fun σ H Q ⟨Z, ρ, s, k⟩ =>
    tR.go s (.refl s) k fun va ρ1 u1 H1 Z1 p1 r1 k => tR.go s p1 k fun vb ρ2 u2 H2 Z2 p2 r2 k => by
      obtain ⟨x, ex, k⟩ := Wp.opt k
      obtain ⟨y, ey, k⟩ := Wp.opt k
      obtain ⟨r, er, k⟩ := Wp.opt k
      have p := p1.trans s p2
      exact ⟨Z2, x, y, r, p.sim.zt, (r1.later s p1 p2).readL s p ex, r2.readL p1.sim p2 ey, er, fun u H3 n => n.fin s p k⟩
theorem s_neg (ha : PE X a ((tM C Φ cl T W) xa)) : PE X (.UnaryOp .USub a pos) ((tM C Φ cl T W) (.neg xa)) :=
  (pe_un un_neg ha).mono fun σ H Q ⟨Z, ρ, s, k⟩ =>
    tR.go s (.refl s) k fun va ρ1 u1 H1 Z1 p1 r1 k => by
      split at k
      · rename_i i e
        have := (r1.readL s p1 e).int
        subst this
        exact ⟨i, rfl, Rep.fin s p1 (.int _) k⟩
      · exact k.elim
theorem s_cmp {op : CmpOp} (hu : X.A.units + 65 < cLine) (ha : PE X a ((tM C Φ cl T W) xa)) (hb : PE X b ((tM C Φ cl T W) xb)) (hm : behindInMarks op b = false) : PE X (.Compare a [op] [b] pos) ((tM C Φ cl T W) (.cmp op xa xb)) :=
  (pe_cmpR (cmp_sound op hu) ha hb hm).mono fun σ H Q ⟨Z, ρ, s, k⟩ =>
    tR.go s (.refl s) k fun va ρ1 u1 H1 Z1 p1 r1 k => tR.go s p1 k fun vb ρ2 u2 H2 Z2 p2 r2 k => by
      obtain ⟨x, ex, k⟩ := Wp.opt k
      obtain ⟨y, ey, k⟩ := Wp.opt k
      obtain ⟨r, er, k⟩ := Wp.opt k
      have p := p1.trans s p2
      exact ⟨Z2, x, y, r, (r1.later s p1 p2).readL s p ex, r2.readL p1.sim p2 ey, er, Rep.fin s p (.bl r) k⟩
theorem s_chain {op op' : CmpOp} (hu : X.A.units + 65 < cLine) (ha : PE X a ((tM C Φ cl T W) xa)) (hb : PE X b ((tM C Φ cl T W) xb)) (hc : PE X c ((tM C Φ cl T W) xc)) (hm : lastMarks [op, op'] [b, c] = false) : PE X (.Compare a [op, op'] [b, c] pos) ((tM C Φ cl T W) (.chain op op' xa xb xc)) :=
  (pe_chain (cmp_sound op hu) (cmp_sound op' hu) ha hb hc hm).mono fun σ H Q ⟨Z, ρ, s, k⟩ =>
    tR.go s (.refl s) k fun va ρ1 u1 H1 Z1 p1 r1 k => tR.go s p1 k fun vb ρ2 u2 H2 Z2 p2 r2 k => by
      obtain ⟨x, ex, k⟩ := Wp.opt k
      obtain ⟨y, ey, k⟩ := Wp.opt k
      obtain ⟨r, er, k⟩ := Wp.opt k
      have p := p1.trans s p2
      refine ⟨Z2, x, y, r, (r1.later s p1 p2).readL s p ex, r2.readL p1.sim p2 ey, er, r, rfl, ?_⟩
      cases r with
      | false => exact Rep.fin s p (.bl false) k
      | true =>
        refine tR.go s p k fun vc ρ3 u3 H3 Z3 p3 r3 k => ?_
        obtain ⟨y, ey, k⟩ := Wp.opt k
        obtain ⟨z, ez, k⟩ := Wp.opt k
        obtain ⟨r, er, k⟩ := Wp.opt k
        exact ⟨Z3, y, z, r, (r2.later p1.sim p2 p3).readL p1.sim (p2.trans p1.sim p3) ey, r3.readL p.sim p3 ez, er, Rep.fin s (p.trans s p3) (.bl r) k⟩
theorem s_not (ha : PE X a ((tM C Φ cl T W) xa)) : PE X (.UnaryOp .Not a pos) ((tM C Φ cl T W) (.not xa)) :=
  (pe_not ha).mono fun σ H Q ⟨Z, ρ, s, k⟩ =>
    tR.go s (.refl s) k fun va ρ1 u1 H1 Z1 p1 r1 k => by
      split at k
      · exact ⟨_, vr_b r1, Rep.fin s p1 (.bl _) k⟩
      · exact k.elim
theorem s_and {rest : List Expr} (ha : PE X a ((tM C Φ cl T W) xa)) (hb : PE X (.BoolOp .And (b :: rest) pos) ((tM C Φ cl T W) xb)) : PE X (.BoolOp .And (a :: b :: rest) pos) ((tM C Φ cl T W) (.and xa xb)) :=
  (pe_and ha hb).mono fun σ H Q ⟨Z, ρ, s, k⟩ =>
    tR.go s (.refl s) k fun va ρ1 u1 H1 Z1 p1 r1 k => by
      split at k
      · exact ⟨true, vr_b r1, tR.last s p1 k fun v ρ2 u2 H2 Z2 p2 r2 k => k u2 H2 Z2 (p1.trans s p2) (r2.back fun a h => p1.back h)⟩
      · exact ⟨false, vr_b r1, Rep.fin s p1 (.bl false) k⟩
      · exact k.elim
theorem s_or {rest : List Expr} (ha : PE X a ((tM C Φ cl T W) xa)) (hb : PE X (.BoolOp .Or (b :: rest) pos) ((tM C Φ cl T W) xb)) : PE X (.BoolOp .Or (a :: b :: rest) pos) ((tM C Φ cl T W) (.or xa xb)) :=
  (pe_or ha hb).mono fun σ H Q ⟨Z, ρ, s, k⟩ =>
    tR.go s (.refl s) k fun va ρ1 u1 H1 Z1 p1 r1 k => by
      split at k
      · exact ⟨true, vr_b r1, Rep.fin s p1 (.bl true) k⟩
      · exact ⟨false, vr_b r1, tR.last s p1 k fun v ρ2 u2 H2 Z2 p2 r2 k => k u2 H2 Z2 (p1.trans s p2) (r2.back fun a h => p1.back h)⟩
      · exact k.elim
theorem s_ife (hc : PT X c (tMt C Φ cl T W xc)) (ha : PE X a ((tM C Φ cl T W) xa)) (hb : PE X b ((tM C Φ cl T W) xb)) : PE X (.IfExp c a b pos) ((tM C Φ cl T W) (.ife xc xa xb)) :=
  (pe_ifExp hc ha hb).mono fun σ H Q ⟨Z, ρ, s, k⟩ => by
    have k : Wp ((evT C Φ xc ρ).bind fun t ρ1 => if t = true then evE C Φ xa ρ1 else evE C Φ xb ρ1) (Kp cl T (VR cl) σ Z H ρ Q) (Xp C cl T W σ Z H ρ) := by
      refine cast (congrArg (fun r => Wp r _ _) ?_) k
      unfold evT
      show (evE C Φ xc ρ).bind _ = ((evE C Φ xc ρ).bind _).bind _
      cases evE C Φ xc ρ with
      | ok v ρ1 =>
        show (match v with | .imm (.bl true) => _ | .imm (.bl false) => _ | _ => _) = R.bind (match v with | .imm (.bl b) => _ | _ => _) _
        rcases v with d | d | i
        · cases d <;> try rfl
          rename_i b
          cases b <;> rfl
        · rfl
        · rfl
      | exc _ _ _ => rfl
      | stuck => rfl
    refine tR.go s (.refl s) k fun t ρ1 u1 H1 Z1 p1 r1 k => ?_
    cases (show u1 = t from r1)
    cases t with
    | true => exact tR.last s p1 k fun v ρ2 u2 H2 Z2 p2 r2 k => k u2 H2 Z2 (p1.trans s p2) (r2.back fun a h => p1.back h)
    | false => exact tR.last s p1 k fun v ρ2 u2 H2 Z2 p2 r2 k => k u2 H2 Z2 (p1.trans s p2) (r2.back fun a h => p1.back h)
theorem s_idx (ha : PE X a ((tM C Φ cl T W) xa)) (hb : PE X b ((tM C Φ cl T W) xb)) (hs : PlainIx b) : PE X (.Subscript a b pos) ((tM C Φ cl T W) (.idx xa xb)) :=
  (pe_ix ix_sound ha hb hs).mono fun σ H Q ⟨Z, ρ, s, k⟩ =>
    tR.go s (.refl s) k fun va ρ1 u1 H1 Z1 p1 r1 k => tR.go s p1 k fun vb ρ2 u2 H2 Z2 p2 r2 k => by
      obtain ⟨x, ex, k⟩ := Wp.opt k
      obtain ⟨y, ey, k⟩ := Wp.opt k
      obtain ⟨r, er, k⟩ := Wp.opt k
      have p := p1.trans s p2
      exact ⟨Z2, x, y, r, (r1.later s p1 p2).readL s p ex, r2.readL p1.sim p2 ey, er, fun u n => Rep.fin s p n k⟩
def rlO : Rel (Option Int) (Option Int) := fun _ _ _ _ _ u v => u = v
abbrev tMo (C : Cfg) (Φ : Oracle) (cl : Nat → Addr) (T : TabL) (W : WX) (x : Opt) : TO := tR C cl T W (evO C Φ x) rlO
theorem o_none : PO X none (tMo C Φ cl T W .none) := po_none.mono fun σ H Q ⟨Z, ρ, s, k⟩ => k none H Z (.refl s) rfl
theorem o_some (ha : PE X a ((tM C Φ cl T W) xa)) : PO X (some a) (tMo C Φ cl T W (.some xa)) := (po_some ha).mono fun σ H Q ⟨Z, ρ, s, k⟩ =>
  tR.go s (.refl s) k fun va ρ1 u1 H1 Z1 p1 r1 k => by
    split at k
    · exact ⟨_, vr_i r1, k _ H1 Z1 p1 rfl⟩
    · exact k.elim
theorem s_slc {lo hi : Option Expr} {xl xh : Opt} {p2 : Pos} (ha : PE X a ((tM C Φ cl T W) xa)) (hl : PO X lo (tMo C Φ cl T W xl)) (hh : PO X hi (tMo C Φ cl T W xh)) : PE X (.Subscript a (.Slice lo hi none p2) pos) ((tM C Φ cl T W) (.slc xa xl xh)) :=
  (pe_slice sl_sound ha hl hh).mono fun σ H Q ⟨Z, ρ, s, k⟩ =>
    tR.go s (.refl s) k fun va ρ1 u1 H1 Z1 p1 r1 k => tR.go s p1 k fun l ρ2 u2 H2 Z2 p2 r2 k => tR.go s (p1.trans s p2) k fun l' ρ3 u3 H3 Z3 p3 r3 k => by
      obtain ⟨x, ex, k⟩ := Wp.opt k
      obtain ⟨r, er, k⟩ := Wp.opt k
      cases (show u2 = l from r2)
      cases (show u3 = l' from r3)
      have p23 := p2.trans p1.sim p3
      have p := p1.trans s p23
      exact ⟨Z3, x, r, p.sim.zt, (r1.later s p1 p23).readL s p ex, er, fun u H4 n => n.fin s p k⟩
theorem s_rev {kk : Nat} {p1 p2 p3 : Pos} (ha : PE X a ((tM C Φ cl T W) xa)) : PE X (.Subscript a (.Slice none none (some (.UnaryOp .USub (.Constant (.int 1) kk p1) p2)) p3) pos) ((tM C Φ cl T W) (.rev xa)) :=
  (pe_revL ha).mono fun σ H Q ⟨Z, ρ, s, k⟩ =>
    tR.go s (.refl s) k fun va ρ1 u1 H1 Z1 p1 r1 k => by
      obtain ⟨x, ex, k⟩ := Wp.opt k
      obtain ⟨r, er, k⟩ := Wp.opt k
      have r1 := r1.readL s p1 ex
      cases x with
      | lst xs =>
        cases er
        obtain ⟨a, vs, eu, h1, h2⟩ := r1.lst
        exact ⟨a, vs, eu, .inl h1, fun q hq => (NewR.list hq h2.reverse).fin s p1 k⟩
      | _ => cases er
end
end FB

set_option Elab.async false
set_option linter.all false
set_option maxRecDepth 100000
set_option maxHeartbeats 400000
namespace FB
open PySem PySem.Spec PyProof.Rows L2

/-! ### the side conditions, by the expression's form -/
def noStar : Expr → Bool
  | .Starred _ _ => false
  | _ => true
def noSlice : Expr → Bool
  | .Slice _ _ _ _ => false
  | _ => true
def noSet : Expr → Bool
  | .Set _ _ _ => false
  | _ => true
def noCall0 : Expr → Bool
  | .Call _ [] _ _ => false
  | _ => true
def noComp : Expr → Bool
  | .ListComp _ _ _ _ => false
  | .SetComp _ _ _ _ => false
  | .DictComp _ _ _ _ _ => false
  | _ => true
def plainT : Expr → Bool
  | .UnaryOp _ _ _ => false
  | .BoolOp _ _ _ => false
  | .IfExp _ _ _ _ => false
  | .Compare _ _ _ _ => false
  | _ => true
theorem star_of {e : Expr} {es : List Expr} {env : PySem.Env} (h : noStar e = true) : starEach (e :: es) env = (false, eval e env) :: starEach es env := by
  cases e <;> first | rfl | exact nomatch h
theorem plainIx_of {e : Expr} (h : noSlice e = true) : PlainIx e := fun o i => by
  cases e <;> first | rfl | exact nomatch h
theorem folded_of {e : Expr} {env : PySem.Env} (h : noSet e = true) : ∀ x, foldedSetIterable e env x = pure x := fun x => by
  cases e <;> first | rfl | exact nomatch h
theorem base_of {e : Expr} {f : Str} {env : PySem.Env} {w : Sem Value} (h : noCall0 e = true) : attributeBase e f env w = w := by
  cases e with
  | Call fn as ks p =>
    cases as with
    | nil => exact nomatch h
    | cons a as => cases fn <;> rfl
  | _ => rfl
theorem swaps_of {e : Expr} {t : Option Expr} {n : Nat} {env : PySem.Env} (h : noComp e = true) : swapsWith e t n env = pure false := by
  cases e <;> first | rfl | exact nomatch h
theorem isTrue_of {e : Expr} {env : PySem.Env} (h : plainT e = true) : ∀ whole, isTrue e env whole = (do let v ← whole; standAt e.pos; holding [v] (truthy v)) := fun whole => by
  cases e <;> first | rfl | exact nomatch h
theorem stars_of {pos : Pos} {env : PySem.Env} : ∀ {es : List Expr}, es.all noStar = true → (backTo pos (starEach es env)).any (·.1) = false
  | [], _ => rfl
  | e :: es, h => by
    have h' := Bool.and_eq_true_iff.mp h
    rw [star_of h'.1]
    show (false || (backTo pos (starEach es env)).any (·.1)) = false
    rw [stars_of h'.2]; rfl
theorem all_of {pos : Pos} {env : PySem.Env} : ∀ {es : List Expr}, es.all noStar = true → (backTo pos (starEach es env)).all (fun x => !x.1) = true
  | [], _ => rfl
  | e :: es, h => by
    have h' := Bool.and_eq_true_iff.mp h
    rw [star_of h'.1]
    show (true && (backTo pos (starEach es env)).all (fun x => !x.1)) = true
    rw [all_of h'.2]; rfl
theorem few_of {pos : Pos} {env : PySem.Env} {es : List Expr} (h : es.all noStar = true) (n : es.length < 29) :
    ((backTo pos (starEach es env)).all (fun x => !x.1) && (backToKw pos (keywordEach [] env)).all (fun x => x.1.isSome) && decide (es.length + ([] : List Keyword).length + (if ([] : List Keyword).isEmpty then 0 else 1) < 30)) = true := by
  rw [all_of h]
  show (true && true && decide (es.length + 0 + 0 < 30)) = true
  simp; omega
theorem meth_form {o : Expr} {m : Str} {apos pos : Pos} {es : List Expr} {env : PySem.Env} (ho : noCall0 o = true) (h : es.all noStar = true) (n : es.length < 29) (hl : (apos.endLine == pos.line) = true) :
    eval (.Call (.Attribute o m apos) es [] pos) env = (do
      let ov ← eval o env
      standAt apos.atName
      let (f, first) ← holding [ov] (getMethod ov m (do return (← importBound o env).getD true))
      callWith pos f first (backTo pos (starEach es env)) (backToKw pos (keywordEach [] env))) := by
  have e1 : eval (.Call (.Attribute o m apos) es [] pos) env = (do
      let ov ← attributeBase o m env (eval o env)
      standAt apos.atName
      methodCall o m apos pos env ov (es.length + 0) (backTo pos (starEach es env)) (backToKw pos (keywordEach [] env))) := by
    rw [eval]; rfl
  rw [e1, base_of ho]
  have hf : methodCallForm (es.length + 0) (backTo pos (starEach es env)) (backToKw pos (keywordEach [] env)) = true := few_of h n
  have e2 : methodCallPos true o env apos pos = pure pos := by
    unfold methodCallPos
    rw [hl]; rfl
  unfold methodCall
  rw [hf, e2]
  rfl

section
variable {C : Cfg} {Φ : Oracle} {cl : Nat → Addr} {T : TabL} {W : WX} {σ : L2.St} {H H' H1 H0 : Hp} {Z Z' Z1 Z0 : AdP} {ρ ρ' ρ1 ρ0 : FB.Env} {X : Cx} {a b c : Expr} {xa xb xc : Ex} {pos : Pos} {es : List Expr} {xs : Exs}

/-! ### lists of expressions -/
def Exs.len : Exs → Nat
  | .nil => 0
  | .cons _ r => r.len + 1
def rlL (cl : Nat → Addr) (n : Nat) : Rel (List D) (List V) := fun _ Z H _ _ us ds => Reps cl H Z us ds ∧ us.length = n
def rlV (cl : Nat → Addr) : Rel (List Val) (List V) := fun H0 Z H ρ σ us vs => VRs cl H0 Z H ρ σ us vs ∧ ∀ v ∈ vs, ∀ d, v ≠ .frs d
def rlA (cl : Nat → Addr) (ms : List Bool) : Rel (List AV) (List V) := fun H0 Z H ρ σ us as => AVR cl H0 Z H ρ σ us as ∧ avM as = ms
abbrev tL (C : Cfg) (Φ : Oracle) (cl : Nat → Addr) (T : TabL) (W : WX) (xs : Exs) : TA := tR C cl T W (evL C Φ xs) (rlL cl xs.len)
abbrev tV (C : Cfg) (Φ : Oracle) (cl : Nat → Addr) (T : TabL) (W : WX) (xs : Exs) : TA := tR C cl T W (evV C Φ xs) (rlV cl)
abbrev tA (C : Cfg) (Φ : Oracle) (cl : Nat → Addr) (T : TabL) (W : WX) (ms : List Bool) (xs : Exs) : TA := tR C cl T W (evA C Φ ms xs) (rlA cl ms)
theorem l_nil : PA X [] (tL C Φ cl T W .nil) := pa_nil.mono fun σ H Q ⟨Z, ρ, s, k⟩ => k [] H Z (.refl s) ⟨.nil, rfl⟩
theorem v_nil : PA X [] (tV C Φ cl T W .nil) := pa_nil.mono fun σ H Q ⟨Z, ρ, s, k⟩ => k [] H Z (.refl s) ⟨.nil, fun v h => nomatch h⟩
theorem a_nil : PA X [] (tA C Φ cl T W [] .nil) := pa_nil.mono fun σ H Q ⟨Z, ρ, s, k⟩ => k [] H Z (.refl s) ⟨.nil, rfl⟩
theorem l_cons (h : noStar a = true) (ha : PE X a ((tM C Φ cl T W) xa)) (hr : PA X es (tL C Φ cl T W xs)) : PA X (a :: es) (tL C Φ cl T W (.cons xa xs)) :=
  (pa_cons ha hr (star_of h)).mono fun σ H Q ⟨Z, ρ, s, k⟩ =>
    tR.go s (.refl s) k fun va ρ1 u1 H1 Z1 p1 r1 k => by
      obtain ⟨⟨d, ρ2⟩, e, k⟩ := Wp.opt k
      obtain ⟨Z2, p2, r2⟩ := r1.fz s p1 e
      exact tR.go s p2 k fun ds ρ3 us H3 Z3 p3 r3 k => k _ H3 Z3 (p2.trans s p3) ⟨.cons (r2.mono (p3.stay p2.sim)) r3.1, congrArg (· + 1) r3.2⟩
theorem stl_nf (v : Val) (d : D) : stl v ≠ .frs d := by
  cases v <;> intro e <;> cases e
theorem VRs.from {us : List V} {vs : List Val} (r : VRs cl H Z' H' ρ' σ us vs) (f : ∀ v ∈ vs, ∀ d, v ≠ .frs d) : VRs cl H0 Z' H' ρ' σ us vs := by
  induction r with
  | nil => exact .nil
  | cons r _ ih =>
    refine .cons ?_ (ih fun v hv => f v (List.mem_cons_of_mem _ hv))
    cases r with
    | imm r => exact .imm r
    | frs _ _ _ => exact absurd rfl (f _ List.mem_cons_self _)
    | vr e => exact .vr e
theorem v_cons (h : noStar a = true) (ha : PE X a ((tM C Φ cl T W) xa)) (hr : PA X es (tV C Φ cl T W xs)) : PA X (a :: es) (tV C Φ cl T W (.cons xa xs)) :=
  (pa_cons ha hr (star_of h)).mono fun σ H Q ⟨Z, ρ, s, k⟩ =>
    tR.go s (.refl s) k fun va ρ1 u1 H1 Z1 p1 r1 k => by
      obtain ⟨Z2, p2, r2⟩ := r1.stl s p1
      exact tR.go s p2 k fun vs ρ3 us H3 Z3 p3 r3 k => k _ H3 Z3 (p2.trans s p3)
        ⟨.cons (r2.later s p2 p3) (VRs.from r3.1 r3.2), fun v hv => by
            rcases List.mem_cons.mp hv with e | hv
            · rw [e]; exact stl_nf va
            · exact r3.2 v hv⟩
theorem AVR.from {us : List V} {as : List AV} (h : ∀ a, H1 a = none → H0 a = none) (r : AVR cl H1 Z H ρ σ us as) : AVR cl H0 Z H ρ σ us as := by
  induction r with
  | nil => exact .nil
  | plain q _ ih => exact .plain q ih
  | slot e1 e2 _ ih => exact .slot e1 e2 ih
  | temp z n m o _ ih => exact .temp z (h _ n) m o ih
theorem a_plain {ms : List Bool} (h : noStar a = true) (ha : PE X a ((tM C Φ cl T W) xa)) (hr : PA X es (tA C Φ cl T W ms xs)) : PA X (a :: es) (tA C Φ cl T W (false :: ms) (.cons xa xs)) :=
  (pa_cons ha hr (star_of h)).mono fun σ H Q ⟨Z, ρ, s, k⟩ =>
    tR.go s (.refl s) k fun va ρ1 u1 H1 Z1 p1 r1 k => by
      obtain ⟨⟨d, ρ2⟩, e, k⟩ := Wp.opt k
      obtain ⟨Z2, p2, r2⟩ := r1.fz s p1 e
      exact tR.go s p2 k fun as ρ3 us H3 Z3 p3 r3 k => k _ H3 Z3 (p2.trans s p3) ⟨.plain (r2.mono (p3.stay p2.sim)) (r3.1.from fun a h => p2.back h), congrArg (false :: ·) r3.2⟩
theorem ownD_own {i : Nat} {d : D} (h : ownD ρ i = some d) : ρ[i]? = some (some ⟨true, d⟩) := by
  unfold ownD at h
  split at h
  · cases h; assumption
  · cases h
theorem a_raw {ms : List Bool} (h : noStar a = true) (ha : PE X a ((tM C Φ cl T W) xa)) (hr : PA X es (tA C Φ cl T W ms xs)) : PA X (a :: es) (tA C Φ cl T W (true :: ms) (.cons xa xs)) :=
  (pa_cons ha hr (star_of h)).mono fun σ H Q ⟨Z, ρ, s, k⟩ =>
    tR.go s (.refl s) k fun va ρ1 u1 H1 Z1 p1 r1 k => by
      cases r1 with
      | imm r => exact k.elim
      | @vr _ i eu =>
        refine tR.go s p1 k fun as ρ3 us H3 Z3 p3 r3 k => ?_
        obtain ⟨d, e, k⟩ := Wp.opt k
        have eo := ownD_own e
        obtain ⟨a, e1, _, _⟩ := p3.sim.own i d eo
        rw [eu] at e1; cases e1
        exact k _ H3 Z3 (p1.trans s p3) ⟨.slot eu eo (r3.1.from fun a h => p1.back h), congrArg (true :: ·) r3.2⟩
      | @frs a d z n ob =>
        refine tR.go s p1 k fun as ρ3 us H3 Z3 p3 r3 k => ?_
        have no := p1.noOwn s n
        refine k _ H3 Z3 (p1.trans s p3) ⟨.temp (p3.stp.ex a z no) n (fun m => ?_) (ob.mono (p3.stay p1.sim) fun o e nt => p3.stp.keep a o e no nt) (r3.1.from fun a h => p1.back h), congrArg (true :: ·) r3.2⟩
        rcases r3.1.mem m with ⟨i, d', _, q1, q2⟩ | ⟨_, n'⟩
        · exact p3.noOwn p1.sim (a := a) (by
            exfalso
            exact no (p3.sub a ⟨i, d', q2, q1⟩)) ⟨i, d', q2, q1⟩
        · obtain ⟨o, e, _⟩ := p1.sim.zt a z
          rw [n'] at e; cases e
theorem lineOk {n : Nat} (h : n ≤ 1000) : n ≤ sizeLine := by rw [sizeLine_eq]; omega
theorem s_lst (hs : PA X es (tL C Φ cl T W xs)) (hl : xs.len ≤ 1000) : PE X (.List es pos) ((tM C Φ cl T W) (.lstD xs)) :=
  (pe_lst hs).mono fun σ H Q ⟨Z, ρ, s, k⟩ =>
    tR.go s (.refl s) k fun ds ρ1 us H1 Z1 p1 r1 k => ⟨by rw [r1.2]; exact lineOk hl, fun q hq => (NewR.list hq r1.1).fin s p1 k⟩
theorem s_tup {kk : Nat} (hs : PA X es (tL C Φ cl T W xs)) (hl : xs.len ≤ 1000) : PE X (.Tuple es kk pos) ((tM C Φ cl T W) (.tupD xs)) :=
  (pe_tup hs).mono fun σ H Q ⟨Z, ρ, s, k⟩ =>
    tR.go s (.refl s) k fun ds ρ1 us H1 Z1 p1 r1 k => ⟨by rw [r1.2]; exact lineOk hl, fun q hq => (NewR.tuple p1.sim.zt hq r1.1).fin s p1 k⟩

/-! ### fields, isinstance, built-in functions -/
theorem s_fld {f : Str} (c : Cls X.K (cl 0)) (n : NoAttr X.K (cl 0) f) (h0 : noCall0 a = true) (ha : PE X a ((tM C Φ cl T W) xa)) : PE X (.Attribute a f pos) ((tM C Φ cl T W) (.fld xa f)) :=
  (pe_fld ha (base_of h0)).mono fun σ H Q ⟨Z, ρ, s, k⟩ =>
    tR.go s (.refl s) k fun va ρ1 u1 H1 Z1 p1 r1 k => by
      obtain ⟨x, ex, k1⟩ := Wp.opt k
      obtain ⟨r, er, k2⟩ := Wp.opt k1
      clear k k1
      have r1 := r1.readL s p1 ex
      cases x with
      | obj cc fs =>
        dsimp only [fldD] at er
        split at er
        · rename_i hc
          subst hc
          obtain ⟨a, dx, vf, eu, h1, h2⟩ := r1.obj
          obtain ⟨v, hv, rv⟩ := h2.look er
          exact ⟨a, cl 0, dx, vf, v, eu, h1, c, n, hv, Rep.fin s p1 rv k2⟩
        · cases er
      | _ => cases er
def tyD (cl : Nat → Addr) : D → Value
  | .non => .type "NoneType" | .bl _ => .type "bool" | .int _ => .type "int" | .str _ => .type "str" | .lst _ => .type "list" | .tup _ => .type "tuple" | .dct _ => .type "dict" | .set _ => .type "set" | .obj c _ => .ref (cl c)
def tyT (cl : Nat → Addr) : Ty → Value
  | .int => .type "int" | .bool => .type "bool" | .list => .type "list" | .tuple => .type "tuple" | .str => .type "str" | .cls c => .ref (cl c)
def tyV (cl : Nat → Addr) : Ty → V
  | .int => .ty "int" | .bool => .ty "bool" | .list => .ty "list" | .tuple => .ty "tuple" | .str => .ty "str" | .cls c => .ref (cl c)
def tyName : Ty → Str
  | .int => "int" | .bool => "bool" | .list => "list" | .tuple => "tuple" | .str => "str" | .cls _ => "Setup"
/-- what isinstance asks of the classes -/
structure IsiOk (K : PySem.W.Frag) (cl : Nat → Addr) : Prop where
  ins : C8.InsC K (cl 0)
  kit : ∀ n ∈ (["int", "bool", "list", "tuple", "str"] : List String), PySem.W.kitOne K (.ref (cl 0)) (.type n) = some false
theorem tyX_of {K : PySem.W.Frag} (I : IsiOk K cl) {u : V} {d : D} (h : ∀ c fs, d = .obj c fs → c = 0) (r : Rep1 cl H Z u d) : TyX K H u (tyD cl d) := by
  cases r with
  | rep r =>
    cases r with
    | non => exact .base .non
    | bl b => exact .base (.bl b)
    | int i => exact .base (.int i)
    | str i => exact .base (.str i)
    | lst _ r _ =>
      rcases r with r | ⟨o, r⟩
      · exact .base (.lst r)
      · exact .base (.frz r)
    | tup _ r _ =>
      rcases r with r | ⟨o, r⟩
      · exact .base (.tup r)
      · exact .fTuple r
    | dct0 _ r => exact .base (.dK r)
    | obj _ r _ =>
      cases h _ _ rfl
      exact .base (.ins r I.ins.cl I.ins.ha I.ins.hn I.ins.htk I.ins.hm)
  | ob r =>
    cases r with
    | lst r _ => exact .base (.lst r)
    | dct0 r => exact .base (.dK r)
    | obj r _ =>
      cases h _ _ rfl
      exact .base (.ins r I.ins.cl I.ins.ha I.ins.hn I.ins.htk I.ins.hm)
theorem kit_of {K : PySem.W.Frag} (I : IsiOk K cl) {d : D} {t : Ty} {b : Bool} (h : isiT d t = some b) : PySem.W.kitOne K (tyD cl d) (tyT cl t) = some b := by
  cases t with
  | cls c =>
    dsimp only [isiT] at h
    split at h
    · rename_i hc
      subst hc
      cases d with
      | obj c fs =>
        dsimp only [isiD] at h
        split at h
        · rename_i hc
          cases h
          rw [show tyD cl (.obj c fs) = .ref (cl c) from rfl, hc.1]
          exact I.ins.me
        · cases h
      | set _ => cases h
      | non => cases h
      | bl _ => cases h
      | int _ => cases h
      | str _ => cases h
      | lst _ => cases h
      | tup _ => cases h
      | dct _ => cases h
    · cases h
  | _ =>
    cases d with
    | obj c fs =>
      dsimp only [isiT, isiD] at h
      split at h
      · rename_i hc
        cases h
        rw [show tyD cl (.obj c fs) = .ref (cl c) from rfl, hc]
        exact I.kit _ (by simp)
      · cases h
    | set _ => cases h
    | _ => cases h; exact kit_ty (by decide +kernel)
theorem tyV_cls (t : Ty) : ClsV (tyV cl t) (tyT cl t) := by
  cases t <;> first | exact .ty _ | exact .own _
theorem s_isi {t : Ty} {p1 p2 : Pos} {tn : Str} (I : IsiOk X.K cl) (hg : Gl X "isinstance") (hm : X.mg "isinstance" = none) (ht : PE X (.Name tn p2) (tC (tyV cl t))) (h0 : noStar a = true) (ha : PE X a ((tM C Φ cl T W) xa)) :
    PE X (.Call (.Name "isinstance" p1) [a, .Name tn p2] [] pos) ((tM C Φ cl T W) (.isi xa t)) :=
  (pe_callB call_isi hg hm (by decide +kernel) (pa_cons ha (pa_cons ht pa_nil) (star_of h0)) (by decide) (by decide) (star_of h0) (stars_of (es := [.Name tn p2]) rfl)).mono fun σ H Q ⟨Z, ρ, s, k⟩ =>
    tR.go s (.refl s) k fun va ρ1 u1 H1 Z1 p1 r1 k => by
      obtain ⟨x, ex, k⟩ := Wp.opt k
      obtain ⟨r, er, k⟩ := Wp.opt k
      refine ⟨u1, tyV cl t, tyD cl x, tyT cl t, r, rfl, tyV_cls t, tyX_of I (fun c fs e => ?_) (r1.readL s p1 ex), kit_of I er, Rep.fin s p1 (.bl r) k⟩
      subst e
      cases t <;> dsimp only [isiT, isiD] at er <;> (repeat (split at er)) <;> first | (cases er; done) | assumption | (rename_i h _; exact h.1) | (rename_i h; exact h.1)
end
end FB

set_option Elab.async false
set_option linter.all false
set_option maxRecDepth 100000
set_option maxHeartbeats 400000
namespace FB
open PySem PySem.Spec PyProof.Rows L2
section
variable {C : Cfg} {Φ : Oracle} {cl : Nat → Addr} {T : TabL} {W : WX} {σ : L2.St} {H H' H1 H0 : Hp} {Z Z' Z1 Z0 : AdP} {ρ ρ' ρ1 ρ0 : FB.Env} {X : Cx} {a b c : Expr} {xa xb xc : Ex} {pos : Pos} {es : List Expr} {xs : Exs}
/-- a def at an address -/
structure FnAt (C : Cfg) (Φ : Oracle) (cl : Nat → Addr) (T : TabL) (prog : Program) (w : World) (K : PySem.W.Frag) (mg : Str → Option Value) (base : Heap) (k : Nat) (f : Nat) (a : Addr) (fd : FuncData) (ps : List Str) (ms : List Bool) : Prop where
  raws : C.raws f = some ms
  keep : PySem.W.keepIn K (.ref a) = true
  binds : Binds K fd ps []
  fn : FnOk prog w K mg base (L2.CX prog w) k a fd ps (spOf C cl T ms (Φ f))
abbrev FnX (C : Cfg) (Φ : Oracle) (cl : Nat → Addr) (T : TabL) (X : Cx) (k : Nat) (f : Nat) (a : Addr) : Prop := ∃ fd ps ms, FnAt C Φ cl T X.prog X.w X.K X.mg X.base k f a fd ps ms

def rLenO (C : Cfg) (Φ : Oracle) (cl : Nat → Addr) (T : TabL) : List V → Hp → VK → Prop := fun xs H Q => ∃ Z c fs u f fr i, xs = [u] ∧ ZT Z H ∧ LamX.Tabs T H ∧ Rep cl H Z u (.obj c fs) ∧ C.lenF c = some f ∧ Φ f [.obj c fs] = .ok fr (.int i) [] ∧ 0 ≤ i ∧ i < 1000000 ∧
  ∀ H' Z', Bk cl T [] Z H Z' H' [] → Q (.int i) H'
structure LenOk (C : Cfg) (Φ : Oracle) (cl : Nat → Addr) (T : TabL) (X : Cx) (k : Nat) : Prop where
  at_ : ∀ c f, C.lenF c = some f → ∃ a fd ps, PySem.W.findIn X.K (.ref (cl c)) "__len__" = some (some (.ref a)) ∧ PySem.W.isFn X.K (.ref a) = true ∧ FnAt C Φ cl T X.prog X.w X.K X.mg X.base k f a fd ps [false]
theorem call_lenO {k : Nat} (hr : Room (k + 1) X.A) (L : LenOk C Φ cl T X k) : CallR X (.builtin "len") (rLenO C Φ cl T) := by
  intro pins s σ H xs us Q I r h
  obtain ⟨Z, c, fs, u, f, fr, i, rfl, zt, tb, rp, hf, hΦ, i0, i1, q⟩ := h
  obtain ⟨a, fd, ps, e1, e2, F⟩ := L.at_ c f hf
  cases rp with
  | @obj y dx _ vf _ z ea rf =>
  obtain ⟨v, rfl, rv⟩ := vals1 r
  obtain rfl : v = Value.ref y := rv
  obtain ⟨mA, O, _⟩ := ins_get I.hok ea
  obtain ⟨od, J, _⟩ := O.look
  have sp : PySem.W.Looks (model X.prog X.w) s.heap (specialOf (.ref y) "__len__") (some (.ref a)) := J.type.andThen (PySem.W.looks_findIn I.kIn e1)
  have bd : PySem.W.Looks (model X.prog X.w) s.heap (bindSpecial (.ref a) (.ref y)) (.ref a, [.ref y]) := PySem.W.bind_fn I.kIn _ (beq_iff_eq.mp e2)
  refine Calls.call_function_entry kind_len plain_len entry_len (args_len1 _) ?_
  unfold Builtin.«len»
  refine wpAny_bind (m := oneArg "len" _) (wpAny_pure ?_)
  refine wpAny_bind (m := callSpecial? (.ref y) (PySem.Str.ofString "__len__")) ?_
  have hsp : spOf C cl T [false] (Φ f) [.ref y] H (fun v H' => v = .int i ∧ Q (.int i) H') (fun _ _ _ => False) := by
    refine ⟨Z, [.obj c fs], zt, tb, .plain (.obj z ea rf) .nil, .nil, ?_⟩
    rw [hΦ]
    intro u H' Z' bk an
    unfold AnsR at an
    split at an
    · obtain ⟨a, _, _, _, ob⟩ := an
      cases ob
    · cases an
      exact ⟨rfl, q H' Z' bk⟩
  have hl : ([Value.ref y] : List Value).length = ps.length := F.fn.len _ _ _ _ hsp
  have b := F.binds s [.ref y] I.kIn (by rw [List.append_nil]; exact hl)
  rw [List.append_nil] at b
  have run := F.fn.run X.A.in1 X.stack s H ⟨[.ref y], []⟩ [.ref y] [.ref y] _ _ hr.in1 I.env0.in1 b (.cons rfl .nil) hsp
  simp only [callSpecial?]
  refine wpAny_bind (sp.here ?_)
  refine wpAny_holding (wpAny_bind (bd.here ?_))
  refine wpAny_bind (wpAny_call (codeAny_mono run fun r s' hq => ?_))
  cases r with
  | error e => obtain ⟨_, _, _, _, _, _, _, _, _, _, _, _, x⟩ := hq; exact x.elim
  | ok fl =>
    cases fl with
    | next => exact False.elim hq
    | brk => exact False.elim hq
    | cont => exact False.elim hq
    | ret w =>
      obtain ⟨v, H', I', rv, ev, q'⟩ := I.after hq
      subst ev
      obtain ⟨t, rfl⟩ := rv
      refine wpAny_pure ?_
      refine wpAny_bind (wpAny_holding (wpAny_pure ?_))
      refine wpAny_bind (wpAny_letGo ?_)
      show wpAny _ _ (if i < 0 then _ else _) _ _ _
      rw [if_neg (by omega)]
      show wpAny _ _ (if i ≥ 2 ^ 63 then _ else _) _ _ _
      rw [if_neg (by omega)]
      exact wpAny_bind (wpAny_mkInt (wpAny_pure ⟨_, rfl, .int i, H', I'.tok _, ⟨_, rfl⟩, q'⟩))
/-! ### built-in functions by name -/
theorem v_read {us : List V} {vs : List Val} {ds : List D} (s : Sim cl T Z ρ σ H) (p : Pst cl T σ Z H ρ Z' H' ρ') (r : rlV cl H Z' H' ρ' σ us vs) (e : vs.mapM (rd ρ') = some ds) : Reps1 cl H' Z' us ds := r.1.read s p e
theorem s_blt {k : Nat} {b : Blt} {n : Str} {p : Pos} {e : Expr} (hr : Room (k + 1) X.A) (L : LenOk C Φ cl T X k) (hc : X.calm = true) (hn : n = bltName b) (hg : Gl X n) (hm : X.mg n = none) (hs : (e :: es).all noStar = true) (ha : PA X (e :: es) (tV C Φ cl T W xs)) :
    PE X (.Call (.Name n p) (e :: es) [] pos) ((tM C Φ cl T W) (.blt b xs)) := by
  have hs' := Bool.and_eq_true_iff.mp hs
  have hc1 : CallR X (bltVal b) (fun vs H Q => rBl cl b vs H Q ∨ (b = .len ∧ rLenO C Φ cl T vs H Q)) := by
    intro pins s σ H xs us Q I r h
    rcases h with h | ⟨hb, h⟩
    · exact blt_sound b hc pins s σ H xs us Q I r h
    · subst hb; exact call_lenO hr L pins s σ H xs us Q I r h
  have hne : n ≠ "__name__" := by subst hn; cases b <;> decide +kernel
  have hdb : (n == ("__debug__" : Str)) = false := by subst hn; cases b <;> decide +kernel
  have hv : bootBuiltins n = some (bltVal b) := by rw [hn]; exact bltBoot b
  have main : PE X (.Call (.Name n p) (e :: es) [] pos) (tCB (fun vs H Q => rBl cl b vs H Q ∨ (b = .len ∧ rLenO C Φ cl T vs H Q)) (tV C Φ cl T W xs)) := by
    cases h : bltVal b with
    | builtin id => rw [h] at hc1 hv; exact pe_callB hc1 hg hm hv ha hne hdb (star_of hs'.1) (stars_of hs'.2)
    | type t => rw [h] at hc1 hv; exact pe_callTy hc1 hg hm hv ha hne hdb (star_of hs'.1) (stars_of hs'.2)
    | _ => cases b <;> cases h
  refine main.mono fun σ H Q ⟨Z, ρ, s, k⟩ => tR.go s (.refl s) k fun vs ρ1 us H1 Z1 p1 r1 k => ?_
  split at k
  · rename_i c fs hl
    right
    obtain ⟨f, ef, kf⟩ := Wp.opt k
    cases b <;> try (cases hl; done)
    rcases vs with _ | ⟨v, _ | ⟨v2, vs⟩⟩ <;> try (cases hl; done)
    · cases v with
      | imm d =>
        cases d <;> try (cases hl; done)
        cases hl
        have r1' := r1.1
        cases r1' with
        | cons r _ =>
          rename_i hrest
          cases hrest
          cases r with
          | imm r =>
            split at kf
            · rename_i fr i he
              split at kf
              · rename_i hi
                refine ⟨rfl, Z1, _, _, _, f, fr, i, rfl, p1.sim.zt, p1.sim.tab, r, ef, he, hi.1, hi.2, fun H' Z' bk => ?_⟩
                have p2 : Pst cl T σ Z H ρ Z' H' ρ1 := call_back s p1 (.nil) .nil bk rfl
                exact kf _ H' Z' p2 (.imm (.int i))
              · exact kf.elim
            · exact kf.elim
      | _ => cases hl
    · cases v with
      | imm d => cases d <;> cases hl
      | _ => cases hl
  · left
    obtain ⟨ds, ed, k⟩ := Wp.opt k
    obtain ⟨r, er, k⟩ := Wp.opt k
    exact ⟨Z1, ds, r, p1.sim.zt, v_read s p1 r1 ed, er, fun u H2 n => n.fin s p1 k⟩

/-! ### calls -/
theorem call_go {ms : List Bool} {us : List V} {as : List AV} {f : Nat} {Q : VK} (s : Sim cl T Z0 ρ0 σ H0) (p : Pst cl T σ Z0 H0 ρ0 Z H ρ) (r : AVR cl H0 Z H ρ σ us as) (hm : avM as = ms)
    (k : Wp (callA Φ f as ρ) (Kp cl T (VR cl) σ Z0 H0 ρ0 Q) (Xp C cl T W σ Z0 H0 ρ0)) : spOf C cl T ms (Φ f) us H Q (WE W σ) := by
  unfold callA at k
  split at k
  · rename_i nd
    have hz : ∀ a, H0 a = none → ¬ Own ρ σ a := fun a h => p.noOwn s h
    obtain ⟨ra, rb⟩ := r.args p.sim hz
    have nd' := r.nodup p.sim hz nd
    rw [← hm]
    refine ⟨Z, as.map AV.d, p.sim.zt, p.sim.tab, ra, by rw [rb]; exact nd', ?_⟩
    rw [rb]
    cases hΦ : Φ f (as.map AV.d) with
    | stuck => rw [hΦ] at k; exact k
    | ok fr d outs =>
      rw [hΦ] at k
      obtain ⟨ρ', ep, k⟩ := Wp.opt k
      intro u H' Z' bk an
      have p' := call_back s p r nd bk ep
      refine k u H' Z' p' ?_
      unfold AnsR at an
      cases fr with
      | true =>
        obtain ⟨a, rfl, z, n, ob⟩ := an
        exact .frs z (p.back n) ob
      | false => exact .imm an
    | exc c ds outs =>
      rw [hΦ] at k
      obtain ⟨ρ', ep, k⟩ := Wp.opt k
      intro cls dd H' Z' bk ex
      exact k cls dd H' Z' (call_back s p r nd bk ep) ex
  · exact k.elim
theorem s_call {k f : Nat} {x : Str} {p : Pos} {e : Expr} {ad : Addr} {fd : FuncData} {ps : List Str} {ms : List Bool} (hr : Room k X.A) (tk : Takes X W) (hg : Gl X x) (hm : X.mg x = some (.ref ad)) (F : FnAt C Φ cl T X.prog X.w X.K X.mg X.base k f ad fd ps ms) (hd : (x == ("__debug__" : Str)) = false)
    (hs : (e :: es).all noStar = true) (ha : PA X (e :: es) (tA C Φ cl T W ms xs)) : PE X (.Call (.Name x p) (e :: es) [] pos) ((tM C Φ cl T W) (.call f false xs)) := by
  have hs' := Bool.and_eq_true_iff.mp hs
  refine (pe_callS F.fn hr hg hm F.keep F.binds (fun σ => passAt tk σ) ha hd (star_of hs'.1) (stars_of hs'.2)).mono fun σ H Q ⟨Z, ρ, s, k⟩ => ?_
  obtain ⟨ms', em, k⟩ := Wp.opt k
  rw [F.raws] at em; cases em
  exact tR.go s (.refl s) k fun as ρ1 us H1 Z1 p1 r1 k => call_go s p1 r1.1 r1.2 k
/-- a call that only looks: its arguments are not given away -/
theorem Sim.grow (s : Sim cl T Z ρ σ H) (k : ∀ a o, H a = some o → NT o → H' a = some o) (tb : LamX.Tabs T H') : Sim cl T Z ρ σ H' :=
  have st : Stay Z H Z H' := fun a o e n z => ⟨z, k a o e n⟩
  ⟨s.len, fun i d e => by
    obtain ⟨v, e1, e2⟩ := s.imm i d e
    exact ⟨v, e1, e2.mono st⟩, fun i d e => by
    obtain ⟨a, e1, z, e2⟩ := s.own i d e
    exact ⟨a, e1, z, e2.mono st fun o q n => k a o q n⟩, s.dis, fun a z => by
    obtain ⟨o, e, n⟩ := s.zt a z
    exact ⟨o, k a o e n, n⟩, tb⟩
theorem Reps.flats {us : List V} {ds : List D} (r : Reps cl H Z us ds) (f : ds.all D.flat = true) : Reps cl H' Z' us ds := by
  induction ds generalizing us with
  | nil => cases r; exact .nil
  | cons d ds ih =>
    cases r with
    | cons r q =>
      have f' := Bool.and_eq_true_iff.mp f
      exact .cons (r.flat f'.1) (ih q f'.2)
theorem Reps1.plain {us : List V} {ds : List D} (r : Reps1 cl H Z us ds) : ArgsR cl (fun _ => False) H (List.replicate ds.length false) us ds ∧ rawA (List.replicate ds.length false) us = [] := by
  have st : Stay Z H (fun _ => False) H := fun a o e _ _ => ⟨fun q => q, e⟩
  induction ds generalizing us with
  | nil => cases r; exact ⟨.nil, rfl⟩
  | cons d ds ih =>
    cases r with
    | @cons v vs _ _ r q =>
      obtain ⟨h1, h2⟩ := ih q
      refine ⟨.plain ?_ h1, ?_⟩
      · cases r with
        | rep r => exact r.mono st
        | ob o => exact (o.mono st fun _ e _ => e).rep fun q => q
      · show rawA (false :: List.replicate ds.length false) (v :: vs) = []
        cases v <;> exact h2
theorem s_snap {k f : Nat} {x : Str} {p : Pos} {e : Expr} {ad : Addr} {fd : FuncData} {ps : List Str} {ms : List Bool} (hr : Room k X.A) (tk : Takes X W) (hg : Gl X x) (hm : X.mg x = some (.ref ad)) (F : FnAt C Φ cl T X.prog X.w X.K X.mg X.base k f ad fd ps ms) (hd : (x == ("__debug__" : Str)) = false)
    (hs : (e :: es).all noStar = true) (ha : PA X (e :: es) (tV C Φ cl T W xs)) : PE X (.Call (.Name x p) (e :: es) [] pos) ((tM C Φ cl T W) (.call f true xs)) := by
  have hs' := Bool.and_eq_true_iff.mp hs
  refine (pe_callS F.fn hr hg hm F.keep F.binds (fun σ => passAt tk σ) ha hd (star_of hs'.1) (stars_of hs'.2)).mono fun σ H Q ⟨Z, ρ, s, k⟩ => ?_
  obtain ⟨ms', em, k⟩ := Wp.opt k
  rw [F.raws] at em; cases em
  rw [if_pos rfl] at k
  refine tR.go s (.refl s) k fun vs ρ1 us H1 Z1 p1 r1 k => ?_
  obtain ⟨ds, ed, k⟩ := Wp.opt k
  split at k
  rotate_left
  · exact k.elim
  rename_i hms
  obtain ⟨q1, q2⟩ := (v_read s p1 r1 ed).plain
  rw [hms]
  refine ⟨fun _ => False, ds, fun a z => z.elim, p1.sim.tab, q1, by rw [q2]; exact .nil, ?_⟩
  rw [q2]
  split at k
  rotate_left
  · exact k.elim
  rename_i fr d hΦ
  rw [hΦ]
  intro u H' Z' bk an
  have kp : ∀ a o, H1 a = some o → NT o → H' a = some o := fun a o e n => bk.stp.keep a o e List.not_mem_nil n
  have s2 := p1.sim.grow kp bk.tab
  have p2 : Pst cl T σ Z1 H1 ρ1 Z1 H' ρ1 := ⟨⟨fun a o e _ n => kp a o e n, bk.stp.there, fun a z => .inl z, fun a z _ => z⟩, s2, fun _ h => h⟩
  split at k
  · rename_i hf
    have ru : Rep cl H' Z1 u d := by
      unfold AnsR at an
      split at an
      · obtain ⟨a, _, _, _, ob⟩ := an
        cases ob <;> exact nomatch hf
      · exact an.flat hf
    exact k u H' Z1 (p1.trans s p2) (.imm ru)
  · split at k
    · rename_i hff
      obtain ⟨e1, e2⟩ := Bool.and_eq_true_iff.mp hff
      subst e1
      obtain ⟨a, rfl, z, n, ob⟩ := an
      cases ob with
      | @lst vs ys hl rl =>
        have no : ¬ Own ρ1 σ a := fun q => by
          obtain ⟨o, e, _⟩ := p1.sim.ownT q
          rw [n] at e; cases e
        have hno : ∀ b, Z1 b → b ≠ a := fun b zb q => by
          obtain ⟨o, e, _⟩ := p1.sim.zt b zb
          rw [q, n] at e; cases e
        -- what stood leans not on the new list
        have st1 : Stay Z1 H1 (fun b => Z1 b ∨ b = a) H' := fun b o e nt zb => ⟨fun q => q.elim zb fun q => (by rw [q, n] at e; cases e), kp b o e nt⟩
        have s3 : Sim cl T (fun b => Z1 b ∨ b = a) ρ1 σ H' := ⟨p1.sim.len, fun i d e => by
            obtain ⟨v, e1, e2⟩ := p1.sim.imm i d e
            exact ⟨v, e1, e2.mono st1⟩, fun i d e => by
            obtain ⟨b, e1, zb, e2⟩ := p1.sim.own i d e
            exact ⟨b, e1, .inl zb, e2.mono st1 fun o q nt => kp b o q nt⟩, p1.sim.dis, fun b zb => by
            rcases zb with zb | zb
            · obtain ⟨o, e, nt⟩ := p1.sim.zt b zb
              exact ⟨o, kp b o e nt, nt⟩
            · rw [zb]; exact ⟨_, hl, nt_lst⟩, bk.tab⟩
        have p3 : Pst cl T σ Z1 H1 ρ1 (fun b => Z1 b ∨ b = a) H' ρ1 := ⟨⟨fun b o e _ nt => kp b o e nt, bk.stp.there, fun b zb => zb.elim .inl fun q => .inr (by rw [q]; exact n), fun b zb _ => .inl zb⟩, s3, fun _ h => h⟩
        exact k _ H' _ (p1.trans s p3) (.frs (.inr rfl) (p1.back n) (.lst hl (rl.flats e2)))
      | _ => exact nomatch e2
    · exact k.elim

/-! ### methods of an own class, instances made -/
section
variable {CX : CXT} {k : Nat} {f CC : Addr} {fd : FuncData} {ps : List Str} {sp : Sp} {E : L2.St → XK} {x m : Str} {p apos : Pos} {e o : Expr} {ta : TE} {t : TA}
def tMethS (CC : Addr) (m : Str) (sp : Sp) (E : L2.St → XK) (ta : TE) (t : TA) : TE := fun σ H Q => ta σ H fun x H1 => ∃ a dx fs, x = .ref a ∧ H1 a = some (.ins CC dx fs) ∧ fs.lookup m = none ∧
  t σ H1 fun vs H2 => sp (x :: vs) H2 Q (E σ)
theorem pe_methS {pl : Sem Bool} (he : PE X o ta) (c : Cls X.K CC) (hm : Meth X.K CC m f) (F : FnOk X.prog X.w X.K X.mg X.base CX k f fd ps sp) (hr : Room k X.A) (hb : Binds X.K fd ps []) (hx : ∀ σ, PassesAt CX X σ (E σ)) (ha : PA X (e :: es) t)
    (hst : starEach (e :: es) X.env = (false, eval e X.env) :: starEach es X.env) (hpl : (backTo pos (starEach es X.env)).any (·.1) = false)
    (ht : eval (.Call (.Attribute o m apos) (e :: es) [] pos) X.env = (do
      let ov ← eval o X.env
      standAt apos.atName
      let (f, first) ← holding [ov] (getMethod ov m pl)
      callWith pos f first (backTo pos (starEach (e :: es) X.env)) (backToKw pos (keywordEach [] X.env)))) :
    PE X (.Call (.Attribute o m apos) (e :: es) [] pos) (tMethS CC m sp E ta t) := by
  refine ⟨fun pins s σ H Q I h => ?_⟩
  refine PySem.W.methodCall_KW (pl := pl) (thn (he.run pins s σ H _ I h) fun u s1 ⟨x, H1, I1, rx, a, dx, fs, ex, ea, l, q⟩ => ?_) ht
  subst ex
  obtain rfl : u = Value.ref a := rx
  refine getmeth_ok I1 ea c hm l ?_
  refine PySem.W.callWith_K (first := [.ref a]) (h₀ := X.base) I.ok.mod.kin hm.kp (thn (ha.run pos pins s1 σ H1 _ I1 q) fun us s2 ⟨vs, H2, I2, r, q2⟩ => ⟨I2.kIn, ?_⟩) hst hpl
  exact run_fnS (us := .ref a :: us) (vs := .ref a :: vs) F hr hb (hx σ) I2 (.cons rfl r) q2
theorem pe_methS0 {pl : Sem Bool} (he : PE X o ta) (c : Cls X.K CC) (hm : Meth X.K CC m f) (F : FnOk X.prog X.w X.K X.mg X.base CX k f fd ps sp) (hr : Room k X.A) (hb : Binds X.K fd ps []) (hx : ∀ σ, PassesAt CX X σ (E σ))
    (ht : eval (.Call (.Attribute o m apos) [] [] pos) X.env = (do
      let ov ← eval o X.env
      standAt apos.atName
      let (f, first) ← holding [ov] (getMethod ov m pl)
      callWith pos f first (backTo pos (starEach [] X.env)) (backToKw pos (keywordEach [] X.env)))) :
    PE X (.Call (.Attribute o m apos) [] [] pos) (tMethS CC m sp E ta tNil) := by
  refine ⟨fun pins s σ H Q I h => ?_⟩
  refine PySem.W.methodCall_KW (pl := pl) (thn (he.run pins s σ H _ I h) fun u s1 ⟨x, H1, I1, rx, a, dx, fs, ex, ea, l, q⟩ => ?_) ht
  subst ex
  obtain rfl : u = Value.ref a := rx
  refine getmeth_ok I1 ea c hm l ?_
  exact PySem.W.callWith_K0 (first := [.ref a]) I1.kIn hm.kp (run_fnS (us := [.ref a]) (vs := [.ref a]) F hr hb (hx σ) I1 (.cons rfl .nil) q)
def tMakeS (CC : Addr) (sp : Sp) (E : L2.St → XK) (t : TA) : TE := fun σ H Q => t σ H fun vs H1 => ∀ x dx, H1 x = none → H1 dx = none → dx ≠ x →
  sp (.ref x :: vs) (upd (upd H1 dx (.own x)) x (.ins CC dx [])) (fun v H2 => v = .non ∧ Q (.ref x) H2) (E σ)
theorem pe_makeS (Mk' : Mk X.K CC f) (F : FnOk X.prog X.w X.K X.mg X.base CX k f fd ps sp) (hr : Room (k + 1) X.A) (hg : Gl X x) (hm : X.mg x = some (.ref CC)) (hb : Binds X.K fd ps []) (hx : ∀ σ, PassesAt CX X σ (E σ))
    (ha : PA X (e :: es) t) (hdb : (x == ("__debug__" : Str)) = false) (he : starEach (e :: es) X.env = (false, eval e X.env) :: starEach es X.env) (hpl : (backTo pos (starEach es X.env)).any (·.1) = false) :
    PE X (.Call (.Name x p) (e :: es) [] pos) (tMakeS CC sp E t) := by
  refine ⟨fun pins s σ H Q I h => ?_⟩
  refine wpAny_Call_Name_kw (ld_glob I hg hm ?_ hdb)
  refine PySem.W.callWith_K (h₀ := X.base) I.ok.mod.kin Mk'.kp (thn (ha.run pos pins s σ H _ I h) fun us s1 ⟨vs, H1, I1, r, q⟩ => ⟨I1.kIn, ?_⟩) he hpl
  have hq := q (s1.heap.objs.size + 1) s1.heap.objs.size (I1.hok.fresh (Nat.le_succ _)) (I1.hok.fresh (Nat.le_refl _)) (Nat.ne_of_lt (Nat.lt_succ_self _))
  have I2 := Inv.made (C := CC) I1
  have r2 : Vals (V.ref (s1.heap.objs.size + 1) :: vs) (Value.ref (s1.heap.objs.size + 1) :: us) := .cons rfl r
  have hl : (Value.ref (s1.heap.objs.size + 1) :: us).length = ps.length := by
    have e := r2.length
    rw [F.len _ _ _ _ hq] at e
    exact e.symm
  have b := hb _ (Value.ref (s1.heap.objs.size + 1) :: us) I2.kIn (by rw [List.append_nil]; exact hl)
  rw [List.append_nil] at b
  refine wpAny_call (make_map (f := f) I1.kIn Mk'.makes Mk'.init (beq_iff_eq.mp Mk'.fn) (codeAny_mono (F.run _ X.stack _ _ ⟨Value.ref (s1.heap.objs.size + 1) :: us, []⟩ (Value.ref (s1.heap.objs.size + 1) :: us) _ _ (E σ) (hr.make CC us [])
    (I2.env0.make CC us []) b r2 hq) fun r s' hq' => ?_))
  cases r with
  | error e => exact hx σ pins _ _ e s' I2 hq'
  | ok fl =>
    cases fl with
    | ret u =>
      obtain ⟨v, H', I3, rv, ev, q3⟩ := I2.after hq'
      subst ev
      exact ⟨rv, ⟨V.ref (s1.heap.objs.size + 1), H', I3, rfl, q3⟩⟩
    | next => exact False.elim hq'
    | brk => exact False.elim hq'
    | cont => exact False.elim hq'
end
theorem AVR.plains {us : List V} {ds : List D} (r : Reps cl H Z us ds) : AVR cl H0 Z H ρ σ us (ds.map .plain) ∧ avM (ds.map .plain) = List.replicate ds.length false := by
  induction ds generalizing us with
  | nil => cases r; exact ⟨.nil, rfl⟩
  | cons d ds ih =>
    cases r with
    | cons r q => exact ⟨.plain r (ih q).1, congrArg (false :: ·) (ih q).2⟩
theorem any_id_false : ∀ {ms : List Bool}, ms.any id = false → ms = List.replicate ms.length false
  | [], _ => rfl
  | true :: ms, h => by simp at h
  | false :: ms, h => congrArg (false :: ·) (any_id_false (by simpa using h))
theorem RepF.noLook {f : Str} {vs : List (Str × V)} {ds : List (Str × D)} (r : RepF cl H Z vs ds) (e : lookF f ds = none) : vs.lookup f = none := by
  induction ds generalizing vs with
  | nil => cases r; rfl
  | cons p ds ih =>
    obtain ⟨g, d⟩ := p
    cases r with
    | cons r q =>
      unfold lookF at e
      split at e
      · cases e
      · rename_i h
        have hb : (f == g) = false := by simpa using h
        simp only [List.lookup, hb]
        exact ih q e
theorem s_meth {k f : Nat} {m : Str} {apos : Pos} {o e : Expr} {xo : Ex} {ad : Addr} {fd : FuncData} {ps : List Str} {ms : List Bool} (hr : Room k X.A) (tk : Takes X W) (c : Cls X.K (cl 0)) (hm : Meth X.K (cl 0) m ad) (F : FnAt C Φ cl T X.prog X.w X.K X.mg X.base k f ad fd ps ms)
    (ho : noCall0 o = true) (hl : (apos.endLine == pos.line) = true) (hn : (e :: es).length < 29) (hs : (e :: es).all noStar = true) (he : PE X o ((tM C Φ cl T W) xo)) (ha : PA X (e :: es) (tL C Φ cl T W xs)) : PE X (.Call (.Attribute o m apos) (e :: es) [] pos) ((tM C Φ cl T W) (.meth f m xo xs)) := by
  have hs' := Bool.and_eq_true_iff.mp hs
  refine (pe_methS he c hm F.fn hr F.binds (fun σ => passAt tk σ) ha (star_of hs'.1) (stars_of hs'.2) (meth_form ho hs hn hl)).mono fun σ H Q ⟨Z, ρ, s, k⟩ => ?_
  obtain ⟨ms', em, k⟩ := Wp.opt k
  rw [F.raws] at em; cases em
  refine tR.go s (.refl s) k fun vo ρ1 u1 H1 Z1 p1 r1 k => ?_
  obtain ⟨⟨dO, ρ2⟩, ez, k⟩ := Wp.opt k
  obtain ⟨Z2, p2, r2⟩ := r1.fz s p1 ez
  dsimp only at k
  split at k
  · rename_i hok
    unfold methOk at hok
    split at hok
    · rename_i d fs
      cases r2 with
      | @obj a dx _ vf _ z ea rf =>
        refine ⟨a, dx, vf, rfl, ea, rf.noLook (by simpa using hok), ?_⟩
        refine tR.go s p2 k fun ds ρ3 us H3 Z3 p3 r3 k => ?_
        split at k
        · rename_i hms
          have r0 : Rep cl H3 Z3 (.ref a) (.obj 0 fs) := (Rep.obj z ea rf).mono (p3.stay p2.sim)
          obtain ⟨q1, q2⟩ := AVR.plains (H0 := H) (ρ := ρ3) (σ := σ) r3.1
          exact call_go s (p2.trans s p3) (.plain r0 q1) (by rw [hms]; exact congrArg (false :: ·) q2) k
        · exact k.elim
    · cases hok
  · exact k.elim
theorem s_meth0 {k f : Nat} {m : Str} {apos : Pos} {o : Expr} {xo : Ex} {ad : Addr} {fd : FuncData} {ps : List Str} {ms : List Bool} (hr : Room k X.A) (tk : Takes X W) (c : Cls X.K (cl 0)) (hm : Meth X.K (cl 0) m ad) (F : FnAt C Φ cl T X.prog X.w X.K X.mg X.base k f ad fd ps ms)
    (ho : noCall0 o = true) (hl : (apos.endLine == pos.line) = true) (he : PE X o ((tM C Φ cl T W) xo)) : PE X (.Call (.Attribute o m apos) [] [] pos) ((tM C Φ cl T W) (.meth f m xo .nil)) := by
  refine (pe_methS0 he c hm F.fn hr F.binds (fun σ => passAt tk σ) (meth_form (es := []) ho rfl (by decide) hl)).mono fun σ H Q ⟨Z, ρ, s, k⟩ => ?_
  obtain ⟨ms', em, k⟩ := Wp.opt k
  rw [F.raws] at em; cases em
  refine tR.go s (.refl s) k fun vo ρ1 u1 H1 Z1 p1 r1 k => ?_
  obtain ⟨⟨dO, ρ2⟩, ez, k⟩ := Wp.opt k
  obtain ⟨Z2, p2, r2⟩ := r1.fz s p1 ez
  dsimp only at k
  split at k
  · rename_i hok
    unfold methOk at hok
    split at hok
    · rename_i d fs
      cases r2 with
      | @obj a dx _ vf _ z ea rf =>
        refine ⟨a, dx, vf, rfl, ea, rf.noLook (by simpa using hok), ?_⟩
        dsimp only [evL, R.bind] at k
        split at k
        · rename_i hms
          exact call_go s p2 (.plain (.obj z ea rf) .nil) (by rw [hms]; rfl) k
        · exact k.elim
    · cases hok
  · exact k.elim
theorem avA_plains : ∀ (us : List V) (ds : List D), avA us (ds.map AV.plain) = []
  | [], _ => by cases ‹List D› <;> rfl
  | u :: us, [] => by cases u <;> rfl
  | u :: us, d :: ds => by rw [List.map_cons, avA_cons_plain]; exact avA_plains us ds
theorem slots_plains : ∀ l : List D, slotsOf (l.map AV.plain) = []
  | [] => rfl
  | _ :: l => slots_plains l
theorem put_plains : ∀ (l : List D) (ρ : FB.Env), putOuts (l.map AV.plain) [] ρ = some ρ
  | [], _ => rfl
  | _ :: l, ρ => put_plains l ρ
theorem s_make {k f c : Nat} {x : Str} {p : Pos} {e : Expr} {ad : Addr} {fd : FuncData} {ps : List Str} {ms : List Bool} (hr : Room (k + 1) X.A) (tk : Takes X W) (hg : Gl X x) (hm : X.mg x = some (.ref (cl c))) (hi : C.init c = some f) (Mk' : Mk X.K (cl c) ad) (F : FnAt C Φ cl T X.prog X.w X.K X.mg X.base k f ad fd ps ms) (hd : (x == ("__debug__" : Str)) = false)
    (hs : (e :: es).all noStar = true) (ha : PA X (e :: es) (tL C Φ cl T W xs)) : PE X (.Call (.Name x p) (e :: es) [] pos) ((tM C Φ cl T W) (.make c xs)) := by
  have hs' := Bool.and_eq_true_iff.mp hs
  refine (pe_makeS Mk' F.fn hr hg hm F.binds (fun σ => passAt tk σ) ha hd (star_of hs'.1) (stars_of hs'.2)).mono fun σ H Q ⟨Z, ρ, s, k⟩ => ?_
  obtain ⟨f', ef, k⟩ := Wp.opt k
  rw [hi] at ef; cases ef
  obtain ⟨ms', em, k⟩ := Wp.opt k
  rw [F.raws] at em; cases em
  refine tR.go s (.refl s) k fun ds ρ1 us H1 Z1 p1 r1 k => ?_
  split at k
  · rename_i hms
    intro x dx nx nd ne
    obtain ⟨s1, st1, t1, z1⟩ := p1.sim.allocI (o := .own x) nd
    have nx2 : (upd H1 dx (.own x)) x = none := by rw [upd_ne (Ne.symm ne)]; exact nx
    have nt : NT (.ins (cl c) dx []) := nt_ins
    obtain ⟨s2, st2, t2⟩ := s1.alloc (o := .ins (cl c) dx []) nx2 nt
    have p2 : Pst cl T σ Z H ρ _ _ ρ1 := (p1.trans s ⟨t1, s1, fun _ h => h⟩).trans s ⟨t2, s2, fun _ h => h⟩
    have q := (r1.1.mono st1).mono st2
    obtain ⟨q1, q2⟩ := AVR.plains (H0 := H) (ρ := ρ1) (σ := σ) q
    have hx0 : H x = none := p1.back nx
    have ob : Ob cl (upd (upd H1 dx (.own x)) x (.ins (cl c) dx [])) (fun a => Z1 a ∨ a = x) x (.obj c []) := .obj upd_same .nil
    have hno := avA_plains us ds
    have av : AVR cl H (fun a => Z1 a ∨ a = x) (upd (upd H1 dx (.own x)) x (.ins (cl c) dx [])) ρ1 σ (.ref x :: us) (.temp (.obj c []) :: ds.map .plain) := .temp (.inr rfl) hx0 (by rw [hno]; exact List.not_mem_nil) ob q1
    have hz : ∀ a, H a = none → ¬ Own ρ1 σ a := fun a h => p2.noOwn s h
    obtain ⟨ra, rb⟩ := av.args s2 hz
    have ea : avA (.ref x :: us) (.temp (.obj c []) :: ds.map .plain) = [x] := congrArg (x :: ·) hno
    have em : avM (.temp (.obj c []) :: ds.map .plain) = ms := by rw [hms]; exact congrArg (true :: ·) q2
    have ed : (AV.temp (.obj c []) :: ds.map AV.plain).map AV.d = .obj c [] :: ds := by
      show D.obj c [] :: (ds.map AV.plain).map AV.d = _
      rw [List.map_map]
      have : (AV.d ∘ AV.plain) = id := rfl
      rw [this, List.map_id]
    rw [em, ed] at ra
    rw [em, ea] at rb
    refine ⟨_, _, s2.zt, s2.tab, ra, by rw [rb]; exact List.nodup_cons.mpr ⟨List.not_mem_nil, .nil⟩, ?_⟩
    rw [rb]
    have nd0 : (slotsOf (.temp (.obj c []) :: ds.map AV.plain)).Nodup := by
      show (slotsOf (ds.map AV.plain)).Nodup
      rw [slots_plains]; exact .nil
    have hput : ∀ o, putOuts (.temp (.obj c []) :: ds.map AV.plain) [o] ρ1 = some ρ1 := fun o => put_plains ds ρ1
    split at k
    · rename_i o hΦ
      rw [hΦ]
      intro u H' Z' bk an
      rw [← ea] at bk
      have p3 := call_back s p2 av nd0 bk (hput o)
      rw [ea] at bk
      cases an
      refine ⟨rfl, ?_⟩
      cases bk.outs with
      | cons zx ob _ =>
        exact k _ H' _ (p3.let s hx0) (.imm ((ob.mono stay_less fun _ e _ => e).rep fun q => q.2 rfl))
    · rename_i c' fs o hΦ
      rw [hΦ]
      intro cls dd H' Z' bk ex
      rw [← ea] at bk
      exact k cls dd H' Z' (call_back s p2 av nd0 bk (hput o)) ex
    · exact k.elim
  · exact k.elim
end
end FB

set_option Elab.async false
set_option linter.all false
set_option maxRecDepth 100000
set_option maxHeartbeats 400000
namespace FB
open PySem PySem.Spec PyProof.Rows L2
section
variable {C : Cfg} {Φ : Oracle} {cl : Nat → Addr} {T : TabL} {W : WX} {σ : L2.St} {H H' H1 H0 : Hp} {Z Z' Z1 Z0 : AdP} {ρ ρ' ρ1 ρ0 : FB.Env} {X : Cx} {a b c : Expr} {xa xb xc : Ex} {pos : Pos} {es : List Expr} {xs : Exs}
/-! ### an own thing is written -/
theorem stay_upd {l : Addr} {o : HO} (z : Z l) : Stay Z H Z (upd H l o) := fun a u e _ na => ⟨na, by rw [upd_ne (fun q => na (by rw [q]; exact z))]; exact e⟩
theorem Ob.noCode {l : Addr} {d : D} (ob : Ob cl H Z l d) : ∀ u, H l = some u → NT u ∧ ∀ c q, u ≠ LamX.CodeO c q := fun u e => by
  cases ob with
  | lst q _ => rw [e] at q; cases q; exact ⟨nt_lst, fun c q => codeO_lst⟩
  | dct0 q => rw [e] at q; cases q; exact ⟨nt_dK, fun c q => codeO_dK⟩
  | obj q _ => rw [e] at q; cases q; exact ⟨nt_ins, fun c q => codeO_ins⟩
theorem Pst.write {i : Nat} {l : Addr} {o : HO} {d d' : D} (s : Sim cl T Z ρ σ H) (e : ρ[i]? = some (some ⟨true, d⟩)) (el : σ[i]? = some (some (.ref l))) (n : NT o) (ob : Ob cl (upd H l o) Z l d') :
    Pst cl T σ Z H ρ Z (upd H l o) (ρ.set i (some ⟨true, d'⟩)) := by
  obtain ⟨l', e1, zl, ob0⟩ := s.own i d e
  rw [el] at e1; cases e1
  have hi : i < ρ.length := (List.getElem?_eq_some_iff.mp e).1
  have st : Stay Z H Z (upd H l o) := stay_upd zl
  have get : ∀ (j : Nat) (x : D), (ρ.set i (some ⟨true, d'⟩))[j]? = some (some ⟨true, x⟩) → (j = i ∧ x = d') ∨ (j ≠ i ∧ ρ[j]? = some (some ⟨true, x⟩)) := fun j x q => by
    by_cases h : i = j
    · subst h; rw [List.getElem?_set_self hi] at q; cases q; exact .inl ⟨rfl, rfl⟩
    · rw [List.getElem?_set_ne h] at q; exact .inr ⟨fun z => h z.symm, q⟩
  have getO : ∀ (j : Nat) (x : D), (ρ.set i (some ⟨true, d'⟩))[j]? = some (some ⟨true, x⟩) → ∃ y : D, ρ[j]? = some (some ⟨true, y⟩) := fun j x q => by
    rcases get j x q with ⟨h, _⟩ | ⟨_, h⟩
    · rw [h]; exact ⟨d, e⟩
    · exact ⟨x, h⟩
  refine ⟨⟨fun a u q na _ => ?_, fun a q => ?_, fun a z => .inl z, fun a z _ => z⟩, ⟨by rw [List.length_set]; exact s.len, fun j x q => ?_, fun j x q => ?_, fun j k x y a q1 q2 q3 q4 => ?_, fun a z => ?_, Tabs.upd s.tab ob0.noCode⟩, fun a ⟨j, x, q1, q2⟩ => ?_⟩
  · rw [upd_ne (fun h => na ⟨i, d, e, by rw [el, h]⟩)]; exact q
  · by_cases h : a = l
    · rw [h, upd_same]; simp
    · rw [upd_ne h]; exact q
  · by_cases h : i = j
    · subst h; rw [List.getElem?_set_self hi] at q; cases q
    · rw [List.getElem?_set_ne h] at q
      obtain ⟨v, e1, e2⟩ := s.imm j x q
      exact ⟨v, e1, e2.mono st⟩
  · rcases get j x q with ⟨h1, h2⟩ | ⟨h1, h2⟩
    · subst h1 h2; exact ⟨l, el, zl, ob⟩
    · obtain ⟨a, e1, z, e2⟩ := s.own j x h2
      have ne : a ≠ l := fun h => h1 (s.dis j i x d l h2 e (by rw [e1, h]) el)
      exact ⟨a, e1, z, e2.mono st fun u q _ => by rw [upd_ne ne]; exact q⟩
  · obtain ⟨y1, b1⟩ := getO j x q1
    obtain ⟨y2, b2⟩ := getO k y q2
    exact s.dis j k y1 y2 a b1 b2 q3 q4
  · by_cases h : a = l
    · rw [h, upd_same]; exact ⟨o, rfl, n⟩
    · rw [upd_ne h]; exact s.zt a z
  · obtain ⟨y, b⟩ := getO j x q1
    exact ⟨j, y, b, q2⟩
theorem Pst.writeF {l : Addr} {o : HO} {d : D} (s0 : Sim cl T Z0 ρ0 σ H0) (p : Pst cl T σ Z0 H0 ρ0 Z H ρ) (zl : Z l) (nl : H0 l = none) (ob : Ob cl H Z l d) (n : NT o) :
    Pst cl T σ Z0 H0 ρ0 Z (upd H l o) ρ := by
  have s := p.sim
  have st : Stay Z H Z (upd H l o) := stay_upd zl
  refine ⟨⟨fun a u q na nt => ?_, fun a q => ?_, p.stp.new, p.stp.ex⟩, ⟨s.len, fun j x q => ?_, fun j x q => ?_, s.dis, fun a z => ?_, Tabs.upd s.tab ob.noCode⟩, p.sub⟩
  · rw [upd_ne (ne_of_none q nl)]; exact p.stp.keep a u q na nt
  · by_cases h : a = l
    · rw [h, upd_same]; simp
    · rw [upd_ne h]; exact p.stp.there a q
  · obtain ⟨v, e1, e2⟩ := s.imm j x q
    exact ⟨v, e1, e2.mono st⟩
  · obtain ⟨a, e1, z, e2⟩ := s.own j x q
    have ne : a ≠ l := fun h => p.noOwn s0 nl ⟨j, x, q, by rw [e1, h]⟩
    exact ⟨a, e1, z, e2.mono st fun u q _ => by rw [upd_ne ne]; exact q⟩
  · by_cases h : a = l
    · rw [h, upd_same]; exact ⟨o, rfl, n⟩
    · rw [upd_ne h]; exact s.zt a z

/-! ### methods of lists -/
def mthName : Mth → Str
  | .append => "append" | .pop0 => "pop" | .pop1 => "pop" | .extend => "extend" | .clear => "clear" | .index => "index" | .count => "count" | .items => "items" | .add => "add"
def mthId : Mth → String
  | .append => "list.append" | .pop0 => "list.pop" | .pop1 => "list.pop" | .extend => "list.extend" | .clear => "list.clear" | .index => "list.index" | .count => "list.count" | .items => "dict.items" | .add => "set.add"
def Mth.ofList : Mth → Bool
  | .items => false | .add => false | .count => false | .extend => false | _ => true
theorem mth_slot {m : Mth} (h : m.ofList = true) : PySem.Slot "list" (mthName m) (mthId m) ∧ typeOf (.builtin (mthId m)) = pure (.type "method_descriptor") := by
  cases m with
  | append => exact ⟨PySem.F.slot_list_append, PySem.F.type_list_append⟩
  | pop0 => exact ⟨PySem.F.slot_list_pop, PySem.F.type_list_pop⟩
  | pop1 => exact ⟨PySem.F.slot_list_pop, PySem.F.type_list_pop⟩
  | clear => exact ⟨PySem.F.slot_list_clear, PySem.F.type_list_clear⟩
  | index => exact ⟨PySem.F.slot_list_index, PySem.F.type_list_index⟩
  | _ => cases h
def rMut (cl : Nat → Addr) (m : Mth) : V → List V → Hp → VK → Prop := fun x us H Q => ∃ l vs Z xs ds r ys, x = .ref l ∧ H l = some (.lst vs) ∧ Reps cl H Z vs xs ∧ Reps cl H Z us ds ∧ mthD m xs ds = some (r, ys) ∧
  ∀ u vs', Reps cl H Z vs' ys → Rep cl H Z u r → Q u (upd H l (.lst vs'))
theorem ixN_seqI {n : Nat} {i : Int} {j : Nat} (h : FB.ixN n i = some j) : seqIndex? i n = some j ∧ j < n ∧ -(n : Int) ≤ i ∧ i < n := L2.ixN_seq (show L2.ixN n i = some j from h)
theorem lst_small {pins : List (Addr × Obj)} {s : Shared} {l : Addr} {vs : List V} (I : Inv X pins σ H s) (h : H l = some (.lst vs)) : vs.length ≤ 16777216 := by
  have := (lstRd I (.inl h)).1
  rw [sizeLine_eq] at this
  omega
theorem mut_sound {m : Mth} (h : m.ofList = true) (h2 : m.look = false) : MtR X (mthId m) (rMut cl m) := by
  intro pins s σ H x us v ws Q I r rs q
  obtain ⟨l, vs, Z, xs, ds, r', ys, rfl, hl, rv, ru, e, q⟩ := q
  have hz := lst_small I hl
  cases m with
  | append =>
    cases ru with
    | nil => cases e
    | @cons y us' dy ds' ry ru =>
      cases ru with
      | cons _ _ => cases e
      | nil =>
        dsimp only [mthD] at e
        split at e
        · rename_i hlt
          cases e
          refine mt_append pins s σ H _ _ v ws Q I r rs ⟨l, vs, y, rfl, rfl, hl, ?_, q _ _ (rv.app (.cons ry .nil)) .non⟩
          rw [rv.len, ← SZ_eq]; exact hlt
        · cases e
  | pop0 =>
    cases ru with
    | cons _ _ => cases e
    | nil =>
      dsimp only [mthD] at e
      split at e
      · rename_i y hy
        cases e
        obtain ⟨u, hu, rr⟩ := rv.get hy
        exact mt_pop pins s σ H _ _ v ws Q I r rs ⟨l, vs, u, rfl, rfl, hl, by rw [rv.len]; exact hu, q _ _ rv.dropLast rr⟩
      · cases e
  | pop1 =>
    cases ru with
    | nil => cases e
    | @cons y us' dy ds' ry ru =>
      cases ru with
      | cons _ _ => cases dy <;> cases e
      | nil =>
        cases dy with
        | int i =>
          cases ry
          dsimp only [mthD] at e
          split at e
          · rename_i k hk
            split at e
            · rename_i y hy
              cases e
              obtain ⟨u, hu, rr⟩ := rv.get hy
              obtain ⟨e1, e2, e3, e4⟩ := ixN_seqI hk
              rw [← rv.len] at e1 e3 e4
              exact mt_popAt pins s σ H _ _ v ws Q I r rs ⟨l, vs, i, k, u, rfl, rfl, hl, by omega, by omega, e1, hu, q _ _ (rv.erase k) rr⟩
            · cases e
          · cases e
        | _ => cases e
  | clear =>
    cases ru with
    | cons _ _ => cases e
    | nil =>
      cases e
      exact mt_clear pins s σ H _ _ v ws Q I r rs ⟨l, vs, rfl, rfl, hl, q _ _ .nil .non⟩
  | index => cases h2
  | _ => cases h
theorem isL_lst {o : Option D} (h : isL o = true) : ∃ xs, o = some (.lst xs) := by
  unfold isL at h
  split at h
  · exact ⟨_, rfl⟩
  · cases h
theorem Rep1.tyL {K : PySem.W.Frag} {u : V} {xs : List D} (r : Rep1 cl H Z u (.lst xs)) : L2.tyV K "list" u H := by
  obtain ⟨a, vs, rfl, h, _⟩ := r.lst
  exact .inl ⟨rfl, vs, .inl h⟩
theorem mut_go {m : Mth} {vo : Val} {u1 : V} {us : List V} {ds : List D} {Z2 : AdP} {H2 : Hp} {ρ2 : FB.Env} {Q : VK} (hlook : m.look = false) (s : Sim cl T Z ρ σ H) (p1 : Pst cl T σ Z H ρ Z1 H1 ρ1) (r1 : VR cl H Z1 H1 ρ1 σ u1 vo) (p2 : Pst cl T σ Z1 H1 ρ1 Z2 H2 ρ2) (ru : Reps cl H2 Z2 us ds)
    (k : Wp (if m.look then opt (rd ρ2 vo) fun x => opt (mthR m x ds) fun r => .ok (.imm r) ρ2
      else (match vo with
        | .vr i => (match ownD ρ2 i with
          | some (.lst xs) => opt (mthD m xs ds) fun (r, ys) => .ok (.imm r) (ρ2.set i (some ⟨true, .lst ys⟩))
          | _ => .stuck)
        | .frs (.lst xs) => opt (mthD m xs ds) fun (r, _) => .ok (.imm r) ρ2
        | _ => .stuck)) (Kp cl T (VR cl) σ Z H ρ Q) (Xp C cl T W σ Z H ρ)) : rMut cl m u1 us H2 Q := by
  rw [hlook] at k
  have p := p1.trans s p2
  have k : Wp (match vo with
        | .vr i => (match ownD ρ2 i with
          | some (.lst xs) => opt (mthD m xs ds) fun (r, ys) => .ok (.imm r) (ρ2.set i (some ⟨true, .lst ys⟩))
          | _ => .stuck)
        | .frs (.lst xs) => opt (mthD m xs ds) fun (r, _) => .ok (.imm r) ρ2
        | _ => .stuck) (Kp cl T (VR cl) σ Z H ρ Q) (Xp C cl T W σ Z H ρ) := k
  cases r1 with
  | imm r => exact k.elim
  | @vr _ i eu =>
    dsimp only at k
    split at k
    · rename_i xs eo
      obtain ⟨⟨r, ys⟩, em, k⟩ := Wp.opt k
      have eo := ownD_own eo
      obtain ⟨l, e1, zl, ob⟩ := p.sim.own i _ eo
      rw [eu] at e1; cases e1
      cases ob with
      | @lst vs _ hl rv =>
        refine ⟨l, vs, Z2, xs, ds, r, ys, rfl, hl, rv, ru, em, fun u vs' r' rr => ?_⟩
        have st : Stay Z2 H2 Z2 (upd H2 l (.lst vs')) := stay_upd zl
        have pw := Pst.write (o := .lst vs') (d' := .lst ys) p.sim eo eu nt_lst (.lst upd_same (r'.mono st))
        exact k u _ Z2 (p.trans s pw) (.imm (rr.mono st))
    · exact k.elim
  | @frs l d z n ob =>
    cases d with
    | lst xs =>
      dsimp only at k
      obtain ⟨⟨r, ys⟩, em, k⟩ := Wp.opt k
      have no := p1.noOwn s n
      have zl := p2.stp.ex l z no
      have ob2 := ob.mono (p2.stay p1.sim) fun o e nt => p2.stp.keep l o e no nt
      have ob3 := ob2
      cases ob2 with
      | @lst vs _ hl rv =>
        refine ⟨l, vs, Z2, xs, ds, r, ys, rfl, hl, rv, ru, em, fun u vs' r' rr => ?_⟩
        exact k u _ Z2 (Pst.writeF s p zl n ob3 nt_lst) (.imm (rr.mono (stay_upd zl)))
    | _ => exact k.elim
theorem s_mut {m : Mth} {n : Str} {apos : Pos} {o e : Expr} {xo : Ex} (hm : m.ofList = true) (hk : m.look = false) (hn : n = mthName m) (h0 : noCall0 o = true) (hl : (apos.endLine == pos.line) = true) (hf : (e :: es).length < 29) (hs : (e :: es).all noStar = true)
    (ho : PE X o ((tM C Φ cl T W) xo)) (ha : PA X (e :: es) (tL C Φ cl T W xs)) : PE X (.Call (.Attribute o n apos) (e :: es) [] pos) ((tM C Φ cl T W) (.mth m xo xs)) := by
  have hs' := Bool.and_eq_true_iff.mp hs
  subst hn
  refine (pe_bm PySem.F.plainAttrs_list (mth_slot hm).1 (mth_slot hm).2 (mut_sound (cl := cl) hm hk) ho ha (base_of h0) (few_of hs hf) hl (star_of hs'.1) (stars_of hs'.2)).mono fun σ H Q ⟨Z, ρ, s, k⟩ => ?_
  refine tR.go s (.refl s) k fun vo ρ1 u1 H1 Z1 p1 r1 k => ?_
  split at k
  · rename_i hL
    obtain ⟨xs0, ex⟩ := isL_lst hL
    refine ⟨(r1.readL s p1 ex).tyL, tR.go s p1 k fun ds ρ2 us H2 Z2 p2 r2 k => mut_go hk s p1 r1 p2 r2.1 k⟩
  · exact k.elim
theorem s_mut0 {m : Mth} {n : Str} {apos : Pos} {o : Expr} {xo : Ex} (hm : m.ofList = true) (hk : m.look = false) (hn : n = mthName m) (h0 : noCall0 o = true) (hl : (apos.endLine == pos.line) = true)
    (ho : PE X o ((tM C Φ cl T W) xo)) : PE X (.Call (.Attribute o n apos) [] [] pos) ((tM C Φ cl T W) (.mth m xo .nil)) := by
  subst hn
  refine (pe_bm0 PySem.F.plainAttrs_list (mth_slot hm).1 (mth_slot hm).2 (mut_sound (cl := cl) hm hk) ho (base_of h0) hl).mono fun σ H Q ⟨Z, ρ, s, k⟩ => ?_
  refine tR.go s (.refl s) k fun vo ρ1 u1 H1 Z1 p1 r1 k => ?_
  split at k
  · rename_i hL
    obtain ⟨xs0, ex⟩ := isL_lst hL
    exact ⟨(r1.readL s p1 ex).tyL, mut_go hk s p1 r1 (.refl p1.sim) .nil k⟩
  · exact k.elim
/-- x.index(y) -/
theorem Rep.flatV {u : V} {d : D} (r : Rep cl H Z u d) (f : d.flat = true) : L2.flatV u = true := by
  cases r <;> first | rfl | exact nomatch f
theorem Reps.flatV : ∀ {us : List V} {ds : List D}, Reps cl H Z us ds → ds.all D.flat = true → us.all L2.flatV = true
  | _, _, .nil, _ => rfl
  | _, _, .cons r q, f => by
    have f' := Bool.and_eq_true_iff.mp f
    exact Bool.and_eq_true_iff.mpr ⟨r.flatV f'.1, Reps.flatV q f'.2⟩
theorem Rep.eqV {u v : V} {d e : D} (r : Rep cl H Z u d) (q : Rep cl H Z v e) (f : d.flat = true) (g : e.flat = true) : L2.eqV u v = D.eqv d e := by
  cases r <;> first | (exfalso; revert f; decide) | (exfalso; simp [D.flat] at f; done) | (cases q <;> first | rfl | (simp [L2.eqV, D.eqv]; done) | (exfalso; simp [D.flat] at g; done))
theorem idxOf_spec {x : D} : ∀ {ys : List D} {k j : Nat}, idxOf x k ys = some j → ∃ i y, j = k + i ∧ ys[i]? = some y ∧ D.eqv y x = true ∧ ∀ m z, m < i → ys[m]? = some z → D.eqv z x = false
  | [], k, j, h => nomatch h
  | y :: ys, k, j, h => by
    unfold idxOf at h
    split at h
    · rename_i hy
      cases h
      exact ⟨0, y, rfl, rfl, hy, fun m z hm => absurd hm (Nat.not_lt_zero _)⟩
    · rename_i hy
      obtain ⟨i, w, e1, e2, e3, e4⟩ := idxOf_spec h
      refine ⟨i + 1, w, by omega, by simpa using e2, e3, fun m z hm hz => ?_⟩
      cases m with
      | zero => simp at hz; subst hz; simpa using hy
      | succ m => exact e4 m z (by omega) (by simpa using hz)
theorem s_index {n : Str} {apos : Pos} {o e : Expr} {xo : Ex} (hn : n = mthName .index) (h0 : noCall0 o = true) (hl : (apos.endLine == pos.line) = true) (hf : (e :: es).length < 29) (hs : (e :: es).all noStar = true)
    (ho : PE X o ((tM C Φ cl T W) xo)) (ha : PA X (e :: es) (tL C Φ cl T W xs)) : PE X (.Call (.Attribute o n apos) (e :: es) [] pos) ((tM C Φ cl T W) (.mth .index xo xs)) := by
  have hs' := Bool.and_eq_true_iff.mp hs
  subst hn
  refine (pe_bm PySem.F.plainAttrs_list (mth_slot (m := .index) rfl).1 (mth_slot (m := .index) rfl).2 mt_index ho ha (base_of h0) (few_of hs hf) hl (star_of hs'.1) (stars_of hs'.2)).mono fun σ H Q ⟨Z, ρ, s, k⟩ => ?_
  refine tR.go s (.refl s) k fun vo ρ1 u1 H1 Z1 p1 r1 k => ?_
  split at k
  · rename_i hL
    obtain ⟨xs0, ex⟩ := isL_lst hL
    refine ⟨(r1.readL s p1 ex).tyL, tR.go s p1 k fun ds ρ2 us H2 Z2 p2 r2 k => ?_⟩
    have k : Wp (opt (rd ρ2 vo) fun x => opt (mthR .index x ds) fun r => R.ok (.imm r) ρ2) (Kp cl T (VR cl) σ Z H ρ Q) (Xp C cl T W σ Z H ρ) := k
    obtain ⟨x, ex2, k1⟩ := Wp.opt k
    obtain ⟨r, er, k2⟩ := Wp.opt k1
    clear k k1
    have p := p1.trans s p2
    have rx := (r1.later s p1 p2).readL s p ex2
    obtain ⟨ru, _⟩ := r2
    cases x with
    | lst ys =>
      cases ru with
      | nil => cases er
      | @cons u us' y ds' ry ru =>
        cases ru with
        | cons _ _ => cases er
        | nil =>
          dsimp only [mthR] at er
          split at er
          · rename_i hfl
            split at er
            rotate_left
            · cases er
            rename_i j ej
            cases er
            obtain ⟨f1, f2⟩ := Bool.and_eq_true_iff.mp hfl
            obtain ⟨i, w, e1, e2, e3, e4⟩ := idxOf_spec ej
            obtain ⟨l, vs, rfl, hl, rv⟩ := rx.lst
            obtain ⟨z, hz, rz⟩ := rv.get e2
            have fw : w.flat = true := List.all_eq_true.mp f2 w (List.mem_of_getElem? e2)
            have ei : j = i := by omega
            subst ei
            refine ⟨l, vs, u, j, z, rfl, rfl, .inl hl, ry.flatV f1, rv.flatV f2, hz, by rw [rz.eqV ry fw f1]; exact e3, fun m z' hm hz' => ?_, Rep.fin s p (.int _) k2⟩
            obtain ⟨d', hd', rd'⟩ := rv.getV hz'
            rw [rd'.eqV ry (List.all_eq_true.mp f2 d' (List.mem_of_getElem? hd')) f1]
            exact e4 m d' hm hd'
          · cases er
    | _ => cases er
  · exact k.elim
end
end FB

set_option Elab.async false
set_option linter.all false
set_option maxRecDepth 100000
set_option maxHeartbeats 400000
namespace FB
open PySem PySem.Spec PyProof.Rows L2
section
variable {C : Cfg} {Φ : Oracle} {cl : Nat → Addr} {T : TabL} {W : WX} {σ σ' : L2.St} {H H' H1 H0 : Hp} {Z Z' Z1 Z0 O : AdP} {ρ ρ' ρ1 ρ0 : FB.Env} {X : Cx} {a b c tg : Expr} {xa xb xc : Ex} {pos : Pos} {es : List Expr} {xs : Exs}
/-! ### what is walked -/
def rlI (cl : Nat → Addr) : Rel (List D) L2.It := fun _ Z H _ _ J ds => Wk cl J Z H ds
abbrev tI (C : Cfg) (Φ : Oracle) (cl : Nat → Addr) (T : TabL) (W : WX) (x : FB.It) : TI := tR C cl T W (evI C Φ x) (rlI cl)
theorem pi_seqK {l : Expr} {tl : TE} (hl : PE X l tl) : PI X tg l (fun σ H R => tl σ H fun x H1 => ∃ k a xs, x = .ref a ∧ SqK k H1 a xs ∧ R (if k = true then Itt X.K a else Itl X.K a) H1) := by
  refine ⟨fun pins s σ H R I h => ?_⟩
  refine thn (hl.run pins s σ H _ I h) fun v s1 ⟨x, H1, I1, r1, q1⟩ => ?_
  obtain ⟨k, a, xs, e, hq, q⟩ := q1
  subst e
  cases r1
  cases k with
  | false =>
    obtain ⟨its, rv, p, hz⟩ := I1.list (.inl hq)
    refine wpAny_pyIter_list p.isList ?_
    refine ⟨s1.heap.objs.size, [s1.heap.objs.size], _, _, H1, rfl, I1.kept (t' := s1.toks) fun b o e => Heap.get?_push_of_some _ e, turn_list a _, ⟨_, Heap.get?_push_size _ rfl, rfl, rfl⟩, fun b hb => ?_, q⟩
    have e : b = s1.heap.objs.size := by simpa using hb
    subst e
    exact I1.fpOk (Nat.le_refl _) (I1.hok.fresh (Nat.le_refl _))
  | true =>
    obtain ⟨its, rv, p, hz⟩ := I1.tuple (.inl hq)
    refine wpAny_pyIter_tuple p ?_
    refine ⟨s1.heap.objs.size, [s1.heap.objs.size], _, _, H1, rfl, I1.kept (t' := s1.toks) fun b o e => Heap.get?_push_of_some _ e, turn_tuple a _, ⟨_, Heap.get?_push_size _ rfl, rfl, rfl⟩, fun b hb => ?_, q⟩
    have e : b = s1.heap.objs.size := by simpa using hb
    subst e
    exact I1.fpOk (Nat.le_refl _) (I1.hok.fresh (Nat.le_refl _))
theorem i_val (ha : PE X a ((tM C Φ cl T W) xa)) : PI X tg a (tI C Φ cl T W (.val xa)) :=
  (pi_seqK ha).mono fun σ H Q ⟨Z, ρ, s, k⟩ =>
    tR.go s (.refl s) k fun va ρ1 u1 H1 Z1 p1 r1 k => by
      obtain ⟨⟨d, ρ2⟩, e, k⟩ := Wp.opt k
      obtain ⟨ds, ed, k⟩ := Wp.opt k
      obtain ⟨Z2, p2, r2⟩ := r1.fz s p1 e
      obtain ⟨a, rfl⟩ := items_ref r2 ed
      obtain ⟨kk, vs, nz, h1, h2⟩ := Reps.sqK r2 ed
      refine ⟨kk, a, vs, rfl, h1, k _ H1 Z2 p2 ?_⟩
      cases kk with
      | true => exact wk_tup nz h1 h2
      | false => exact wk_list nz h1 h2
theorem small_of {i : Int} (h : FB.small i = true) : -(2 ^ 62) ≤ i ∧ i < 2 ^ 62 := by
  have := Bool.and_eq_true_iff.mp h
  exact ⟨of_decide_eq_true this.1, of_decide_eq_true this.2⟩
theorem i_rng1 {p : Pos} (hg : Gl X "range") (hm : X.mg "range" = none) (h0 : noStar a = true) (ha : PE X a ((tM C Φ cl T W) xa)) : PI X tg (.Call (.Name "range" p) [a] [] pos) (tI C Φ cl T W (.rng1 xa)) :=
  (pi_range1 hg hm (pa_cons ha pa_nil (star_of h0)) (star_of h0)).mono fun σ H Q ⟨Z, ρ, s, k⟩ =>
    tR.go s (.refl s) k fun va ρ1 u1 H1 Z1 p1 r1 k => by
      split at k
      · rename_i j
        split at k
        · rename_i hs
          obtain ⟨b1, b2⟩ := small_of hs
          exact ⟨j, by rw [vr_i r1], b1, b2, k _ H1 Z1 p1 wk_range⟩
        · exact k.elim
      · exact k.elim
theorem i_rng2 {p : Pos} (hg : Gl X "range") (hm : X.mg "range" = none) (h0 : noStar a = true) (h1 : noStar b = true) (ha : PE X a ((tM C Φ cl T W) xa)) (hb : PE X b ((tM C Φ cl T W) xb)) : PI X tg (.Call (.Name "range" p) [a, b] [] pos) (tI C Φ cl T W (.rng2 xa xb)) :=
  (pi_range2 hg hm (pa_cons ha (pa_cons hb pa_nil (star_of h1)) (star_of h0)) (by rw [star_of h0, star_of h1]; rfl) (star_of h1)).mono fun σ H Q ⟨Z, ρ, s, k⟩ =>
    tR.go s (.refl s) k fun va ρ1 u1 H1 Z1 p1 r1 k1 => tR.go s p1 k1 fun vb ρ2 u2 H2 Z2 p2 r2 k => by
      clear k1
      split at k
      · rename_i i j
        split at k
        · rename_i hs
          obtain ⟨hs1, hs2⟩ := Bool.and_eq_true_iff.mp hs
          obtain ⟨b1, b2⟩ := small_of hs1
          obtain ⟨b3, b4⟩ := small_of hs2
          exact ⟨i, j, by rw [vr_i r1, vr_i r2], ⟨b1, b2, b3, b4⟩, k _ H2 Z2 (p1.trans s p2) wk_range⟩
        · exact k.elim
      · exact k.elim
theorem i_rng3 {p : Pos} (hg : Gl X "range") (hm : X.mg "range" = none) (h0 : noStar a = true) (h1 : noStar b = true) (h2 : noStar c = true) (ha : PE X a ((tM C Φ cl T W) xa)) (hb : PE X b ((tM C Φ cl T W) xb)) (hc : PE X c ((tM C Φ cl T W) xc)) : PI X tg (.Call (.Name "range" p) [a, b, c] [] pos) (tI C Φ cl T W (.rng3 xa xb xc)) :=
  (pi_range3 hg hm (pa_cons ha (pa_cons hb (pa_cons hc pa_nil (star_of h2)) (star_of h1)) (star_of h0)) (star_of h0) (stars_of (es := [b, c]) (by simp [h1, h2]))).mono fun σ H Q ⟨Z, ρ, s, k⟩ =>
    tR.go s (.refl s) k fun va ρ1 u1 H1 Z1 p1 r1 k1 => tR.go s p1 k1 fun vb ρ2 u2 H2 Z2 p2 r2 k2 => tR.go s (p1.trans s p2) k2 fun vc ρ3 u3 H3 Z3 p3 r3 k => by
      clear k1 k2
      split at k
      · rename_i i j kk
        split at k
        · rename_i hs
          obtain ⟨hs12, hs3⟩ := Bool.and_eq_true_iff.mp hs
          obtain ⟨hs1, hs2⟩ := Bool.and_eq_true_iff.mp hs12
          obtain ⟨b1, b2⟩ := small_of hs1
          obtain ⟨b3, b4⟩ := small_of hs2
          have hk : kk = -1 := by simpa using hs3
          subst hk
          exact ⟨i, j, -1, (i - j).toNat, by rw [vr_i r1, vr_i r2, vr_i r3], RgC.neg b1 b2 b3 b4, k _ H3 Z3 ((p1.trans s p2).trans s p3) wk_rangeC⟩
        · exact k.elim
      · exact k.elim
theorem i_enum {p tpos : Pos} {elts : List Expr} {kk : Nat} (hg : Gl X "enumerate") (hm : X.mg "enumerate" = none) (h0 : noStar a = true) (ha : PE X a ((tM C Φ cl T W) xa)) : PI X (.Tuple elts kk tpos) (.Call (.Name "enumerate" p) [a] [] pos) (tI C Φ cl T W (.enum xa)) :=
  (pi_enumK hg hm (pa_cons ha pa_nil (star_of h0)) (star_of h0)).mono fun σ H Q ⟨Z, ρ, s, k⟩ =>
    tR.go s (.refl s) k fun va ρ1 u1 H1 Z1 p1 r1 k => by
      obtain ⟨⟨d, ρ2⟩, e, k⟩ := Wp.opt k
      obtain ⟨ds, ed, k⟩ := Wp.opt k
      obtain ⟨Z2, p2, r2⟩ := r1.fz s p1 e
      obtain ⟨a, rfl⟩ := items_ref r2 ed
      obtain ⟨kk, vs, nz, h1, h2⟩ := Reps.sqK r2 ed
      exact ⟨kk, a, vs, rfl, h1, k _ H1 Z2 p2 (wk_enum nz h1 h2)⟩
theorem i_zip {p tpos : Pos} {elts : List Expr} {kk : Nat} (hg : Gl X "zip") (hm : X.mg "zip" = none) (h0 : noStar a = true) (h1 : noStar b = true) (ha : PE X a ((tM C Φ cl T W) xa)) (hb : PE X b ((tM C Φ cl T W) xb)) : PI X (.Tuple elts kk tpos) (.Call (.Name "zip" p) [a, b] [] pos) (tI C Φ cl T W (.zip xa xb)) :=
  (pi_zipK hg hm (pa_cons ha (pa_cons hb pa_nil (star_of h1)) (star_of h0)) (star_of h0) (stars_of (es := [b]) (by simp [h1]))).mono fun σ H Q ⟨Z, ρ, s, k⟩ =>
    tR.go s (.refl s) k fun va ρ1 u1 H1 Z1 p1 r1 k => by
      obtain ⟨⟨d, ρ2⟩, e, k⟩ := Wp.opt k
      obtain ⟨Z2, p2, r2⟩ := r1.fz s p1 e
      refine tR.go s p2 k fun vb ρ3 u3 H3 Z3 p3 r3 k => ?_
      obtain ⟨⟨d', ρ4⟩, e', k⟩ := Wp.opt k
      obtain ⟨ds, ed, k⟩ := Wp.opt k
      obtain ⟨ds', ed', k⟩ := Wp.opt k
      obtain ⟨Z4, p4, r4⟩ := r3.fz p2.sim p3 e'
      have r2 := r2.mono (p4.stay p2.sim)
      obtain ⟨a, rfl⟩ := items_ref r2 ed
      obtain ⟨a', rfl⟩ := items_ref r4 ed'
      obtain ⟨kk, vs, nz, h1, h2⟩ := Reps.sqK r2 ed
      obtain ⟨kk', vs', nz', h1', h2'⟩ := Reps.sqK r4 ed'
      exact ⟨kk, kk', a, a', vs, vs', rfl, h1, h1', k _ H3 Z4 (p2.trans s p4) (wk_zip nz h1 h2 nz' h1' h2')⟩
/-- list(range(..)) -/
theorem rgV_rep {lo hi : Int} : Reps cl H Z (rgV lo hi) (rangeL lo (hi - lo).toNat) := by
  unfold rgV
  generalize (hi - lo).toNat = n
  induction n generalizing lo with
  | zero => exact .nil
  | succ n ih =>
    rw [List.range_succ_eq_map, List.map_cons, List.map_map]
    have e : (List.range n).map ((fun i : Nat => V.int (lo + (i : Nat))) ∘ Nat.succ) = (List.range n).map fun i : Nat => V.int (lo + 1 + (i : Nat)) := by
      refine List.map_congr_left fun i _ => ?_
      show V.int (lo + ((i + 1 : Nat) : Int)) = V.int (lo + 1 + (i : Int))
      congr 1
      omega
    rw [e]
    exact .cons (by rw [show lo + ((0 : Nat) : Int) = lo by omega]; exact .int lo) ih
theorem rangeL_small {lo : Int} {n : Nat} (h : (rangeL lo n).length ≤ SZ) : n ≤ 2 ^ 24 := by
  rw [rangeL_len] at h
  exact h
theorem s_listR1 {p p2 pos2 : Pos} (hc : X.calm = true) (hg : Gl X "range") (hm : X.mg "range" = none) (hg' : Gl X "list") (hm' : X.mg "list" = none) (h0 : noStar a = true) (ha : PE X a ((tM C Φ cl T W) xa)) :
    PE X (.Call (.Name "list" p2) [.Call (.Name "range" p) [a] [] pos] [] pos2) ((tM C Φ cl T W) (.listR (.rng1 xa))) :=
  (pe_listRg hc hg' hm' (prg_1 hg hm ha (star_of h0))).mono fun σ H Q ⟨Z, ρ, s, k⟩ => by
    have k : Wp ((evE C Φ xa ρ).bind fun v ρ1 => (match v with
      | .imm (.int j) => if small j then R.ok (rangeL 0 j.toNat) ρ1 else .stuck
      | _ => .stuck).bind fun ds ρ1 => if ds.length ≤ SZ then .ok (.frs (.lst ds)) ρ1 else .stuck) (Kp cl T (VR cl) σ Z H ρ Q) (Xp C cl T W σ Z H ρ) := by
      refine cast (congrArg (fun r => Wp r _ _) ?_) k
      show R.bind (R.bind (evE C Φ xa ρ) _) _ = _
      cases evE C Φ xa ρ <;> rfl
    refine tR.go s (.refl s) k fun va ρ1 u1 H1 Z1 p1 r1 k => ?_
    split at k
    · rename_i j
      split at k
      · rename_i hs
        have k : Wp (if (rangeL 0 j.toNat).length ≤ SZ then R.ok (.frs (.lst (rangeL 0 j.toNat))) ρ1 else .stuck) (Kp cl T (VR cl) σ Z H ρ Q) (Xp C cl T W σ Z H ρ) := k
        split at k
        · rename_i hl
          obtain ⟨b1, b2⟩ := small_of hs
          have hz := rangeL_small hl
          refine ⟨j, vr_i r1, ⟨by omega, by omega, b1, b2, by rw [Int.sub_zero]; exact hz⟩, fun q hq => ?_⟩
          have e : rangeL 0 j.toNat = rangeL 0 (j - 0).toNat := by rw [Int.sub_zero]
          rw [e] at k
          exact (NewR.list hq rgV_rep).fin s p1 k
        · exact k.elim
      · exact k.elim
    · exact k.elim
end
end FB

set_option Elab.async false
set_option linter.all false
set_option maxRecDepth 100000
set_option maxHeartbeats 400000
namespace FB
open PySem PySem.Spec PyProof.Rows L2
section
variable {C : Cfg} {Φ : Oracle} {cl : Nat → Addr} {T : TabL} {W : WX} {σ σ' : L2.St} {H H' H1 H0 : Hp} {Z Z' Z1 Z0 O O' : AdP} {ρ ρ' ρ1 ρ0 : FB.Env} {X : Cx} {a b c tg : Expr} {xa xb xc : Ex} {pos : Pos} {es : List Expr} {xs : Exs}
theorem Stp.mono (s : Stp O Z H Z' H') (h : ∀ a, O a → O' a) : Stp O' Z H Z' H' := ⟨fun a o e n => s.keep a o e fun q => n (h a q), s.there, s.new, fun a z n => s.ex a z fun q => n (h a q)⟩
/-- a slot is emptied -/
theorem Sim.unset (s : Sim cl T Z ρ σ H) (i : Nat) : Sim cl T Z (ρ.set i none) (σ.set i none) H ∧ ∀ a, Own (ρ.set i none) (σ.set i none) a → Own ρ σ a := by
  have get : ∀ (j : Nat) (x : FB.Slot), (ρ.set i none)[j]? = some (some x) → j ≠ i ∧ ρ[j]? = some (some x) := fun j x q => by
    by_cases h : i = j
    · subst h
      by_cases hl : i < ρ.length
      · rw [List.getElem?_set_self hl] at q; cases q
      · rw [List.getElem?_eq_none (by rw [List.length_set]; omega)] at q; cases q
    · rw [List.getElem?_set_ne h] at q; exact ⟨fun z => h z.symm, q⟩
  have gs : ∀ (j : Nat), j ≠ i → (σ.set i none)[j]? = σ[j]? := fun j h => List.getElem?_set_ne (Ne.symm h)
  refine ⟨⟨by rw [List.length_set, List.length_set]; exact s.len, fun j d q => ?_, fun j d q => ?_, fun j k d e a q1 q2 q3 q4 => ?_, s.zt, s.tab⟩, fun a ⟨j, d, q1, q2⟩ => ?_⟩
  · obtain ⟨h, q⟩ := get j _ q; rw [gs j h]; exact s.imm j d q
  · obtain ⟨h, q⟩ := get j _ q; rw [gs j h]; exact s.own j d q
  · obtain ⟨h1, q1⟩ := get j _ q1
    obtain ⟨h2, q2⟩ := get k _ q2
    rw [gs j h1] at q3; rw [gs k h2] at q4
    exact s.dis j k d e a q1 q2 q3 q4
  · obtain ⟨h, q⟩ := get j _ q1; rw [gs j h] at q2; exact ⟨j, d, q, q2⟩
/-- a plain value into a slot -/
theorem Sim.setI {v : V} {d : D} (s : Sim cl T Z ρ σ H) (r : Rep cl H Z v d) (i : Nat) : Sim cl T Z (ρ.set i (some ⟨false, d⟩)) (σ.set i (some v)) H ∧ ∀ a, Own (ρ.set i (some ⟨false, d⟩)) (σ.set i (some v)) a → Own ρ σ a := by
  have get : ∀ (j : Nat) (x : FB.Slot), (ρ.set i (some ⟨false, d⟩))[j]? = some (some x) → (j = i ∧ x = ⟨false, d⟩ ∧ i < ρ.length) ∨ (j ≠ i ∧ ρ[j]? = some (some x)) := fun j x q => by
    by_cases h : i = j
    · subst h
      by_cases hl : i < ρ.length
      · rw [List.getElem?_set_self hl] at q; cases q; exact .inl ⟨rfl, rfl, hl⟩
      · rw [List.getElem?_eq_none (by rw [List.length_set]; omega)] at q; cases q
    · rw [List.getElem?_set_ne h] at q; exact .inr ⟨fun z => h z.symm, q⟩
  have gs : ∀ (j : Nat), j ≠ i → (σ.set i (some v))[j]? = σ[j]? := fun j h => List.getElem?_set_ne (Ne.symm h)
  have own : ∀ (j : Nat) (x : D), (ρ.set i (some ⟨false, d⟩))[j]? = some (some ⟨true, x⟩) → j ≠ i ∧ ρ[j]? = some (some ⟨true, x⟩) := fun j x q => by
    rcases get j _ q with ⟨_, h, _⟩ | h
    · cases h
    · exact h
  refine ⟨⟨by rw [List.length_set, List.length_set]; exact s.len, fun j x q => ?_, fun j x q => ?_, fun j k x e a q1 q2 q3 q4 => ?_, s.zt, s.tab⟩, fun a ⟨j, x, q1, q2⟩ => ?_⟩
  · rcases get j _ q with ⟨h1, h2, h3⟩ | ⟨h, q⟩
    · cases h2; subst h1
      exact ⟨v, by rw [List.getElem?_set_self (by rw [← s.len]; exact h3)], r⟩
    · rw [gs j h]; exact s.imm j x q
  · obtain ⟨h, q⟩ := own j x q; rw [gs j h]; exact s.own j x q
  · obtain ⟨h1, q1⟩ := own j x q1
    obtain ⟨h2, q2⟩ := own k e q2
    rw [gs j h1] at q3; rw [gs k h2] at q4
    exact s.dis j k x e a q1 q2 q3 q4
  · obtain ⟨h, q⟩ := own j x q1; rw [gs j h] at q2; exact ⟨j, x, q, q2⟩
theorem Sim.wipe (s : Sim cl T Z ρ σ H) : ∀ vs : List Nat, Sim cl T Z (wipeE ρ vs) (L2.wipe σ vs) H ∧ ∀ a, Own (wipeE ρ vs) (L2.wipe σ vs) a → Own ρ σ a
  | [] => ⟨s, fun _ h => h⟩
  | v :: vs => by
    obtain ⟨s1, o1⟩ := Sim.wipe s vs
    obtain ⟨s2, o2⟩ := s1.unset v
    exact ⟨s2, fun a h => o1 a (o2 a h)⟩
theorem wipe_set_out {x : Option V} {i : Nat} : ∀ {vs : List Nat} {σ : L2.St}, i ∉ vs → L2.wipe (σ.set i x) vs = (L2.wipe σ vs).set i x
  | [], _, _ => rfl
  | v :: vs, σ, h => by
    have h1 : i ≠ v := fun e => h (by rw [e]; exact List.mem_cons_self)
    have h2 : i ∉ vs := fun m => h (List.mem_cons_of_mem _ m)
    show (L2.wipe (σ.set i x) vs).set v none = ((L2.wipe σ vs).set v none).set i x
    rw [wipe_set_out h2, List.set_comm _ _ h1]
theorem wipe_set_in {x : Option V} {i : Nat} : ∀ {vs : List Nat} {σ : L2.St}, i ∈ vs → L2.wipe (σ.set i x) vs = L2.wipe σ vs
  | [], _, h => nomatch h
  | v :: vs, σ, h => by
    show (L2.wipe (σ.set i x) vs).set v none = (L2.wipe σ vs).set v none
    by_cases hm : i ∈ vs
    · rw [wipe_set_in hm]
    · rcases List.mem_cons.mp h with e | h
      · subst e
        rw [wipe_set_out hm, List.set_set]
      · exact absurd h hm
theorem wipe_idem {vs : List Nat} {σ : L2.St} : L2.wipe (L2.wipe σ vs) vs = L2.wipe σ vs := by
  have : ∀ ws : List Nat, (∀ x ∈ ws, x ∈ vs) → L2.wipe (L2.wipe σ ws) vs = L2.wipe σ vs := fun ws => by
    induction ws with
    | nil => exact fun _ => rfl
    | cons w ws ih =>
      intro h
      show L2.wipe ((L2.wipe σ ws).set w none) vs = L2.wipe σ vs
      rw [wipe_set_in (h w List.mem_cons_self)]
      exact ih fun x hx => h x (List.mem_cons_of_mem _ hx)
  exact this vs fun _ h => h
/-- the target of a loop -/
def gNames : List Nat → TGs
  | [] => gNil
  | i :: r => gCons (gName i) (gNames r)
def gT (K : PySem.W.Frag) : Tg → TG
  | .name i => gName i
  | .tup is => gTup K is.length (gNames is)
def tgIn (vs : List Nat) : Tg → Bool
  | .name i => vs.contains i
  | .tup is => is.all fun i => vs.contains i
theorem gNames_run : ∀ {is : List Nat} {us : List V} {ds : List D} {ρ ρ' : FB.Env} {σ : L2.St} {Q : L2.St → Hp → Prop}, Sim cl T Z ρ σ H → Reps cl H Z us ds → is.length = ds.length → (is.zip ds).foldl (fun ρ p => ρ.set p.1 (some ⟨false, p.2⟩)) ρ = ρ' →
    (∀ σ', Sim cl T Z ρ' σ' H → (∀ a, Own ρ' σ' a → Own ρ σ a) → (∀ vs : List Nat, (∀ i ∈ is, i ∈ vs) → L2.wipe σ' vs = L2.wipe σ vs) → Q σ' H) → gNames is us σ H Q
  | [], _, _, ρ, ρ', σ, Q, s, r, hl, e, h => by
    cases r with
    | nil => exact ⟨rfl, by subst e; exact h σ s (fun _ h => h) fun _ _ => rfl⟩
    | cons _ _ => simp at hl
  | i :: is, _, _, ρ, ρ', σ, Q, s, r, hl, e, h => by
    cases r with
    | nil => simp at hl
    | @cons u us d ds r q =>
      obtain ⟨s1, o1⟩ := s.setI r i
      refine ⟨u, us, rfl, ?_⟩
      refine gNames_run s1 q (by simpa using hl) e fun σ' s' o' hw => h σ' s' (fun a ha => o1 a (o' a ha)) fun vs hv => ?_
      rw [hw vs fun j hj => hv j (List.mem_cons_of_mem _ hj), wipe_set_in (hv i List.mem_cons_self)]
theorem gT_run {K : PySem.W.Frag} {xt : Tg} {v : V} {d : D} {Q : L2.St → Hp → Prop} (s : Sim cl T Z ρ σ H) (r : Rep cl H Z v d) (e : setTg ρ xt d = some ρ')
    (h : ∀ σ', Sim cl T Z ρ' σ' H → (∀ a, Own ρ' σ' a → Own ρ σ a) → (∀ vs : List Nat, tgIn vs xt = true → L2.wipe σ' vs = L2.wipe σ vs) → Q σ' H) : gT K xt v σ H Q := by
  cases xt with
  | name i =>
    cases e
    obtain ⟨s1, o1⟩ := s.setI r i
    exact h _ s1 o1 fun vs hv => wipe_set_in (by simpa [tgIn] using hv)
  | tup is =>
    cases r with
    | @tup a us ds z hr q =>
      dsimp only [setTg] at e
      split at e
      · rename_i hl
        cases e
        refine ⟨a, us, rfl, .inl hr, by rw [q.len, hl], gNames_run s q hl rfl fun σ' s' o' hw => h σ' s' o' fun vs hv => hw vs fun i hi => ?_⟩
        have := List.all_eq_true.mp hv i hi
        simpa using this
      · cases e
    | _ => cases e
theorem Sim.updF {l : Addr} {o : HO} (s : Sim cl T Z ρ σ H) (no : ¬ Own ρ σ l) (zl : Z l) (n : NT o) (nc : ∀ u, H l = some u → NT u ∧ ∀ c q, u ≠ LamX.CodeO c q) : Sim cl T Z ρ σ (upd H l o) := by
  have st : Stay Z H Z (upd H l o) := stay_upd zl
  refine ⟨s.len, fun j x q => ?_, fun j x q => ?_, s.dis, fun a z => ?_, Tabs.upd s.tab nc⟩
  · obtain ⟨v, e1, e2⟩ := s.imm j x q
    exact ⟨v, e1, e2.mono st⟩
  · obtain ⟨a, e1, z, e2⟩ := s.own j x q
    have ne : a ≠ l := fun h => no ⟨j, x, q, by rw [e1, h]⟩
    exact ⟨a, e1, z, e2.mono st fun u q _ => by rw [upd_ne ne]; exact q⟩
  · by_cases h : a = l
    · rw [h, upd_same]; exact ⟨o, rfl, n⟩
    · rw [upd_ne h]; exact s.zt a z

theorem wipeE_len : ∀ vs : List Nat, (wipeE ρ vs).length = ρ.length
  | [] => rfl
  | v :: vs => by unfold wipeE; rw [List.length_set, wipeE_len vs]
theorem wipeE_out {j : Nat} : ∀ {vs : List Nat}, j ∉ vs → (wipeE ρ vs)[j]? = ρ[j]?
  | [], _ => rfl
  | v :: vs, h => by
    have h1 : v ≠ j := fun e => h (by rw [e]; exact List.mem_cons_self)
    unfold wipeE
    rw [List.getElem?_set_ne h1, wipeE_out fun m => h (List.mem_cons_of_mem _ m)]
theorem wipeE_some {j : Nat} {x : FB.Slot} : ∀ {vs : List Nat}, (wipeE ρ vs)[j]? = some (some x) → j ∉ vs
  | [], _ => List.not_mem_nil
  | v :: vs, h => by
    unfold wipeE at h
    by_cases e : v = j
    · subst e
      by_cases hl : v < (wipeE ρ vs).length
      · rw [List.getElem?_set_self hl] at h; cases h
      · rw [List.getElem?_eq_none (by rw [List.length_set]; omega)] at h; cases h
    · rw [List.getElem?_set_ne e] at h
      intro m
      rcases List.mem_cons.mp m with q | q
      · exact e q.symm
      · exact wipeE_some h q
theorem backE_len : ∀ vs : List Nat, (backE ρ1 ρ vs).length = ρ.length
  | [] => rfl
  | v :: vs => by unfold backE; rw [List.length_set, backE_len vs]
theorem backE_out {j : Nat} : ∀ {vs : List Nat}, j ∉ vs → (backE ρ1 ρ vs)[j]? = ρ[j]?
  | [], _ => rfl
  | v :: vs, h => by
    have h1 : v ≠ j := fun e => h (by rw [e]; exact List.mem_cons_self)
    unfold backE
    rw [List.getElem?_set_ne h1, backE_out fun m => h (List.mem_cons_of_mem _ m)]
theorem backE_in {j : Nat} {x : FB.Slot} : ∀ {vs : List Nat}, j ∈ vs → (backE ρ1 ρ vs)[j]? = some (some x) → ρ1[j]? = some (some x)
  | [], h, _ => nomatch h
  | v :: vs, h, q => by
    unfold backE at q
    by_cases e : v = j
    · subst e
      by_cases hl : v < (backE ρ1 ρ vs).length
      · rw [List.getElem?_set_self hl] at q
        have q := Option.some.inj q
        cases hr : ρ1[v]? with
        | none => rw [hr] at q; cases q
        | some y => rw [hr] at q; exact congrArg some q
      · rw [List.getElem?_eq_none (by rw [List.length_set]; omega)] at q; cases q
    · rw [List.getElem?_set_ne e] at q
      exact backE_in ((List.mem_cons.mp h).resolve_left fun z => e z.symm) q
/-- behind the block the block's own names are as before -/
theorem back_sim {vs : List Nat} {ρc : FB.Env} {Zc : AdP} {Hc : Hp} (s1 : Sim cl T Z1 ρ1 σ H1) (st : Stp (Own (wipeE ρ1 vs) (L2.wipe σ vs)) Z1 H1 Zc Hc) (sc : Sim cl T Zc ρc (L2.wipe σ vs) Hc) (sub : ∀ a, Own ρc (L2.wipe σ vs) a → Own (wipeE ρ1 vs) (L2.wipe σ vs) a) :
    Pst cl T σ Z1 H1 ρ1 Zc Hc (backE ρ1 ρc vs) := by
  have ow := (s1.wipe vs).2
  have stp : Stp (Own ρ1 σ) Z1 H1 Zc Hc := st.mono ow
  have stay := s1.stay stp
  -- an own slot of the block's names is none of the block's own ones
  have apart : ∀ (j : Nat) (d : D) (a : Addr), j ∈ vs → ρ1[j]? = some (some ⟨true, d⟩) → σ[j]? = some (some (.ref a)) → ¬ Own (wipeE ρ1 vs) (L2.wipe σ vs) a := fun j d a hj h1 h2 ⟨i, d', q1, q2⟩ => by
    have hi := wipeE_some q1
    rw [wipeE_out hi] at q1
    rw [wipe_out hi] at q2
    have := s1.dis i j d' d a q1 h1 q2 h2
    subst this
    exact hi hj
  have getc : ∀ (j : Nat) (x : FB.Slot), (backE ρ1 ρc vs)[j]? = some (some x) → (j ∈ vs ∧ ρ1[j]? = some (some x)) ∨ (j ∉ vs ∧ ρc[j]? = some (some x)) := fun j x q => by
    by_cases h : j ∈ vs
    · exact .inl ⟨h, backE_in h q⟩
    · rw [backE_out h] at q; exact .inr ⟨h, q⟩
  refine ⟨stp, ⟨by rw [backE_len, sc.len, wipe_length], fun j d q => ?_, fun j d q => ?_, fun j k d e a q1 q2 q3 q4 => ?_, sc.zt, sc.tab⟩, fun a ⟨j, d, q1, q2⟩ => ?_⟩
  · rcases getc j _ q with ⟨_, q⟩ | ⟨h, q⟩
    · obtain ⟨v, e1, e2⟩ := s1.imm j d q
      exact ⟨v, e1, e2.mono stay⟩
    · obtain ⟨v, e1, e2⟩ := sc.imm j d q
      rw [wipe_out h] at e1
      exact ⟨v, e1, e2⟩
  · rcases getc j _ q with ⟨h, q⟩ | ⟨h, q⟩
    · obtain ⟨a, e1, z, e2⟩ := s1.own j d q
      have na := apart j d a h q e1
      exact ⟨a, e1, st.ex a z na, e2.mono stay fun o e nt => st.keep a o e na nt⟩
    · obtain ⟨a, e1, z, e2⟩ := sc.own j d q
      rw [wipe_out h] at e1
      exact ⟨a, e1, z, e2⟩
  · rcases getc j _ q1 with ⟨h1, q1⟩ | ⟨h1, q1⟩ <;> rcases getc k _ q2 with ⟨h2, q2⟩ | ⟨h2, q2⟩
    · exact s1.dis j k d e a q1 q2 q3 q4
    · exact absurd (sub a ⟨k, e, q2, by rw [wipe_out h2]; exact q4⟩) (apart j d a h1 q1 q3)
    · exact absurd (sub a ⟨j, d, q1, by rw [wipe_out h1]; exact q3⟩) (apart k e a h2 q2 q4)
    · exact sc.dis j k d e a q1 q2 (by rw [wipe_out h1]; exact q3) (by rw [wipe_out h2]; exact q4)
  · rcases getc j _ q1 with ⟨h, q⟩ | ⟨h, q⟩
    · exact ⟨j, d, q, q2⟩
    · exact ow a (sub a ⟨j, d, q, by rw [wipe_out h]; exact q2⟩)

/-! ### the comprehension -/
def W0 : WX := fun _ _ _ _ => False
abbrev tTs (C : Cfg) (Φ : Oracle) (cl : Nat → Addr) (T : TabL) (W : WX) (xs : Exs) : TT := tR C cl T W (evTs C Φ xs) rlB
def turnE (C : Cfg) (Φ : Oracle) (elt : Ex) (vs : List Nat) (tg : Tg) (ifs : Exs) : D → FB.Env → R (Option D) := fun d ρ => opt (setTg ρ tg d) fun ρ => (evTs C Φ ifs ρ).bind fun b ρ =>
        if b then (evE C Φ elt ρ).bind fun v ρ => opt (fz ρ v) fun (y, ρ) => .ok (some y) (wipeE ρ vs) else .ok none (wipeE ρ vs)
theorem compLoop_ok {t : D → FB.Env → R (Option D)} {β : Type} {F : List D → FB.Env → R β} {K : β → FB.Env → Prop} {E : Nat → List D → FB.Env → Prop} : ∀ {ds : List D} {ρ : FB.Env}, Wp ((compLoop t ds ρ).bind F) K E → ∃ ys ρ2, compLoop t ds ρ = .ok ys ρ2 ∧ Wp (F ys ρ2) K E := by
  intro ds ρ h
  have : ∀ (ds : List D) (ρ : FB.Env) c fs ρ', compLoop t ds ρ ≠ .exc c fs ρ' := fun ds => by
    induction ds with
    | nil => intro ρ c fs ρ' e; cases e
    | cons d ds ih =>
      intro ρ c fs ρ' e
      unfold compLoop at e
      split at e
      · exact ih _ _ _ _ e
      · rename_i y ρ1 _
        cases hc : compLoop t ds ρ1 with
        | ok ys ρ2 => rw [hc] at e; cases e
        | exc c fs ρ' => exact ih _ _ _ _ hc
        | stuck => rw [hc] at e; cases e
      · cases e
      · cases e
  cases hc : compLoop t ds ρ with
  | ok ys ρ2 => rw [hc] at h; exact ⟨ys, ρ2, rfl, h⟩
  | exc c fs ρ' => exact absurd hc (this _ _ _ _ _)
  | stuck => rw [hc] at h; exact h.elim
theorem compLoop_step {t : D → FB.Env → R (Option D)} {d : D} {ds ys : List D} {ρ2 : FB.Env} (h : compLoop t (d :: ds) ρ = .ok ys ρ2) :
    ∃ o ρ', t d ρ = .ok o ρ' ∧ ∃ ys', compLoop t ds ρ' = .ok ys' ρ2 ∧ ys = o.toList ++ ys' := by
  unfold compLoop at h
  split at h
  · rename_i ρ' e; exact ⟨none, ρ', e, ys, h, rfl⟩
  · rename_i y ρ' e
    cases hc : compLoop t ds ρ' with
    | ok ys' ρ3 => rw [hc] at h; cases h; exact ⟨some y, ρ', e, ys', hc, rfl⟩
    | exc c fs ρ' => rw [hc] at h; cases h
    | stuck => rw [hc] at h; cases h
  · cases h
  · cases h
/-- the state inside the block -/
structure InB (cl : Nat → Addr) (T : TabL) (O Z1 : AdP) (H1 : Hp) (σw : L2.St) (D : Addr) (ys : List FB.D) (Zc : AdP) (ρc : FB.Env) (Hc : Hp) : Prop where
  stp : Stp O Z1 H1 Zc Hc
  sim : Sim cl T Zc ρc σw Hc
  sub : ∀ a, Own ρc σw a → O a
  zd : Zc D
  acc : ∃ acc, Hc D = some (.lst acc) ∧ Reps cl Hc Zc acc ys
theorem comp_go {Kf : PySem.W.Frag} {xe : Ex} {vs : List Nat} {xt : Tg} {xi : FB.It} {xf : Exs} (ht : tgIn vs xt = true) (σ : L2.St) (H : Hp) (Q : VK) (h : tM C Φ cl T W (.comp xe vs xt xi xf) σ H Q) :
    tLc (tI C Φ cl T W xi) (gT Kf xt) (tTs C Φ cl T W0 xf) (tM C Φ cl T W0 xe) vs σ H Q := by
  obtain ⟨Z, ρ, s, k⟩ := h
  refine tR.go s (.refl s) k fun ds ρ1 J H1 Z1 p1 wk k => ?_
  intro Da nD
  obtain ⟨ys, ρ2, hc, k⟩ := compLoop_ok (t := turnE C Φ xe vs xt xf) k
  split at k
  rotate_left
  · exact k.elim
  rename_i hz
  have s1 := p1.sim
  obtain ⟨sw, ow⟩ := s1.wipe vs
  have nO : ¬ Own (wipeE ρ1 vs) (L2.wipe σ vs) Da := fun q => by
    obtain ⟨o, e, _⟩ := s1.ownT (ow _ q)
    rw [nD] at e; cases e
  have stO : ∀ {Zc : AdP} {Hc : Hp}, Stp (Own (wipeE ρ1 vs) (L2.wipe σ vs)) Z1 H1 Zc Hc → Stay Z1 H1 Zc Hc := fun st => sw.stay st
  refine ⟨fun i m Hc => i ≤ ds.length ∧ m = ds.length - i ∧ ∃ Zc ρc ya yr, InB cl T (Own (wipeE ρ1 vs) (L2.wipe σ vs)) Z1 H1 (L2.wipe σ vs) Da ya Zc ρc Hc ∧ compLoop (turnE C Φ xe vs xt xf) (ds.drop i) ρc = .ok yr ρ2 ∧ ya ++ yr = ys, ⟨_, Nat.zero_le _, rfl, ?_⟩, ?_⟩
  · obtain ⟨s2, st2, t2⟩ := sw.alloc (o := .lst []) nD nt_lst
    exact ⟨_, wipeE ρ1 vs, [], ys, ⟨t2, s2, fun _ h => h, .inr rfl, [], upd_same, .nil⟩, hc, rfl⟩
  · intro i m Hc ⟨hi, hm, Zc, ρc, ya, yr, B, hcl, hys⟩
    have stay := stO B.stp
    by_cases hlt : i < ds.length
    rotate_left
    · left
      have ei : i = ds.length := by omega
      subst ei
      rw [List.drop_length] at hcl
      cases hcl
      refine ⟨wk.stop Hc Zc stay, ?_⟩
      have pb := back_sim s1 B.stp B.sim B.sub
      obtain ⟨acc, ha, hr⟩ := B.acc
      rw [List.append_nil] at hys
      subst hys
      exact k _ Hc Zc (p1.trans s pb) (.frs B.zd (p1.back nD) (.lst ha hr))
    · right
      refine ⟨wk.go i Hc Zc hlt stay, fun H' => ∃ Zc ρc ya yr, InB cl T (Own (wipeE ρ1 vs) (L2.wipe σ vs)) Z1 H1 (L2.wipe σ vs) Da ya Zc ρc H' ∧ compLoop (turnE C Φ xe vs xt xf) (ds.drop (i + 1)) ρc = .ok yr ρ2 ∧ ya ++ yr = ys,
        fun H' hN => ⟨ds.length - (i + 1), by omega, by omega, rfl, hN⟩, fun x H' hy => ?_⟩
      have hd : ds[i]? = some ds[i] := List.getElem?_eq_getElem hlt
      rw [List.drop_eq_getElem_cons hlt] at hcl
      obtain ⟨o, ρ', ht1, yr', hcl', hyr⟩ := compLoop_step hcl
      obtain ⟨Z', p', r'⟩ := (wk.yld i Hc Zc x H' _ hd stay B.sim.zt hy).post B.sim
      cases r' with
      | imm rx =>
      have sub0 : ∀ a, Own ρc (L2.wipe σ vs) a → Own (wipeE ρ1 vs) (L2.wipe σ vs) a ∨ H1 a = none := fun a h => .inl (B.sub a h)
      have kt : Wp (turnE C Φ xe vs xt xf ds[i] ρc) (fun o' ρ'' => o' = o ∧ ρ'' = ρ') (fun _ _ _ => False) := by rw [ht1]; exact ⟨rfl, rfl⟩
      obtain ⟨ρs, es, kt⟩ := Wp.opt kt
      refine gT_run p'.sim rx es fun σ2 s2 o2 hw => ⟨by rw [hw vs ht, wipe_idem], ?_⟩
      have kt : Wp ((evTs C Φ xf ρs).bind fun b ρ => if b then (evE C Φ xe ρ).bind fun v ρ => opt (fz ρ v) fun (y, ρ) => .ok (some y) (wipeE ρ vs) else .ok none (wipeE ρ vs)) (fun o' ρ'' => o' = o ∧ ρ'' = ρ') (Xp C cl T W0 σ2 Z' H' ρs) := kt.mono (fun _ _ h => h) fun _ _ _ h => h.elim
      have subs : ∀ a, Own ρs σ2 a → Own (wipeE ρ1 vs) (L2.wipe σ vs) a := fun a h => B.sub a (p'.sub a (o2 a h))
      have stp' : Stp (Own (wipeE ρ1 vs) (L2.wipe σ vs)) Z1 H1 Z' H' := B.stp.trans sw.zt p'.stp sub0
      have zd' : Z' Da := p'.stp.ex Da B.zd fun q => nO (B.sub Da q)
      obtain ⟨acc, ha, hr⟩ := B.acc
      have ha' : H' Da = some (.lst acc) := p'.stp.keep Da _ ha (fun q => nO (B.sub Da q)) nt_lst
      have hr' := hr.mono (p'.stay B.sim)
      -- what is left of the turn, behind any further step
      have fin : ∀ {Z5 : AdP} {H5 : Hp} {ρ5 : FB.Env}, Pst cl T σ2 Z' H' ρs Z5 H5 ρ5 → Stp (Own (wipeE ρ1 vs) (L2.wipe σ vs)) Z1 H1 Z5 H5 ∧ Sim cl T Z5 (wipeE ρ5 vs) (L2.wipe σ vs) H5 ∧ (∀ a, Own (wipeE ρ5 vs) (L2.wipe σ vs) a → Own (wipeE ρ1 vs) (L2.wipe σ vs) a) ∧ Z5 Da ∧ H5 Da = some (.lst acc) ∧ Reps cl H5 Z5 acc ya := fun {Z5 H5 ρ5} p => by
        obtain ⟨s5, o5⟩ := p.sim.wipe vs
        rw [hw vs ht, wipe_idem] at s5 o5
        have no : ¬ Own ρs σ2 Da := fun q => nO (subs Da q)
        exact ⟨stp'.trans sw.zt p.stp fun a h => .inl (subs a h), s5, fun a h => subs a (p.sub a (o5 a h)), p.stp.ex Da zd' no, p.stp.keep Da _ ha' no nt_lst, hr'.mono (p.stay s2)⟩
      refine tR.go s2 (.refl s2) kt fun b ρ3 b' H3 Z3 p3 eb kt => ?_
      cases (show b' = b from eb)
      cases b with
      | false =>
        obtain ⟨eo, eρ⟩ := (show none = o ∧ wipeE ρ3 vs = ρ' from kt)
        subst eo eρ
        obtain ⟨f1, f2, f3, f4, f5, f6⟩ := fin p3
        exact ⟨Z3, wipeE ρ3 vs, ya, yr', ⟨f1, f2, f3, f4, acc, f5, f6⟩, hcl', by rw [← hys, hyr]; rfl⟩
      | true =>
        refine tR.go s2 p3 kt fun v ρ4 u H4 Z4 p4 r4 kt => ?_
        obtain ⟨⟨y, ρ5⟩, ez, kt⟩ := Wp.opt kt
        obtain ⟨Z5, p5, r5⟩ := r4.fz p3.sim p4 ez
        obtain ⟨eo, eρ⟩ := (show some y = o ∧ wipeE ρ5 vs = ρ' from kt)
        subst eo eρ
        obtain ⟨f1, f2, f3, f4, f5, f6⟩ := fin (p3.trans s2 p5)
        have no5 : ¬ Own (wipeE ρ5 vs) (L2.wipe σ vs) Da := fun q => nO (f3 Da q)
        have st6 : Stay Z5 H4 Z5 (upd H4 Da (.lst (acc ++ [u]))) := stay_upd f4
        have hlen : acc.length < sizeLine := by
          rw [← SZ_eq, f6.len]
          have : ys.length = ya.length + (1 + yr'.length) := by rw [← hys, hyr]; simp; omega
          omega
        refine ⟨acc, f5, hlen, Z5, wipeE ρ5 vs, ya ++ [y], yr', ⟨⟨fun a o q na nt => ?_, fun a q => ?_, f1.new, f1.ex⟩, f2.updF no5 f4 nt_lst (Ob.noCode (.lst f5 f6)), f3, f4, _, upd_same, (f6.app (.cons r5 .nil)).mono st6⟩, hcl', by rw [← hys, hyr]; simp⟩
        · rw [upd_ne (ne_of_none q nD)]; exact f1.keep a o q na nt
        · by_cases h : a = Da
          · rw [h, upd_same]; simp
          · rw [upd_ne h]; exact f1.there a q
end
end FB

set_option Elab.async false
set_option linter.all false
set_option maxRecDepth 100000
set_option maxHeartbeats 400000
namespace FB
open PySem PySem.Spec PyProof.Rows L2
section
variable {C : Cfg} {Φ : Oracle} {cl : Nat → Addr} {T : TabL} {W : WX} {σ σ' : L2.St} {H H' H1 H0 : Hp} {Z Z' Z1 Z0 O O' : AdP} {ρ ρ' ρ1 ρ0 : FB.Env} {X : Cx} {a b c tg : Expr} {xa xb xc : Ex} {pos : Pos} {es : List Expr} {xs : Exs}
/-! ### tests -/
theorem tMt_tM {x : Ex} {Q : Bool → Hp → Prop} (h : (tMt C Φ cl T W) x σ H Q) : (tM C Φ cl T W) x σ H (fun u H' => ∃ b, u = .bl b ∧ Q b H') := by
  obtain ⟨Z, ρ, s, k⟩ := h
  refine tR.go s (.refl s) k fun v ρ1 u H1 Z1 p1 r1 k => ?_
  split at k
  · exact ⟨_, vr_b r1, k _ H1 Z1 p1 rfl⟩
  · exact k.elim
theorem t_val (h : plainT a = true) (ha : PE X a ((tM C Φ cl T W) xa)) : PT X a ((tMt C Φ cl T W) xa) := (pt_val ha (isTrue_of h)).mono fun σ H Q h => tMt_tM h
theorem cmp_imp {op : CmpOp} {Q : VK} (h : (tM C Φ cl T W) (.cmp op xa xb) σ H Q) : tOp (rCm cl op) ((tM C Φ cl T W) xa) ((tM C Φ cl T W) xb) σ H Q := by
  obtain ⟨Z, ρ, s, k⟩ := h
  exact tR.go s (.refl s) k fun va ρ1 u1 H1 Z1 p1 r1 k => tR.go s p1 k fun vb ρ2 u2 H2 Z2 p2 r2 k => by
      obtain ⟨x, ex, k⟩ := Wp.opt k
      obtain ⟨y, ey, k⟩ := Wp.opt k
      obtain ⟨r, er, k⟩ := Wp.opt k
      have p := p1.trans s p2
      exact ⟨Z2, x, y, r, (r1.later s p1 p2).readL s p ex, r2.readL p1.sim p2 ey, er, Rep.fin s p (.bl r) k⟩
theorem t_cmp {op : CmpOp} (hu : X.A.units + 65 < cLine) (ha : PE X a ((tM C Φ cl T W) xa)) (hb : PE X b ((tM C Φ cl T W) xb)) (hm : behindInMarks op b = false) : PT X (.Compare a [op] [b] pos) ((tMt C Φ cl T W) (.cmp op xa xb)) :=
  (pt_cmpR (cmp_sound op hu) ha hb hm).mono fun σ H Q h => cmp_imp (tMt_tM h)
theorem chain_imp {op op' : CmpOp} {Q : VK} (h : (tM C Φ cl T W) (.chain op op' xa xb xc) σ H Q) : tChain (rCm cl op) (rCm cl op') ((tM C Φ cl T W) xa) ((tM C Φ cl T W) xb) ((tM C Φ cl T W) xc) σ H Q := by
  obtain ⟨Z, ρ, s, k⟩ := h
  exact tR.go s (.refl s) k fun va ρ1 u1 H1 Z1 p1 r1 k => tR.go s p1 k fun vb ρ2 u2 H2 Z2 p2 r2 k => by
      obtain ⟨x, ex, k⟩ := Wp.opt k
      obtain ⟨y, ey, k⟩ := Wp.opt k
      obtain ⟨r, er, k⟩ := Wp.opt k
      have p := p1.trans s p2
      refine ⟨Z2, x, y, r, (r1.later s p1 p2).readL s p ex, r2.readL p1.sim p2 ey, er, r, rfl, ?_⟩
      cases r with
      | false => exact Rep.fin s p (.bl false) k
      | true =>
        refine tR.go s p k fun vc ρ3 u3 H3 Z3 p3 r3 k => ?_
        obtain ⟨y, ey, k⟩ := Wp.opt k
        obtain ⟨z, ez, k⟩ := Wp.opt k
        obtain ⟨r, er, k⟩ := Wp.opt k
        exact ⟨Z3, y, z, r, (r2.later p1.sim p2 p3).readL p1.sim (p2.trans p1.sim p3) ey, r3.readL p.sim p3 ez, er, Rep.fin s (p.trans s p3) (.bl r) k⟩
theorem t_chain {op op' : CmpOp} (hu : X.A.units + 65 < cLine) (ha : PE X a ((tM C Φ cl T W) xa)) (hb : PE X b ((tM C Φ cl T W) xb)) (hc : PE X c ((tM C Φ cl T W) xc)) (hm : lastMarks [op, op'] [b, c] = false) : PT X (.Compare a [op, op'] [b, c] pos) ((tMt C Φ cl T W) (.chain op op' xa xb xc)) :=
  (pt_chain (cmp_sound op hu) (cmp_sound op' hu) ha hb hc hm).mono fun σ H Q h => chain_imp (tMt_tM h)
theorem evT_not (x : Ex) (ρ : FB.Env) : evT C Φ (.not x) ρ = (evT C Φ x ρ).bind fun b ρ => .ok (!b) ρ := by
  unfold evT
  show R.bind (R.bind (evE C Φ x ρ) _) _ = R.bind (R.bind (evE C Φ x ρ) _) _
  cases evE C Φ x ρ with
  | ok v ρ1 =>
    rcases v with d | d | i
    · cases d <;> rfl
    · rfl
    · rfl
  | _ => rfl
theorem evT_and (x y : Ex) (ρ : FB.Env) : evT C Φ (.and x y) ρ = (evT C Φ x ρ).bind fun b ρ => if b = true then evT C Φ y ρ else .ok false ρ := by
  unfold evT
  show R.bind (R.bind (evE C Φ x ρ) _) _ = R.bind (R.bind (evE C Φ x ρ) _) _
  cases evE C Φ x ρ with
  | ok v ρ1 =>
    rcases v with d | d | i
    · cases d with
      | bl b => cases b <;> rfl
      | _ => rfl
    · rfl
    · rfl
  | _ => rfl
theorem evT_or (x y : Ex) (ρ : FB.Env) : evT C Φ (.or x y) ρ = (evT C Φ x ρ).bind fun b ρ => if b = true then .ok true ρ else evT C Φ y ρ := by
  unfold evT
  show R.bind (R.bind (evE C Φ x ρ) _) _ = R.bind (R.bind (evE C Φ x ρ) _) _
  cases evE C Φ x ρ with
  | ok v ρ1 =>
    rcases v with d | d | i
    · cases d with
      | bl b => cases b <;> rfl
      | _ => rfl
    · rfl
    · rfl
  | _ => rfl
theorem t_not (ha : PT X a ((tMt C Φ cl T W) xa)) : PT X (.UnaryOp .Not a pos) ((tMt C Φ cl T W) (.not xa)) :=
  (pt_not ha).mono fun σ H Q ⟨Z, ρ, s, k⟩ => by
    rw [evT_not] at k
    refine tR.go s (.refl s) k fun v ρ1 u H1 Z1 p1 r1 k => ?_
    cases (show u = v from r1)
    exact k _ H1 Z1 p1 rfl
theorem t_and {rest : List Expr} (ha : PT X a ((tMt C Φ cl T W) xa)) (hb : PW X (.BoolOp .And (b :: rest) pos) ((tMt C Φ cl T W) xb)) : PW X (.BoolOp .And (a :: b :: rest) pos) ((tMt C Φ cl T W) (.and xa xb)) :=
  ⟨fun w pins s σ H Q I h => (pw_and ha hb).run w pins s σ H Q I (by
    obtain ⟨Z, ρ, s, k⟩ := h
    rw [evT_and] at k
    refine tR.go s (.refl s) k fun v ρ1 u H1 Z1 p1 r1 k => ?_
    cases (show u = v from r1)
    cases v with
    | true => exact tR.last s p1 k fun v ρ2 u2 H2 Z2 p2 r2 k => k u2 H2 Z2 (p1.trans s p2) r2
    | false => exact k _ H1 Z1 p1 rfl)⟩
theorem t_or {rest : List Expr} (ha : PT X a ((tMt C Φ cl T W) xa)) (hb : PW X (.BoolOp .Or (b :: rest) pos) ((tMt C Φ cl T W) xb)) : PW X (.BoolOp .Or (a :: b :: rest) pos) ((tMt C Φ cl T W) (.or xa xb)) :=
  ⟨fun w pins s σ H Q I h => (pw_or ha hb).run w pins s σ H Q I (by
    obtain ⟨Z, ρ, s, k⟩ := h
    rw [evT_or] at k
    refine tR.go s (.refl s) k fun v ρ1 u H1 Z1 p1 r1 k => ?_
    cases (show u = v from r1)
    cases v with
    | false => exact tR.last s p1 k fun v ρ2 u2 H2 Z2 p2 r2 k => k u2 H2 Z2 (p1.trans s p2) r2
    | true => exact k _ H1 Z1 p1 rfl)⟩
/-- the tests of a comprehension -/
theorem ts_nil : PTs X [] (tTs C Φ cl T W .nil) := ⟨fun pins s σ H Q I h => pts_nil.run pins s σ H Q I (by
  obtain ⟨Z, ρ, s, k⟩ := h
  exact k true H Z (.refl s) rfl)⟩
theorem evTs_one (x : Ex) (ρ : FB.Env) : evTs C Φ (.cons x .nil) ρ = evT C Φ x ρ := by
  unfold evT
  show R.bind (evE C Φ x ρ) _ = R.bind (evE C Φ x ρ) _
  cases evE C Φ x ρ with
  | ok v ρ1 =>
    rcases v with d | d | i
    · cases d with
      | bl b => cases b <;> rfl
      | _ => rfl
    · rfl
    · rfl
  | _ => rfl
theorem ts_one (ha : PT X a ((tMt C Φ cl T W) xa)) : PTs X [a] (tTs C Φ cl T W (.cons xa .nil)) := ⟨fun pins s σ H Q I h => (pts_one ha).run pins s σ H Q I (by
  obtain ⟨Z, ρ, s, k⟩ := h
  rw [evTs_one] at k
  exact ⟨Z, ρ, s, k⟩)⟩
end
end FB

set_option Elab.async false
set_option linter.all false
set_option maxRecDepth 100000
set_option maxHeartbeats 400000
namespace FB
open PySem PySem.Spec PyProof.Rows L2
/-! ### statements: all against the def's entry -/
structure Fx where
  A : List Addr
  Z : AdP
  H : Hp
  σ : L2.St
  P : List Nat
section
variable {C : Cfg} {Φ : Oracle} {cl : Nat → Addr} {T : TabL} {W : WX} {σ σ' σ'' : L2.St} {H H' H'' H1 H0 : Hp} {Z Z' Z'' Z1 Z0 O O' : AdP} {ρ ρ' ρ'' ρ1 ρ0 : FB.Env} {X : Cx} {a b c tg : Expr} {xa xb xc : Ex} {pos : Pos} {es : List Expr} {xs : Exs} {F : Fx}
structure Lf (cl : Nat → Addr) (T : TabL) (F : Fx) (Z : AdP) (H : Hp) (ρ : FB.Env) (σ : L2.St) : Prop where
  zt : ZT F.Z F.H
  stp : Stp (fun a => a ∈ F.A) F.Z F.H Z H
  sim : Sim cl T Z ρ σ H
  sub : ∀ a, Own ρ σ a → a ∈ F.A ∨ F.H a = none
  fix : ∀ i ∈ F.P, σ[i]? = F.σ[i]?
theorem Lf.pst (l : Lf cl T F Z H ρ σ) (p : Pst cl T σ Z H ρ Z' H' ρ') : Lf cl T F Z' H' ρ' σ :=
  ⟨l.zt, l.stp.trans l.zt p.stp l.sub, p.sim, fun a h => l.sub a (p.sub a h), l.fix⟩
theorem Lf.back (l : Lf cl T F Z H ρ σ) {a : Addr} (h : H a = none) : F.H a = none := l.stp.gone h
theorem Stay.refl : Stay Z H Z H := fun _ _ e _ z => ⟨z, e⟩
theorem Stay.trans (a : Stay Z H Z' H') (b : Stay Z' H' Z'' H'') : Stay Z H Z'' H'' := fun x o e n z => b x o (a x o e n z).2 n (a x o e n z).1
theorem Lf.setI {v : V} {d : D} {i : Nat} (l : Lf cl T F Z H ρ σ) (r : Rep cl H Z v d) (hi : i ∉ F.P) : Lf cl T F Z H (ρ.set i (some ⟨false, d⟩)) (σ.set i (some v)) := by
  obtain ⟨s1, o1⟩ := l.sim.setI r i
  exact ⟨l.zt, l.stp, s1, fun a h => l.sub a (o1 a h), fun j hj => by rw [List.getElem?_set_ne (fun e => hi (by rw [e]; exact hj))]; exact l.fix j hj⟩
theorem Sim.setO {a : Addr} {d : D} {i : Nat} (s : Sim cl T Z ρ σ H) (z : Z a) (no : ¬ Own ρ σ a) (ob : Ob cl H Z a d) : Sim cl T Z (ρ.set i (some ⟨true, d⟩)) (σ.set i (some (.ref a))) H ∧ ∀ b, Own (ρ.set i (some ⟨true, d⟩)) (σ.set i (some (.ref a))) b → b = a ∨ Own ρ σ b := by
  have gs : ∀ (j : Nat), j ≠ i → (σ.set i (some (.ref a)))[j]? = σ[j]? := fun j h => List.getElem?_set_ne (Ne.symm h)
  have get : ∀ (j : Nat) (x : FB.Slot), (ρ.set i (some ⟨true, d⟩))[j]? = some (some x) → (j = i ∧ x = ⟨true, d⟩ ∧ i < ρ.length) ∨ (j ≠ i ∧ ρ[j]? = some (some x)) := fun j x q => by
    by_cases h : i = j
    · subst h
      by_cases hl : i < ρ.length
      · rw [List.getElem?_set_self hl] at q; cases q; exact .inl ⟨rfl, rfl, hl⟩
      · rw [List.getElem?_eq_none (by rw [List.length_set]; omega)] at q; cases q
    · rw [List.getElem?_set_ne h] at q; exact .inr ⟨fun z => h z.symm, q⟩
  refine ⟨⟨by rw [List.length_set, List.length_set]; exact s.len, fun j x q => ?_, fun j x q => ?_, fun j k x e b q1 q2 q3 q4 => ?_, s.zt, s.tab⟩, fun b ⟨j, x, q1, q2⟩ => ?_⟩
  · rcases get j _ q with ⟨_, h, _⟩ | ⟨h, q⟩
    · cases h
    · rw [gs j h]; exact s.imm j x q
  · rcases get j _ q with ⟨h1, h2, h3⟩ | ⟨h, q⟩
    · cases h2; subst h1
      exact ⟨a, by rw [List.getElem?_set_self (by rw [← s.len]; exact h3)], z, ob⟩
    · rw [gs j h]; exact s.own j x q
  · have at_ : ∀ (k : Nat) (y : D), (ρ.set i (some ⟨true, d⟩))[k]? = some (some ⟨true, y⟩) → (σ.set i (some (.ref a)))[k]? = some (some (.ref b)) → (k = i ∧ b = a) ∨ (k ≠ i ∧ ρ[k]? = some (some ⟨true, y⟩) ∧ σ[k]? = some (some (.ref b))) := fun k y h1 h2 => by
      rcases get k _ h1 with ⟨e1, e2, e3⟩ | ⟨h, q⟩
      · subst e1
        rw [List.getElem?_set_self (by rw [← s.len]; exact e3)] at h2
        cases h2; exact .inl ⟨rfl, rfl⟩
      · rw [gs k h] at h2; exact .inr ⟨h, q, h2⟩
    rcases at_ j x q1 q3 with ⟨e1, e2⟩ | ⟨n1, e1, e2⟩ <;> rcases at_ k e q2 q4 with ⟨f1, f2⟩ | ⟨n2, f1, f2⟩
    · rw [e1, f1]
    · subst e2; exact absurd ⟨k, e, f1, f2⟩ no
    · subst f2; exact absurd ⟨j, x, e1, e2⟩ no
    · exact s.dis j k x e b e1 f1 e2 f2
  · rcases get j _ q1 with ⟨e1, e2, e3⟩ | ⟨h, q⟩
    · subst e1
      rw [List.getElem?_set_self (by rw [← s.len]; exact e3)] at q2
      cases q2; exact .inl rfl
    · rw [gs j h] at q2; exact .inr ⟨j, x, q, q2⟩
theorem Lf.setO {a : Addr} {d : D} {i : Nat} (l : Lf cl T F Z H ρ σ) (z : Z a) (no : ¬ Own ρ σ a) (n : F.H a = none) (ob : Ob cl H Z a d) (hi : i ∉ F.P) : Lf cl T F Z H (ρ.set i (some ⟨true, d⟩)) (σ.set i (some (.ref a))) := by
  obtain ⟨s1, o1⟩ := l.sim.setO (i := i) z no ob
  exact ⟨l.zt, l.stp, s1, fun b h => (o1 b h).elim (fun e => .inr (by rw [e]; exact n)) (l.sub b), fun j hj => by rw [List.getElem?_set_ne (fun e => hi (by rw [e]; exact hj))]; exact l.fix j hj⟩
theorem Sim.forget (s : Sim cl T Z ρ σ H) (i : Nat) : Sim cl T Z (ρ.set i none) σ H ∧ ∀ (a : Addr), Own (ρ.set i none) σ a → Own ρ σ a := by
  have get : ∀ (j : Nat) (x : FB.Slot), (ρ.set i none)[j]? = some (some x) → j ≠ i ∧ ρ[j]? = some (some x) := fun j x q => by
    by_cases h : i = j
    · subst h
      by_cases hl : i < ρ.length
      · rw [List.getElem?_set_self hl] at q; cases q
      · rw [List.getElem?_eq_none (by rw [List.length_set]; omega)] at q; cases q
    · rw [List.getElem?_set_ne h] at q; exact ⟨fun z => h z.symm, q⟩
  exact ⟨⟨by rw [List.length_set]; exact s.len, fun j d q => s.imm j d (get j _ q).2, fun j d q => s.own j d (get j _ q).2, fun j k d e a q1 q2 => s.dis j k d e a (get j _ q1).2 (get k _ q2).2, s.zt, s.tab⟩, fun a ⟨j, d, q1, q2⟩ => ⟨j, d, (get j _ q1).2, q2⟩⟩
/-- what a return hands over -/
def RetR (cl : Nat → Addr) (F : Fx) (Z : AdP) (H : Hp) (ρ : FB.Env) (σ : L2.St) (fr : Bool) (u : V) (d : D) : Prop :=
  if fr = true then ∃ a, u = .ref a ∧ Z a ∧ ¬ Own ρ σ a ∧ (a ∈ F.A ∨ F.H a = none) ∧ Ob cl H Z a d else Rep cl H Z u d
/-- what must hold behind a statement's run that began at Z H -/
def Ws (C : Cfg) (cl : Nat → Addr) (T : TabL) (W : WX) (F : Fx) (Z : AdP) (H : Hp) (D : Ends) : SR → Prop
  | .next ρ' => ∀ σ' H' Z', Lf cl T F Z' H' ρ' σ' → Stay Z H Z' H' → D.nx σ' H'
  | .brk ρ' => ∀ σ' H' Z', Lf cl T F Z' H' ρ' σ' → Stay Z H Z' H' → D.bk σ' H'
  | .cont ρ' => ∀ σ' H' Z', Lf cl T F Z' H' ρ' σ' → Stay Z H Z' H' → D.ct σ' H'
  | .ret fr d ρ' => ∀ u σ' H' Z', Lf cl T F Z' H' ρ' σ' → RetR cl F Z' H' ρ' σ' fr u d → D.rt u H'
  | .exc c ds ρ' => ∀ cls dd σ' H' Z', Lf cl T F Z' H' ρ' σ' → ExR C cl Z' H' c ds cls dd → W cls dd σ' H'
  | .stuck => False
def tSt (C : Cfg) (cl : Nat → Addr) (T : TabL) (W : WX) (F : Fx) (run : FB.Env → SR) : TS := fun D σ H => ∃ Z ρ, Lf cl T F Z H ρ σ ∧ Ws C cl T W F Z H D (run ρ)
abbrev tS (C : Cfg) (Φ : Oracle) (cl : Nat → Addr) (T : TabL) (W : WX) (F : Fx) (x : Stm) : TS := tSt C cl T W F (exS C Φ x)
abbrev tSs (C : Cfg) (Φ : Oracle) (cl : Nat → Addr) (T : TabL) (W : WX) (F : Fx) (x : Stms) : TS := tSt C cl T W F (exSs C Φ x)
theorem Ws.later {D : Ends} {r : SR} (st : Stay Z H Z' H') (w : Ws C cl T W F Z H D r) : Ws C cl T W F Z' H' D r := by
  cases r with
  | next ρ => exact fun σ' H2 Z2 l s => w σ' H2 Z2 l (st.trans s)
  | brk ρ => exact fun σ' H2 Z2 l s => w σ' H2 Z2 l (st.trans s)
  | cont ρ => exact fun σ' H2 Z2 l s => w σ' H2 Z2 l (st.trans s)
  | ret fr d ρ => exact w
  | exc c ds ρ => exact w
  | stuck => exact w
/-- an expression first -/
theorem Ws.go {α β : Type} {run : FB.Env → R α} {rel : Rel α β} {f : α → FB.Env → SR} {D : Ends} {Q : β → Hp → Prop} (l : Lf cl T F Z H ρ σ) (h : Ws C cl T W F Z H D ((run ρ).thn f))
    (hq : ∀ v ρ1 u H1 Z1, Pst cl T σ Z H ρ Z1 H1 ρ1 → rel H Z1 H1 ρ1 σ u v → Ws C cl T W F Z H D (f v ρ1) → Q u H1) : tR C cl T W run rel σ H Q := by
  refine ⟨Z, ρ, l.sim, ?_⟩
  cases hr : run ρ with
  | ok v ρ1 => rw [hr] at h; exact fun u H1 Z1 p r => hq v ρ1 u H1 Z1 p r h
  | exc c ds ρ1 => rw [hr] at h; exact fun cls d H1 Z1 p x => h cls d σ H1 Z1 (l.pst p) x
  | stuck => rw [hr] at h; exact h
/-- .. behind other expressions -/
theorem Ws.go2 {α β : Type} {run : FB.Env → R α} {rel : Rel α β} {f : α → FB.Env → SR} {D : Ends} {Q : β → Hp → Prop} (l : Lf cl T F Z H ρ σ) (p0 : Pst cl T σ Z H ρ Z1 H1 ρ1) (h : Ws C cl T W F Z H D ((run ρ1).thn f))
    (hq : ∀ v ρ2 u H2 Z2, Pst cl T σ Z1 H1 ρ1 Z2 H2 ρ2 → rel H1 Z2 H2 ρ2 σ u v → Ws C cl T W F Z H D (f v ρ2) → Q u H2) : tR C cl T W run rel σ H1 Q := by
  refine ⟨Z1, ρ1, p0.sim, ?_⟩
  cases hr : run ρ1 with
  | ok v ρ1 => rw [hr] at h; exact fun u H1 Z1 p r => hq v ρ1 u H1 Z1 p r h
  | exc c ds ρ1 => rw [hr] at h; exact fun cls d H1 Z1 p x => h cls d σ H1 Z1 ((l.pst p0).pst p) x
  | stuck => rw [hr] at h; exact h
theorem Ws.opt {α : Type} {o : Option α} {f : α → SR} {D : Ends} (h : Ws C cl T W F Z H D (optS o f)) : ∃ v, o = some v ∧ Ws C cl T W F Z H D (f v) := by
  cases o with
  | none => exact h.elim
  | some a => exact ⟨a, rfl, h⟩
theorem ss_nil : PSs X [] ((tSs C Φ cl T W F) .nil) := pss_nil.mono fun D σ H ⟨Z, ρ, l, k⟩ => k σ H Z l .refl
theorem ss_cons {st : Stmt} {rest : List Stmt} {x : Stm} {r : Stms} (h1 : PS X st ((tS C Φ cl T W F) x)) (h2 : PSs X rest ((tSs C Φ cl T W F) r)) : PSs X (st :: rest) ((tSs C Φ cl T W F) (.cons x r)) :=
  (pss_cons h1 h2).mono fun D σ H ⟨Z, ρ, l, k⟩ => by
    refine ⟨Z, ρ, l, ?_⟩
    have k : Ws C cl T W F Z H D ((exS C Φ x ρ).thn fun ρ1 => exSs C Φ r ρ1) := k
    cases hr : exS C Φ x ρ with
    | next ρ1 => rw [hr] at k; exact fun σ' H' Z' l' st => ⟨Z', ρ1, l', Ws.later st k⟩
    | brk ρ1 => rw [hr] at k; exact k
    | cont ρ1 => rw [hr] at k; exact k
    | ret fr d ρ1 => rw [hr] at k; exact k
    | exc c ds ρ1 => rw [hr] at k; exact k
    | stuck => rw [hr] at k; exact k
theorem st_expr (h : noComp a = true) (ha : PE X a ((tM C Φ cl T W) xa)) : PS X (.Expr a pos) ((tS C Φ cl T W F) (.expr xa)) :=
  (ps_expr ha (swaps_of h)).mono fun D σ H ⟨Z, ρ, l, k⟩ => Ws.go l k fun v ρ1 u H1 Z1 p1 r1 k => k σ H1 Z1 (l.pst p1) (p1.stay l.sim)
/-- x = e, by what stands behind e -/
def asgK (own : Bool) (i : Nat) (v : Val) (ρ1 : FB.Env) : SR := if own then (match v with
      | .frs d => .next (ρ1.set i (some ⟨true, d⟩))
      | _ => .stuck)
    else optS (fz ρ1 v) fun (d, ρ2) => .next (ρ2.set i (some ⟨false, d⟩))
theorem asg_in {own : Bool} {i : Nat} {D : Ends} {v : Val} {u : V} (hi : i ∉ F.P) (l : Lf cl T F Z H ρ σ) (p1 : Pst cl T σ Z H ρ Z1 H1 ρ1) (r1 : VR cl H Z1 H1 ρ1 σ u v)
    (k : Ws C cl T W F Z H D (asgK own i v ρ1)) : gName i u σ H1 D.nx := by
  cases own with
  | true =>
    cases r1 with
    | @frs a d z n ob =>
      have n1 := p1.noOwn l.sim n
      exact k _ H1 Z1 ((l.pst p1).setO z n1 (l.back n) ob hi) (p1.stay l.sim)
    | _ => exact k.elim
  | false =>
    obtain ⟨⟨d, ρ2⟩, e, k⟩ := Ws.opt (show Ws C cl T W F Z H D (optS (fz ρ1 v) fun (d, ρ2) => .next (ρ2.set i (some ⟨false, d⟩))) from k)
    obtain ⟨Z2, p2, r2⟩ := r1.fz l.sim p1 e
    exact k _ H1 Z2 ((l.pst p2).setI r2 hi) (p2.stay l.sim)
theorem st_asg {own : Bool} {i : Nat} {x : Str} {pos' : Pos} (hi : i ∉ F.P) (hN : X.N.Nodup) (hx : X.N[i]? = some x) (hl : Loc X.env.scope x) (hf : X.fn x = true ∨ X.env.scope.names.lookup x = some .local) (hs : swapsWith a (some (.Name x pos')) pos.line X.env = pure false) (ha : PE X a ((tM C Φ cl T W) xa)) :
    PS X (.Assign [.Name x pos'] a pos) ((tS C Φ cl T W F) (.asg own i xa)) :=
  (ps_set hN hx hl ha hs hf).mono fun D σ H ⟨Z, ρ, l, k⟩ => Ws.go l k fun v ρ1 u H1 Z1 p1 r1 k => asg_in hi l p1 r1 k
theorem st_asgLc {own : Bool} {i : Nat} {y : Str} {py : Pos} {elt iter : Expr} {ifs : List Expr} {scope : Scope} {ow : List (Str × Nat)} {spos : Pos} {xe : Ex} {xt : Tg} {xi : FB.It} {xf : Exs} (hi : i ∉ F.P) (hc : X.calm = true) (hN : X.N.Nodup) (hy : X.N[i]? = some y) (hyl : X.env.scope.names.lookup y = some .local)
    (hsw : swapsWith (.ListComp elt [⟨tg, iter, ifs, 0⟩] scope pos) (some (.Name y py)) spos.line X.env = pure true) (hit : PI X tg iter (tI C Φ cl T W xi)) (ok : BlkOk X.N X.env.scope scope ow) (htg : tgIn (ow.map (·.2)) xt = true)
    (hg : ∀ (s : Shared) (H : Hp) (C' : Addr) (cl' : List (Str × Addr)) (fp : List Addr), PG (X.blk s H scope (compEnvC scope cl' C' X.env) fp) tg (gT X.K xt))
    (ht : ∀ (s : Shared) (H : Hp) (C' : Addr) (cl' : List (Str × Addr)) (fp : List Addr), PTs (X.blk s H scope (compEnvC scope cl' C' X.env) fp) ifs (tTs C Φ cl T W0 xf))
    (he : ∀ (s : Shared) (H : Hp) (C' : Addr) (cl' : List (Str × Addr)) (fp : List Addr), PE (X.blk s H scope (compEnvC scope cl' C' X.env) fp) elt (tM C Φ cl T W0 xe)) (hs : noSet iter = true) :
    PS X (.Assign [.Name y py] (.ListComp elt [⟨tg, iter, ifs, 0⟩] scope pos) spos) ((tS C Φ cl T W F) (.asg own i (.comp xe (ow.map (·.2)) xt xi xf))) :=
  (ps_setLc hc hN hy hyl hsw hit ok hg ht he (folded_of hs)).mono fun D σ H ⟨Z, ρ, l, k⟩ => comp_go htg σ H _ (Ws.go l k fun v ρ1 u H1 Z1 p1 r1 k => asg_in hi l p1 r1 k)
theorem s_comp {elt iter : Expr} {ifs : List Expr} {scope : Scope} {ow : List (Str × Nat)} {xe : Ex} {xt : Tg} {xi : FB.It} {xf : Exs} (hc : X.calm = true) (hN : X.N.Nodup)
    (hit : PI X tg iter (tI C Φ cl T W xi)) (ok : BlkOk X.N X.env.scope scope ow) (htg : tgIn (ow.map (·.2)) xt = true)
    (hg : ∀ (s : Shared) (H : Hp) (C' : Addr) (cl' : List (Str × Addr)) (fp : List Addr), PG (X.blk s H scope (compEnvC scope cl' C' X.env) fp) tg (gT X.K xt))
    (ht : ∀ (s : Shared) (H : Hp) (C' : Addr) (cl' : List (Str × Addr)) (fp : List Addr), PTs (X.blk s H scope (compEnvC scope cl' C' X.env) fp) ifs (tTs C Φ cl T W0 xf))
    (he : ∀ (s : Shared) (H : Hp) (C' : Addr) (cl' : List (Str × Addr)) (fp : List Addr), PE (X.blk s H scope (compEnvC scope cl' C' X.env) fp) elt (tM C Φ cl T W0 xe)) (hs : noSet iter = true) :
    PE X (.ListComp elt [⟨tg, iter, ifs, 0⟩] scope pos) ((tM C Φ cl T W) (.comp xe (ow.map (·.2)) xt xi xf)) :=
  (pe_lc hc hN hit ok hg ht he (folded_of hs)).mono fun σ H Q h => comp_go htg σ H Q h
end
end FB

set_option Elab.async false
set_option linter.all false
set_option maxRecDepth 100000
set_option maxHeartbeats 400000
namespace FB
open PySem PySem.Spec PyProof.Rows L2
section
variable {C : Cfg} {Φ : Oracle} {cl : Nat → Addr} {T : TabL} {W : WX} {σ σ' σ'' : L2.St} {H H' H'' H1 H0 : Hp} {Z Z' Z'' Z1 Z0 O O' : AdP} {ρ ρ' ρ'' ρ1 ρ0 : FB.Env} {X : Cx} {a b c tg : Expr} {xa xb xc : Ex} {pos : Pos} {es : List Expr} {xs : Exs} {F : Fx}
theorem st_pass : PS X (.Pass pos) ((tS C Φ cl T W F) .pass) := ps_pass.mono fun D σ H ⟨Z, ρ, l, k⟩ => k σ H Z l .refl
theorem st_brk : PS X (.Break pos) ((tS C Φ cl T W F) .brk) := ps_break.mono fun D σ H ⟨Z, ρ, l, k⟩ => k σ H Z l .refl
theorem st_cont : PS X (.Continue pos) ((tS C Φ cl T W F) .cont) := ps_continue.mono fun D σ H ⟨Z, ρ, l, k⟩ => k σ H Z l .refl
theorem st_retN : PS X (.Return none pos) ((tS C Φ cl T W F) .retN) := ps_retN.mono fun D σ H ⟨Z, ρ, l, k⟩ => k .non σ H Z l (show RetR cl F Z H ρ σ false .non .non from .non)
theorem st_raise {e : Option Expr} {e2 : Option Expr} {cc : Nat} : PS X (.Raise e e2 pos) ((tS C Φ cl T W F) (.raise cc xs)) := ps_never.mono fun D σ H ⟨Z, ρ, l, k⟩ => k.elim
theorem st_ret (ha : PE X a ((tM C Φ cl T W) xa)) : PS X (.Return (some a) pos) ((tS C Φ cl T W F) (.ret xa)) :=
  (ps_ret ha).mono fun D σ H ⟨Z, ρ, l, k⟩ => Ws.go l k fun v ρ1 u H1 Z1 p1 r1 k => by
    have l1 := l.pst p1
    cases r1 with
    | imm r => exact k u σ H1 Z1 l1 (show RetR cl F Z1 H1 ρ1 σ false u _ from r)
    | @frs a d z n ob => exact k _ σ H1 Z1 l1 (show RetR cl F Z1 H1 ρ1 σ true _ d from ⟨a, rfl, z, p1.noOwn l.sim n, .inr (l.back n), ob⟩)
    | @vr _ i eu =>
      have k : Ws C cl T W F Z H D (match ρ1[i]? with
        | some (some ⟨true, d⟩) => .ret true d (ρ1.set i none)
        | some (some ⟨false, d⟩) => .ret false d ρ1
        | _ => .stuck) := k
      split at k
      · rename_i d q
        obtain ⟨a, e1, z, ob⟩ := l1.sim.own i d q
        rw [eu] at e1; cases e1
        obtain ⟨s2, o2⟩ := l1.sim.forget i
        have hi : i < ρ1.length := (List.getElem?_eq_some_iff.mp q).1
        have no : ¬ Own (ρ1.set i none) σ a := fun ⟨j, d', q1, q2⟩ => by
          by_cases h : i = j
          · subst h; rw [List.getElem?_set_self hi] at q1; cases q1
          · rw [List.getElem?_set_ne h] at q1
            exact h (l1.sim.dis i j d d' a q q1 eu q2)
        exact k _ σ H1 Z1 ⟨l1.zt, l1.stp, s2, fun b h => l1.sub b (o2 b h), l1.fix⟩ (show RetR cl F Z1 H1 (ρ1.set i none) σ true _ d from ⟨a, rfl, z, no, l1.sub a ⟨i, d, q, eu⟩, ob⟩)
      · rename_i d q
        obtain ⟨v, e1, r⟩ := l1.sim.imm i d q
        rw [eu] at e1; cases e1
        exact k u σ H1 Z1 l1 (show RetR cl F Z1 H1 ρ1 σ false u d from r)
      · exact k.elim
theorem st_if {A B : List Stmt} {xA xB : Stms} (hc : PT X c ((tMt C Φ cl T W) xc)) (hA : PSs X A ((tSs C Φ cl T W F) xA)) (hB : PSs X B ((tSs C Φ cl T W F) xB)) : PS X (.If c A B pos) ((tS C Φ cl T W F) (.ife xc xA xB)) :=
  (ps_if hc hA hB).mono fun D σ H ⟨Z, ρ, l, k⟩ => Ws.go (f := fun t ρ1 => if t then exSs C Φ xA ρ1 else exSs C Φ xB ρ1) l k fun t ρ1 u H1 Z1 p1 r1 k => by
    cases (show u = t from r1)
    have k := Ws.later (p1.stay l.sim) k
    cases t with
    | true => exact ⟨Z1, ρ1, l.pst p1, k⟩
    | false => exact ⟨Z1, ρ1, l.pst p1, k⟩
theorem whileLoop_succ (t : FB.Env → R Bool) (bd : FB.Env → SR) (n : Nat) (ρ : FB.Env) : whileLoop t bd (n + 1) ρ = (t ρ).thn fun b ρ1 => if b then (match bd ρ1 with
      | .next ρ' => whileLoop t bd n ρ'
      | .cont ρ' => whileLoop t bd n ρ'
      | .brk ρ' => .next ρ'
      | .ret fr v ρ' => .ret fr v ρ'
      | .exc c fs ρ' => .exc c fs ρ'
      | .stuck => .stuck) else .next ρ1 := by
  show (match t ρ with | .ok true ρ1 => _ | .ok false ρ1 => _ | .exc c fs ρ' => _ | .stuck => _) = _
  cases t ρ with
  | ok b ρ1 => cases b <;> rfl
  | _ => rfl
theorem Ws.loop {D : Ends} {N : L2.St → Hp → Prop} {r : SR} {k : FB.Env → SR} (w : Ws C cl T W F Z H D (match r with
      | .next ρ' => k ρ'
      | .cont ρ' => k ρ'
      | .brk ρ' => .next ρ'
      | .ret fr v ρ' => .ret fr v ρ'
      | .exc c fs ρ' => .exc c fs ρ'
      | .stuck => .stuck)) (hN : ∀ ρ' σ' H' Z', Lf cl T F Z' H' ρ' σ' → Stay Z H Z' H' → Ws C cl T W F Z' H' D (k ρ') → N σ' H') :
    Ws C cl T W F Z H { D with nx := N, ct := N, bk := D.nx } r := by
  cases r with
  | next ρ' => exact fun σ' H' Z' l st => hN ρ' σ' H' Z' l st (Ws.later st w)
  | cont ρ' => exact fun σ' H' Z' l st => hN ρ' σ' H' Z' l st (Ws.later st w)
  | brk ρ' => exact w
  | ret fr v ρ' => exact w
  | exc c fs ρ' => exact w
  | stuck => exact w
theorem st_while {B : List Stmt} {xB : Stms} (hp : PassesOwn (model X.prog X.w) X.A X.env X.xe) (hc : PT X c ((tMt C Φ cl T W) xc)) (hB : PSs X B ((tSs C Φ cl T W F) xB)) : PS X (.While c B [] pos) ((tS C Φ cl T W F) (.whl xc xB)) :=
  (ps_while hp hc hB).mono fun D σ H ⟨Z, ρ, l, k⟩ => by
    refine ⟨fun m σ' H' => ∃ Z' ρ', Lf cl T F Z' H' ρ' σ' ∧ Ws C cl T W F Z' H' D (whileLoop (evT C Φ xc) (fun ρ => exSs C Φ xB ρ) m ρ'), ⟨C.fuel, Z, ρ, l, k⟩, ?_⟩
    intro m σ H ⟨Z, ρ, l, k⟩
    cases m with
    | zero => exact k.elim
    | succ n =>
      rw [whileLoop_succ] at k
      refine Ws.go l k fun t ρ1 u H1 Z1 p1 r1 k => ?_
      cases (show u = t from r1)
      have l1 := l.pst p1
      have k := Ws.later (p1.stay l.sim) k
      cases t with
      | false => exact k σ H1 Z1 l1 .refl
      | true =>
        refine ⟨fun σ' H' => ∃ Z' ρ', Lf cl T F Z' H' ρ' σ' ∧ Ws C cl T W F Z' H' D (whileLoop (evT C Φ xc) (fun ρ => exSs C Φ xB ρ) n ρ'), fun σ' H' h => ⟨n, Nat.lt_succ_self n, h⟩, ⟨Z1, ρ1, l1, ?_⟩⟩
        exact Ws.loop k fun ρ' σ' H' Z' l' st w => ⟨Z', ρ', l', w⟩
theorem forLoop_cons (bd : D → FB.Env → SR) (d : D) (ds : List D) (ρ : FB.Env) : forLoop bd (d :: ds) ρ = (match bd d ρ with
      | .next ρ' => forLoop bd ds ρ'
      | .cont ρ' => forLoop bd ds ρ'
      | .brk ρ' => .next ρ'
      | .ret fr v ρ' => .ret fr v ρ'
      | .exc c fs ρ' => .exc c fs ρ'
      | .stuck => .stuck) := rfl
def tgNames : Tg → List Nat
  | .name i => [i]
  | .tup is => is
theorem tg_fix {xt : Tg} {j : Nat} (hw : ∀ vs : List Nat, tgIn vs xt = true → L2.wipe σ' vs = L2.wipe σ vs) (h : j ∉ tgNames xt) : σ'[j]? = σ[j]? := by
  have e : tgIn (tgNames xt) xt = true := by
    cases xt with
    | name i => simp [tgIn, tgNames]
    | tup is => simp [tgIn, tgNames]
  have := hw _ e
  rw [← wipe_out (σ := σ') h, ← wipe_out (σ := σ) h, this]
theorem st_for {iter : Expr} {B : List Stmt} {xB : Stms} {xt : Tg} {xi : FB.It} (hp : PassesOwn (model X.prog X.w) X.A X.env X.xe) (hc : X.calm = true)
    (hfx : ∀ i ∈ F.P, i ∉ tgNames xt)
    (hi : PI X tg iter (tI C Φ cl T W xi)) (hg : PG X tg (gT X.K xt)) (hB : PSs X B ((tSs C Φ cl T W F) xB)) (hs : noSet iter = true) : PS X (.For tg iter B [] pos) ((tS C Φ cl T W F) (.for xt xi xB)) :=
  (ps_for hp hc hi hg hB (folded_of hs)).mono fun D σ H ⟨Z, ρ, l, k⟩ => Ws.go l k fun ds ρ1 J H1 Z1 p1 wk k => by
    have k := Ws.later (p1.stay l.sim) k
    refine ⟨fun i m σ' H' => i ≤ ds.length ∧ m = ds.length - i ∧ ∃ Z' ρ', Lf cl T F Z' H' ρ' σ' ∧ Stay Z1 H1 Z' H' ∧ Ws C cl T W F Z' H' D (forLoop (fun d ρ => optS (setTg ρ xt d) fun ρ => exSs C Φ xB ρ) (ds.drop i) ρ'), ⟨_, Nat.zero_le _, rfl, Z1, ρ1, l.pst p1, .refl, k⟩, ?_⟩
    intro i m σ H ⟨hi, hm, Z, ρ, l, stay, k⟩
    by_cases hlt : i < ds.length
    · right
      refine ⟨wk.go i H Z hlt stay, fun σ' H' => ∃ Z' ρ', Lf cl T F Z' H' ρ' σ' ∧ Stay Z1 H1 Z' H' ∧ Ws C cl T W F Z' H' D (forLoop (fun d ρ => optS (setTg ρ xt d) fun ρ => exSs C Φ xB ρ) (ds.drop (i + 1)) ρ'), fun σ' H' h => ⟨ds.length - (i + 1), by omega, by omega, rfl, h⟩, fun x H' hy => ?_⟩
      have hd : ds[i]? = some ds[i] := List.getElem?_eq_getElem hlt
      rw [List.drop_eq_getElem_cons hlt, forLoop_cons] at k
      obtain ⟨Z2, p2, r2⟩ := (wk.yld i H Z x H' _ hd stay l.sim.zt hy).post l.sim
      cases r2 with
      | imm rx =>
      have st2 := p2.stay l.sim
      have l2 := l.pst p2
      cases es : setTg ρ xt ds[i] with
      | none => rw [es] at k; exact k.elim
      | some ρs =>
        rw [es] at k
        refine gT_run p2.sim rx es fun σ2 s2 o2 hw => ?_
        refine ⟨Z2, ρs, ⟨l2.zt, l2.stp, s2, fun a h => l2.sub a (o2 a h), fun j hj => by rw [tg_fix hw (hfx j hj)]; exact l2.fix j hj⟩, ?_⟩
        exact Ws.loop (Ws.later st2 k) fun ρ' σ' H3 Z3 l3 st3 w => ⟨Z3, ρ', l3, (stay.trans st2).trans st3, w⟩
    · left
      have ei : i = ds.length := by omega
      subst ei
      rw [List.drop_length] at k
      exact ⟨wk.stop H Z stay, k σ H Z l .refl⟩
/-! ### stores -/
theorem st_asgT {elts : List Expr} {kk : Nat} {tpos : Pos} {is : List Nat} (hfx : ∀ i ∈ F.P, i ∉ is) (hg : PG X (.Tuple elts kk tpos) (gT X.K (.tup is))) (ha : PE X a ((tM C Φ cl T W) xa))
    (hs : swapsWithSole [.Tuple elts kk tpos] a pos.line X.env = pure false) (hw : swappedStores [.Tuple elts kk tpos] a X.env = pure none) : PS X (.Assign [.Tuple elts kk tpos] a pos) ((tS C Φ cl T W F) (.asgT is xa)) :=
  (ps_asg ha hg hs hw rfl).mono fun D σ H ⟨Z, ρ, l, k⟩ => Ws.go l k fun v ρ1 u H1 Z1 p1 r1 k => by
    obtain ⟨⟨d, ρ2⟩, e, k⟩ := Ws.opt k
    obtain ⟨ρ3, e3, k⟩ := Ws.opt k
    obtain ⟨Z2, p2, r2⟩ := r1.fz l.sim p1 e
    have l2 := l.pst p2
    exact gT_run p2.sim r2 e3 fun σ2 s2 o2 hw => k σ2 H1 Z2 ⟨l2.zt, l2.stp, s2, fun a h => l2.sub a (o2 a h), fun j hj => by rw [tg_fix hw (hfx j hj)]; exact l2.fix j hj⟩ (p2.stay l.sim)
theorem ownD_some {i : Nat} {d : D} (s : Sim cl T Z ρ σ H) (h : ownD ρ i = some d) : ∃ a, ρ[i]? = some (some ⟨true, d⟩) ∧ σ[i]? = some (some (.ref a)) ∧ Z a ∧ Ob cl H Z a d := by
  have q := ownD_own h
  obtain ⟨a, e, z, ob⟩ := s.own i d q
  exact ⟨a, q, e, z, ob⟩
theorem setIdx_lst {x k d y : D} (h : setIdx x k d = some y) : ∃ xs i j, x = .lst xs ∧ k = .int i ∧ FB.ixN xs.length i = some j ∧ y = .lst (xs.set j d) := by
  cases x with
  | lst xs =>
    cases k with
    | int i =>
      dsimp only [setIdx] at h
      split at h
      · rename_i j hj; cases h; exact ⟨xs, i, j, rfl, rfl, hj, rfl⟩
      · cases h
    | _ => cases h
  | _ => cases k <;> cases h
theorem set_in {o : Nat} {x k d y : D} {v : V} {iv : V} {D' : Ends} {Z2 : AdP} {H2 : Hp} {ρ2 : FB.Env} (l : Lf cl T F Z H ρ σ) (p : Pst cl T σ Z H ρ Z2 H2 ρ2) (ho : ownD ρ2 o = some x) (hy : setIdx x k d = some y) (rk : Rep1 cl H2 Z2 iv k) (rv : Rep cl H2 Z2 v d)
    (kk : Ws C cl T W F Z H D' (.next (ρ2.set o (some ⟨true, y⟩)))) : ∃ a, σ[o]? = some (some (.ref a)) ∧ rSetL (.ref a) iv v H2 fun H3 => D'.nx σ H3 := by
  obtain ⟨a, q, e, z, ob⟩ := ownD_some p.sim ho
  obtain ⟨xs, i, j, rfl, rfl, hj, rfl⟩ := setIdx_lst hy
  refine ⟨a, e, ?_⟩
  cases ob with
  | @lst vs _ hl rl =>
    have hk := rk.int
    subst hk
    refine ⟨a, vs, i, j, rfl, rfl, hl, by rw [rl.len]; exact hj, ?_⟩
    have st : Stay Z2 H2 Z2 (upd H2 a (.lst (vs.set j v))) := stay_upd z
    have pw := Pst.write (o := .lst (vs.set j v)) (d' := .lst (xs.set j d)) p.sim q e nt_lst (.lst upd_same ((rl.set rv j).mono st))
    exact kk σ _ Z2 ((l.pst p).pst pw) ((p.stay l.sim).trans st)
theorem st_setI {o : Nat} {x : Str} {p1' tpos : Pos} (hx : PE X (.Name x p1') (tVar o)) (hsl : noSlice b = true) (ha : PE X a ((tM C Φ cl T W) xa)) (hb : PE X b ((tM C Φ cl T W) xb)) (hs : noComp a = true) (hw : swappedStores [.Subscript (.Name x p1') b tpos] a X.env = pure none) :
    PS X (.Assign [.Subscript (.Name x p1') b tpos] a pos) ((tS C Φ cl T W F) (.setI o xb xa)) :=
  (ps_asg ha (pg_sub hx hb set_list (fun v => by cases b <;> first | rfl | exact nomatch hsl)) (show swapsWith a (some (.Subscript (.Name x p1') b tpos)) pos.line X.env = pure false from swaps_of hs) hw rfl).mono fun D σ H ⟨Z, ρ, l, k⟩ => Ws.go l k fun v ρ1 u H1 Z1 p1 r1 k => by
    obtain ⟨⟨d, ρ2⟩, e, k⟩ := Ws.opt k
    obtain ⟨x0, ex0, k⟩ := Ws.opt k
    obtain ⟨Z2, p2, r2⟩ := r1.fz l.sim p1 e
    obtain ⟨a0, _, e0, _, _⟩ := ownD_some p2.sim ex0
    refine ⟨_, e0, Ws.go2 l p2 k fun vi ρ3 ui H3 Z3 p3 r3 k => ?_⟩
    obtain ⟨kd, ek, k⟩ := Ws.opt k
    obtain ⟨x1, ex1, k⟩ := Ws.opt k
    obtain ⟨y, ey, k⟩ := Ws.opt k
    obtain ⟨a1, e1, q⟩ := set_in l (p2.trans l.sim p3) ex1 ey (r3.readL p2.sim p3 ek) (r2.mono (p3.stay p2.sim)) k
    rw [e0] at e1; cases e1
    exact q
theorem augD_int {op : Operator} {x y z : D} (h : augD op x y = some z) : ∃ i j, x = .int i ∧ y = .int j ∧ ((op = .Add ∧ z = .int (i + j)) ∨ (op = .Sub ∧ z = .int (i - j))) := by
  unfold augD at h
  split at h
  · rename_i i j; injection h with h; exact ⟨i, j, rfl, rfl, .inl ⟨rfl, h.symm⟩⟩
  · rename_i i j; injection h with h; exact ⟨i, j, rfl, rfl, .inr ⟨rfl, h.symm⟩⟩
  · exact nomatch h
def tAugD (op : Operator) : TIp := fun x y H Q => ∃ i j, x = .int i ∧ y = .int j ∧ ((op = .Add ∧ Q (.int (i + j)) H) ∨ (op = .Sub ∧ Q (.int (i - j)) H))
theorem ip_aug {op : Operator} : PIp X op (tAugD op) := fun pins s σ H x y v u Q I rx ry h => by
  obtain ⟨i, j, rfl, rfl, h⟩ := h
  rcases h with ⟨rfl, q⟩ | ⟨rfl, q⟩
  · exact ip_add pins s σ H _ _ v u Q I rx ry ⟨i, j, rfl, rfl, q⟩
  · exact ip_sub pins s σ H _ _ v u Q I rx ry ⟨i, j, rfl, rfl, q⟩
theorem augD_run {op : Operator} {x y z : D} {u v : V} {Q : VK} (h : augD op x y = some z) (rx : ∀ i, x = .int i → u = .int i) (ry : ∀ j, y = .int j → v = .int j) (q : ∀ k, z = .int k → Q (.int k) H) : tAugD op u v H Q := by
  obtain ⟨i, j, ex, ey, h2⟩ := augD_int h
  clear h
  subst ex ey
  refine ⟨i, j, rx i rfl, ry j rfl, ?_⟩
  rcases h2 with ⟨e, rfl⟩ | ⟨e, rfl⟩
  · exact .inl ⟨e, q _ rfl⟩
  · exact .inr ⟨e, q _ rfl⟩
theorem st_aug {i : Nat} {x : Str} {op : Operator} {pos' : Pos} (hi : i ∉ F.P) (hN : X.N.Nodup) (hx : X.N[i]? = some x) (hl : Loc X.env.scope x) (hf : X.fn x = true ∨ X.env.scope.names.lookup x = some .local) (ha : PE X a ((tM C Φ cl T W) xa)) :
    PS X (.AugAssign (.Name x pos') op a pos) ((tS C Φ cl T W F) (.aug i op xa)) :=
  (ps_aug hN hx hl ha (ip_aug (op := op)) hf).mono fun D σ H ⟨Z, ρ, l, k⟩ => by
    obtain ⟨v0, e0, k⟩ := Ws.opt k
    obtain ⟨u0, eu, r0⟩ := varV_vr (H0 := H) l.sim e0
    refine ⟨u0, eu, ?_⟩
    cases r0 with
    | imm r0 =>
      refine Ws.go l k fun w ρ1 u1 H1 Z1 p1 r1 k => ?_
      obtain ⟨y, ey, k⟩ := Ws.opt k
      obtain ⟨z, ez, k⟩ := Ws.opt k
      have hr := r1.readL l.sim p1 ey
      refine augD_run ez (fun ii e1 => ?_) (fun j e => by rw [e] at hr; exact hr.int) fun w ew => k _ H1 Z1 ((l.pst p1).setI (by rw [ew]; exact .int w) hi) (p1.stay l.sim)
      subst e1
      cases r0; rfl
    | _ => exact k.elim
theorem st_augI {o : Nat} {x : Str} {op : Operator} {p1' tpos : Pos} (hx : PE X (.Name x p1') (tVar o)) (hsl : noSlice b = true) (ha : PE X a ((tM C Φ cl T W) xa)) (hb : PE X b ((tM C Φ cl T W) xb)) :
    PS X (.AugAssign (.Subscript (.Name x p1') b tpos) op a pos) ((tS C Φ cl T W F) (.augI o xb op xa)) :=
  (ps_augS hx hb get_sound ha (ip_aug (op := op)) set_list (fun ov iv new => by cases b <;> first | rfl | exact nomatch hsl)).mono fun D σ H ⟨Z, ρ, l, k⟩ => by
    obtain ⟨x0, ex0, k⟩ := Ws.opt k
    obtain ⟨a0, _, e0, _, _⟩ := ownD_some l.sim ex0
    refine ⟨_, e0, Ws.go l k fun vi ρ1 ui H1 Z1 p1 r1 k => ?_⟩
    obtain ⟨kd, ek, k⟩ := Ws.opt k
    obtain ⟨x1, ex1, k⟩ := Ws.opt k
    obtain ⟨old, eo, k6⟩ := Ws.opt k
    obtain ⟨a1, _, e1, _, ob⟩ := ownD_some p1.sim ex1
    rw [e0] at e1; cases e1
    have rk := r1.readL l.sim p1 ek
    cases ob with
    | @lst vs ds hl rl =>
      cases kd with
      | int i =>
        obtain ⟨v, hv, rv⟩ := atI_rep rl (show FB.atI ds i = some old from eo)
        refine ⟨a0, vs, i, v, rfl, rk.int, .inl (.inl hl), hv, ?_⟩
        refine Ws.go2 l p1 k6 fun w ρ2 u2 H2 Z2 p2 r2 k => ?_
        obtain ⟨y, ey, k⟩ := Ws.opt k
        obtain ⟨z, ez, k⟩ := Ws.opt k
        obtain ⟨x2, ex2, k⟩ := Ws.opt k
        obtain ⟨q, eq, k⟩ := Ws.opt k
        have hr := r2.readL p1.sim p2 ey
        refine augD_run ez (fun ii g1 => ?_) (fun j e => by rw [e] at hr; exact hr.int) fun w ew => ?_
        · subst g1
          cases rv; rfl
        · obtain ⟨a2, e2, qq⟩ := set_in l (p1.trans l.sim p2) ex2 eq (iv := ui) (by have e := rk.int; subst e; exact .rep (.int i)) (by rw [ew]; exact .int w) k
          rw [e0] at e2; cases e2
          exact qq
      | _ => cases eo
    | dct0 _ => cases kd <;> cases eo
    | obj _ _ => cases kd <;> cases eo
theorem st_fldS {o : Nat} {f : Str} {x : Str} {p1' p2' : Pos} (c : Cls X.K (cl 0)) (n : NoAttr X.K (cl 0) f) (hx : PE X (.Name x p1') (tVar o)) (hs : noComp a = true) (ha : PE X a ((tM C Φ cl T W) xa)) :
    PS X (.Assign [.Attribute (.Name x p1') f p2'] a pos) ((tS C Φ cl T W F) (.fldS o f xa)) :=
  (ps_fld hx ha (swaps_of hs)).mono fun D σ H ⟨Z, ρ, l, k⟩ => Ws.go l k fun v ρ1 u H1 Z1 p1 r1 k => by
    obtain ⟨⟨d, ρ2⟩, e, k⟩ := Ws.opt k
    obtain ⟨x0, ex0, k⟩ := Ws.opt k
    obtain ⟨y, ey, k⟩ := Ws.opt k
    obtain ⟨Z2, p2, r2⟩ := r1.fz l.sim p1 e
    obtain ⟨a0, q0, e0, z0, ob⟩ := ownD_some p2.sim ex0
    refine ⟨_, e0, ?_⟩
    cases x0 with
    | obj cc fs =>
      dsimp only [setFld] at ey
      split at ey
      · rename_i hc
        obtain ⟨hc1, hc2⟩ := hc
        subst hc1
        injection ey with ey
        subst ey
        cases ob with
        | @obj dx _ vf _ hl rf =>
          have st : Stay Z2 H1 Z2 (upd H1 a0 (.ins (cl 0) dx (L2.putF f u vf))) := stay_upd z0
          have pw := Pst.write (o := .ins (cl 0) dx (L2.putF f u vf)) (d' := .obj 0 (FB.putF f d fs)) p2.sim q0 e0 nt_ins (.obj upd_same ((rf.put r2).mono st))
          exact ⟨a0, cl 0, dx, vf, rfl, hl, c, n, by rw [rf.len]; exact hc2, k σ _ Z2 ((l.pst p2).pst pw) ((p2.stay l.sim).trans st)⟩
      · cases ey
    | _ => cases ey
/-- two at once -/
def ParR (cl : Nat → Addr) (H0 : Hp) (Z : AdP) (H : Hp) (own : Bool) (u : V) (d : D) : Prop := if own = true then ∃ a, u = .ref a ∧ Z a ∧ H0 a = none ∧ Ob cl H Z a d else Rep cl H Z u d
theorem parV_run {own : Bool} {v : Val} {u : V} {d : D} (s : Sim cl T Z ρ σ H) (p : Pst cl T σ Z H ρ Z' H' ρ') (r : VR cl H Z' H' ρ' σ u v) (e : parV own ρ' v = some (d, ρ'')) : ∃ Z'', Pst cl T σ Z H ρ Z'' H' ρ'' ∧ ParR cl H Z'' H' own u d := by
  cases own with
  | true =>
    cases r with
    | @frs a d z n ob =>
      have e : some (d, ρ') = some (_, ρ'') := e
      cases e
      exact ⟨Z', p, a, rfl, z, n, ob⟩
    | _ => cases e
  | false => exact r.fz s p e
theorem ParR.later {own : Bool} {u : V} {d : D} (s : Sim cl T Z ρ σ H) (p : Pst cl T σ Z H ρ Z' H' ρ') (r : ParR cl H Z' H' own u d) (q : Pst cl T σ Z' H' ρ' Z'' H'' ρ'') : ParR cl H Z'' H'' own u d := by
  cases own with
  | true =>
    obtain ⟨a, e, z, n, ob⟩ := r
    have no := p.noOwn s n
    exact ⟨a, e, q.stp.ex a z no, n, ob.mono (q.stay p.sim) fun o e nt => q.stp.keep a o e no nt⟩
  | false => exact Rep.mono (q.stay p.sim) r
theorem par_set {own : Bool} {u : V} {d : D} {i : Nat} (l : Lf cl T F Z H ρ σ) (hi : i ∉ F.P) (r : ParR cl H0 Z H own u d) (h0 : ∀ a, H0 a = none → F.H a = none) (no : ∀ a, u = .ref a → own = true → ¬ Own ρ σ a) : Lf cl T F Z H (ρ.set i (some ⟨own, d⟩)) (σ.set i (some u)) := by
  cases own with
  | true =>
    obtain ⟨a, rfl, z, n, ob⟩ := r
    exact l.setO z (no a rfl rfl) (h0 a n) ob hi
  | false => exact l.setI r hi
theorem st_par {i j : Nat} {oi oj : Bool} {x y : Str} {px py pt : Pos} {kt k2 : Nat} {pt2 : Pos} (hi : i ∉ F.P) (hj : j ∉ F.P) (hc : X.calm = true) (hN : X.N.Nodup) (hx : X.N[i]? = some x) (hy : X.N[j]? = some y) (hij : i ≠ j) (hlx : X.env.scope.names.lookup x = some .local) (hly : X.env.scope.names.lookup y = some .local)
    (h0 : noStar a = true) (h1 : noStar b = true) (ha : PE X a ((tM C Φ cl T W) xa)) (hb : PE X b ((tM C Φ cl T W) xb)) (hw : swappedStores [.Tuple [.Name x px, .Name y py] kt pt] (.Tuple [a, b] k2 pt2) X.env = pure (some [x, y])) :
    PS X (.Assign [.Tuple [.Name x px, .Name y py] kt pt] (.Tuple [a, b] k2 pt2) pos) ((tS C Φ cl T W F) (.par i j oi oj xa xb)) :=
  (ps_par hc hN hx hy hij hlx hly (pa_cons ha (pa_cons hb pa_nil (star_of h1)) (star_of h0)) hw rfl).mono fun D σ H ⟨Z, ρ, l, k⟩ => by
    have k : Ws C cl T W F Z H D ((evE C Φ xa ρ).thn fun v ρ1 => optS (parV oi ρ1 v) fun (d, ρ2) => (evE C Φ xb ρ2).thn fun w ρ3 => optS (parV oj ρ3 w) fun (d', ρ4) =>
      .next ((ρ4.set i (some ⟨oi, d⟩)).set j (some ⟨oj, d'⟩))) := by
      have : exS C Φ (.par i j oi oj xa xb) ρ = _ := if_neg hij
      rw [this] at k
      exact k
    refine Ws.go l k fun v ρ1 u H1 Z1 p1 r1 k => ?_
    obtain ⟨⟨d, ρ2⟩, e, k⟩ := Ws.opt k
    obtain ⟨Z2, p2, r2⟩ := parV_run l.sim p1 r1 e
    refine Ws.go2 l p2 k fun w ρ3 u' H3 Z3 p3 r3 k => ?_
    obtain ⟨⟨d', ρ4⟩, e', k⟩ := Ws.opt k
    obtain ⟨Z4, p4, r4⟩ := parV_run p2.sim p3 r3 e'
    have r2' := r2.later l.sim p2 p4
    have p := p2.trans l.sim p4
    have l4 := l.pst p
    refine ⟨u, u', rfl, k _ H3 Z4 ?_ (p.stay l.sim)⟩
    have l5 := par_set (i := i) l4 hi r2' (fun a h => l.back h) (fun a ea eo => by
      subst eo
      obtain ⟨a', e1, _, n, _⟩ := r2
      rw [ea] at e1; cases e1
      exact p.noOwn l.sim n)
    refine par_set (i := j) l5 hj r4 (fun a h => l.back (p2.back h)) (fun a ea eo h => ?_)
    subst eo
    obtain ⟨a', e1, _, n, _⟩ := r4
    rw [ea] at e1; cases e1
    cases oi with
    | true =>
      obtain ⟨a2, e2, z2, n2, ob2⟩ := r2'
      subst e2
      have o5 := (l4.sim.setO (i := i) z2 (p.noOwn l.sim n2) ob2).2 a h
      rcases o5 with h | h
      · subst h
        obtain ⟨a3, e3, z3, _, ob3⟩ := r2
        cases e3
        obtain ⟨o, e4, _⟩ := ob3.there
        rw [n] at e4; cases e4
      · exact p4.noOwn p2.sim n h
    | false =>
      exact p4.noOwn p2.sim n ((l4.sim.setI (show Rep cl H3 Z4 u d from r2') i).2 a h)
/-- .. with names of which one is a cell: the pair is laid and unpacked -/
theorem st_parC {i j : Nat} {oi oj : Bool} {x y : Str} {px py pt : Pos} {kt k2 : Nat} {pt2 : Pos} (hi : i ∉ F.P) (hj : j ∉ F.P) (hij : i ≠ j) (hg : PG X (.Tuple [.Name x px, .Name y py] kt pt) (gT X.K (.tup [i, j])))
    (h0 : noStar a = true) (h1 : noStar b = true) (ha : PE X a ((tM C Φ cl T W) xa)) (hb : PE X b ((tM C Φ cl T W) xb)) (hw : swappedStores [.Tuple [.Name x px, .Name y py] kt pt] (.Tuple [a, b] k2 pt2) X.env = pure none) :
    PS X (.Assign [.Tuple [.Name x px, .Name y py] kt pt] (.Tuple [a, b] k2 pt2) pos) ((tS C Φ cl T W F) (.par i j oi oj xa xb)) :=
  (ps_asg (pe_tup (x1 := k2) (pos := pt2) (pa_cons ha (pa_cons hb pa_nil (star_of h1)) (star_of h0))) hg rfl hw).mono fun D σ H ⟨Z, ρ, l, k⟩ => by
    have k : Ws C cl T W F Z H D ((evE C Φ xa ρ).thn fun v ρ1 => optS (parV oi ρ1 v) fun (d, ρ2) => (evE C Φ xb ρ2).thn fun w ρ3 => optS (parV oj ρ3 w) fun (d', ρ4) =>
      .next ((ρ4.set i (some ⟨oi, d⟩)).set j (some ⟨oj, d'⟩))) := by
      have : exS C Φ (.par i j oi oj xa xb) ρ = _ := if_neg hij
      rw [this] at k
      exact k
    refine Ws.go l k fun v ρ1 u H1 Z1 p1 r1 k => ?_
    obtain ⟨⟨d, ρ2⟩, e, k⟩ := Ws.opt k
    obtain ⟨Z2, p2, r2⟩ := parV_run l.sim p1 r1 e
    refine Ws.go2 l p2 k fun w ρ3 u' H3 Z3 p3 r3 k => ?_
    obtain ⟨⟨d', ρ4⟩, e', k⟩ := Ws.opt k
    obtain ⟨Z4, p4, r4⟩ := parV_run p2.sim p3 r3 e'
    refine ⟨by rw [sizeLine_eq]; show 2 ≤ 16777216; decide, fun q hq => ⟨q, [u, u'], rfl, .inl (.inl upd_same), rfl, ?_⟩⟩
    obtain ⟨s5, t5, f5, n5⟩ := p4.sim.allocI (o := .tup [u, u']) hq
    have p5 : Pst cl T σ Z4 H3 ρ4 Z4 (upd H3 q (.tup [u, u'])) ρ4 := ⟨f5, s5, fun _ h => h⟩
    have r4 := r4.later p2.sim p4 p5
    have p4 := p4.trans p2.sim p5
    have r2' := r2.later l.sim p2 p4
    have p := p2.trans l.sim p4
    have l4 := l.pst p
    refine ⟨u, [u'], rfl, u', [], rfl, rfl, k _ _ Z4 ?_ (p.stay l.sim)⟩
    have l5 := par_set (i := i) l4 hi r2' (fun a h => l.back h) (fun a ea eo => by
      subst eo
      obtain ⟨a', e1, _, n, _⟩ := r2
      rw [ea] at e1; cases e1
      exact p.noOwn l.sim n)
    refine par_set (i := j) l5 hj r4 (fun a h => l.back (p2.back h)) (fun a ea eo h => ?_)
    subst eo
    obtain ⟨a', e1, _, n, _⟩ := r4
    rw [ea] at e1; cases e1
    cases oi with
    | true =>
      obtain ⟨a2, e2, z2, n2, ob2⟩ := r2'
      subst e2
      have o5 := (l4.sim.setO (i := i) z2 (p.noOwn l.sim n2) ob2).2 a h
      rcases o5 with h | h
      · subst h
        obtain ⟨a3, e3, z3, _, ob3⟩ := r2
        cases e3
        obtain ⟨o, e4, _⟩ := ob3.there
        rw [n] at e4; cases e4
      · exact p4.noOwn p2.sim n h
    | false =>
      exact p4.noOwn p2.sim n ((l4.sim.setI (show Rep cl _ Z4 u d from r2') i).2 a h)
end
end FB

set_option Elab.async false
set_option linter.all false
set_option maxRecDepth 100000
set_option maxHeartbeats 400000
namespace FB
open PySem PySem.Spec PyProof.Rows L2
section
variable {C : Cfg} {Φ : Oracle} {cl : Nat → Addr} {T : TabL} {W : WX} {σ σ' σ'' : L2.St} {H H' H'' H1 H0 : Hp} {Z Z' Z'' Z1 Z0 O O' : AdP} {ρ ρ' ρ'' ρ1 ρ0 : FB.Env} {X : Cx}
/-! ### a def -/
theorem startE_get : ∀ {ms : List Bool} {ds : List D} {ρ0 : FB.Env}, startE ms ds = some ρ0 → ρ0.length = ms.length ∧ ∀ (i : Nat) (b : Bool) (d : D), ρ0[i]? = some (some ⟨b, d⟩) → ms[i]? = some b ∧ ds[i]? = some d
  | [], [], _, h => by cases h; exact ⟨rfl, fun i b d q => by simp at q⟩
  | [], _ :: _, _, h => nomatch h
  | _ :: _, [], _, h => nomatch h
  | b :: ms, d :: ds, ρ0, h => by
    obtain ⟨r, e, rfl⟩ := map_some (show (startE ms ds).map (some ⟨b, d⟩ :: ·) = some ρ0 from h)
    obtain ⟨h1, h2⟩ := startE_get e
    refine ⟨congrArg (· + 1) h1, fun i b' d' q => ?_⟩
    cases i with
    | zero => cases q; exact ⟨rfl, rfl⟩
    | succ i => exact h2 i b' d' q
theorem ArgsR.getI {ms : List Bool} {vs : List V} {ds : List D} (r : ArgsR cl Z H ms vs ds) : ∀ {i : Nat} {d : D}, ms[i]? = some false → ds[i]? = some d → ∃ v, vs[i]? = some v ∧ Rep cl H Z v d := by
  induction r with
  | nil => intro i d h; simp at h
  | plain q _ ih =>
    intro i d h1 h2
    cases i with
    | zero => cases h2; exact ⟨_, rfl, q⟩
    | succ i => exact ih h1 h2
  | raw _ _ _ ih =>
    intro i d h1 h2
    cases i with
    | zero => cases h1
    | succ i => exact ih h1 h2
theorem rawA_plain {ms : List Bool} {v : V} {vs : List V} : rawA (false :: ms) (v :: vs) = rawA ms vs := by cases v <;> rfl
theorem ArgsR.getR {ms : List Bool} {vs : List V} {ds : List D} (r : ArgsR cl Z H ms vs ds) : ∀ {i : Nat} {d : D}, ms[i]? = some true → ds[i]? = some d → ∃ a, vs[i]? = some (.ref a) ∧ Z a ∧ Ob cl H Z a d ∧ a ∈ rawA ms vs := by
  induction r with
  | nil => intro i d h; simp at h
  | plain _ _ ih =>
    intro i d h1 h2
    cases i with
    | zero => cases h1
    | succ i => rw [rawA_plain]; exact ih h1 h2
  | raw z ob _ ih =>
    intro i d h1 h2
    cases i with
    | zero => cases h2; exact ⟨_, rfl, z, ob, List.mem_cons_self⟩
    | succ i =>
      obtain ⟨a, e, z', ob', m⟩ := ih h1 h2
      exact ⟨a, e, z', ob', List.mem_cons_of_mem _ m⟩
theorem ArgsR.memR {ms : List Bool} {vs : List V} {ds : List D} (r : ArgsR cl Z H ms vs ds) : ∀ {a : Addr}, a ∈ rawA ms vs → ∃ i : Nat, ms[i]? = some true ∧ vs[i]? = some (V.ref a) := by
  induction r with
  | nil => intro a h; exact nomatch h
  | plain _ _ ih =>
    intro a h
    rw [rawA_plain] at h
    obtain ⟨i, h1, h2⟩ := ih h
    exact ⟨i + 1, h1, h2⟩
  | raw z ob _ ih =>
    intro a h
    rcases List.mem_cons.mp h with e | h
    · subst e; exact ⟨0, rfl, rfl⟩
    · obtain ⟨i, h1, h2⟩ := ih h
      exact ⟨i + 1, h1, h2⟩
theorem rawA_in : ∀ {ms : List Bool} {vs : List V} {i : Nat} {a : Addr}, ms[i]? = some true → vs[i]? = some (.ref a) → a ∈ rawA ms vs
  | [], _, _, _, h, _ => by simp at h
  | _ :: _, [], _, _, _, h => by simp at h
  | true :: ms, v :: vs, 0, a, _, h => by cases h; exact List.mem_cons_self
  | false :: ms, v :: vs, 0, a, h, _ => by cases h
  | b :: ms, v :: vs, i + 1, a, h1, h2 => by
    have ih := rawA_in (ms := ms) (vs := vs) (i := i) (a := a) h1 h2
    cases b with
    | false => rw [rawA_plain]; exact ih
    | true => cases v <;> first | exact List.mem_cons_of_mem _ ih | exact ih
theorem raw_dis : ∀ {ms : List Bool} {vs : List V} {i j : Nat} {a : Addr}, (rawA ms vs).Nodup → ms[i]? = some true → ms[j]? = some true → vs[i]? = some (.ref a) → vs[j]? = some (.ref a) → i = j
  | [], _, _, _, _, _, h, _, _, _ => by simp at h
  | _ :: _, [], _, _, _, _, _, _, h, _ => by simp at h
  | false :: ms, v :: vs, i, j, a, nd, h1, h2, h3, h4 => by
    rw [rawA_plain] at nd
    cases i with
    | zero => cases h1
    | succ i =>
      cases j with
      | zero => cases h2
      | succ j => exact congrArg (· + 1) (raw_dis nd h1 h2 h3 h4)
  | true :: ms, v :: vs, i, j, a, nd, h1, h2, h3, h4 => by
    cases i with
    | zero =>
      cases h3
      have nd' := List.nodup_cons.mp (show (a :: rawA ms vs).Nodup from nd)
      cases j with
      | zero => rfl
      | succ j => exact absurd (rawA_in (ms := ms) (vs := vs) h2 h4) nd'.1
    | succ i =>
      cases j with
      | zero =>
        cases h4
        have nd' := List.nodup_cons.mp (show (a :: rawA ms vs).Nodup from nd)
        exact absurd (rawA_in (ms := ms) (vs := vs) h1 h3) nd'.1
      | succ j =>
        have nd' : (rawA ms vs).Nodup := by
          cases v <;> first | exact (List.nodup_cons.mp nd).2 | exact nd
        exact congrArg (· + 1) (raw_dis nd' h1 h2 h3 h4)
theorem start_sim {ms : List Bool} {vs : List V} {ds : List D} {m : Nat} (zt : ZT Z H) (tb : LamX.Tabs T H) (r : ArgsR cl Z H ms vs ds) (nd : (rawA ms vs).Nodup) (e : startE ms ds = some ρ0) :
    Sim cl T Z (ρ0 ++ List.replicate m none) (vs.map some ++ List.replicate m none) H ∧ ∀ a, Own (ρ0 ++ List.replicate m none) (vs.map some ++ List.replicate m none) a → a ∈ rawA ms vs := by
  obtain ⟨hl, hg⟩ := startE_get e
  have lv := r.len
  have get : ∀ (i : Nat) (s : FB.Slot), (ρ0 ++ List.replicate m none)[i]? = some (some s) → i < ρ0.length ∧ ρ0[i]? = some (some s) := fun i s q => by
    by_cases h : i < ρ0.length
    · rw [List.getElem?_append_left h] at q; exact ⟨h, q⟩
    · rw [List.getElem?_append_right (by omega), List.getElem?_replicate] at q
      split at q <;> cases q
  have gs : ∀ (i : Nat) (v : V), vs[i]? = some v → (vs.map some ++ List.replicate m none)[i]? = some (some v) := fun i v q => by
    have hi : i < vs.length := (List.getElem?_eq_some_iff.mp q).1
    rw [List.getElem?_append_left (by simpa using hi), List.getElem?_map, q]; rfl
  have gr : ∀ (i : Nat) (a : Addr), i < vs.length → (vs.map some ++ List.replicate m none)[i]? = some (some (.ref a)) → vs[i]? = some (.ref a) := fun i a hi q => by
    rw [List.getElem?_append_left (by simpa using hi), List.getElem?_map] at q
    obtain ⟨v, h1, h2⟩ := Option.map_eq_some_iff.mp q
    rw [h1]
    exact h2
  refine ⟨⟨by simp [hl, lv], fun i d q => ?_, fun i d q => ?_, fun i j d d' a q1 q2 q3 q4 => ?_, zt, tb⟩, fun a ⟨i, d, q1, q2⟩ => ?_⟩
  · obtain ⟨_, q⟩ := get i _ q
    obtain ⟨h1, h2⟩ := hg i _ _ q
    obtain ⟨v, h3, h4⟩ := r.getI h1 h2
    exact ⟨v, gs i v h3, h4⟩
  · obtain ⟨_, q⟩ := get i _ q
    obtain ⟨h1, h2⟩ := hg i _ _ q
    obtain ⟨a, h3, z, ob, _⟩ := r.getR h1 h2
    exact ⟨a, gs i _ h3, z, ob⟩
  · obtain ⟨l1, q1⟩ := get i _ q1
    obtain ⟨l2, q2⟩ := get j _ q2
    exact raw_dis nd (hg i _ _ q1).1 (hg j _ _ q2).1 (gr i a (by omega) q3) (gr j a (by omega) q4)
  · obtain ⟨l1, q1⟩ := get i _ q1
    exact rawA_in (hg i _ _ q1).1 (gr i a (by omega) q2)
theorem outs_spec : ∀ {bs : List Bool} {ρ : FB.Env} {σ : L2.St} {vs : List V} {os : List D}, outsE bs ρ = some os → vs.length = bs.length → (∀ (i : Nat) (a : Addr), bs[i]? = some true → vs[i]? = some (.ref a) → σ[i]? = some (some (.ref a))) →
    (∀ (i : Nat) (d : D), ρ[i]? = some (some ⟨true, d⟩) → ∃ a, σ[i]? = some (some (.ref a)) ∧ Z a ∧ Ob cl H Z a d) → (∀ (i : Nat), bs[i]? = some true → ∃ a, vs[i]? = some (.ref a)) → OutsR cl Z H (rawA bs vs) os
  | [], _, _, _, _, h, _, _, _, _ => by cases h; exact .nil
  | _ :: _, _, _, [], _, _, h, _, _, _ => by simp at h
  | false :: bs, [], _, v :: vs, _, h, _, _, _, _ => nomatch h
  | false :: bs, s :: ρ, σ, v :: vs, os, h, hl, h1, h2, h3 => by
    rw [rawA_plain]
    exact outs_spec (σ := σ.tail) (show outsE bs ρ = some os from h) (by simpa using hl) (fun i a q1 q2 => by rw [List.getElem?_tail]; exact h1 (i + 1) a q1 q2) (fun i d q => by rw [List.getElem?_tail]; exact h2 (i + 1) d q) (fun i q => h3 (i + 1) q)
  | true :: bs, [], _, v :: vs, _, h, _, _, _, _ => nomatch h
  | true :: bs, none :: ρ, _, v :: vs, _, h, _, _, _, _ => nomatch h
  | true :: bs, some ⟨false, d⟩ :: ρ, _, v :: vs, _, h, _, _, _, _ => nomatch h
  | true :: bs, some ⟨true, d⟩ :: ρ, σ, v :: vs, os, h, hl, h1, h2, h3 => by
    obtain ⟨r, e, rfl⟩ := map_some (show (outsE bs ρ).map (d :: ·) = some os from h)
    obtain ⟨a, ea⟩ := h3 0 rfl
    cases ea
    obtain ⟨a', e1, z, ob⟩ := h2 0 d rfl
    rw [h1 0 a rfl rfl] at e1
    cases e1
    exact .cons z ob (outs_spec (σ := σ.tail) e (by simpa using hl) (fun i a q1 q2 => by rw [List.getElem?_tail]; exact h1 (i + 1) a q1 q2) (fun i d q => by rw [List.getElem?_tail]; exact h2 (i + 1) d q) (fun i q => h3 (i + 1) q))
theorem outs_own : ∀ {bs : List Bool} {ρ : FB.Env} {os : List D} {i : Nat}, outsE bs ρ = some os → bs[i]? = some true → ∃ d, ρ[i]? = some (some ⟨true, d⟩)
  | [], _, _, _, _, h => by simp at h
  | false :: bs, [], _, _, h, _ => nomatch h
  | false :: bs, s :: ρ, os, 0, _, h => by cases h
  | false :: bs, s :: ρ, os, i + 1, h, q => outs_own (ρ := ρ) (show outsE bs ρ = some os from h) q
  | true :: bs, [], _, _, h, _ => nomatch h
  | true :: bs, none :: ρ, _, _, h, _ => nomatch h
  | true :: bs, some ⟨false, d⟩ :: ρ, _, _, h, _ => nomatch h
  | true :: bs, some ⟨true, d⟩ :: ρ, os, 0, _, _ => ⟨d, rfl⟩
  | true :: bs, some ⟨true, d⟩ :: ρ, os, i + 1, h, q => by
    obtain ⟨r, e, _⟩ := map_some (show (outsE bs ρ).map (d :: ·) = some os from h)
    exact outs_own (bs := bs) (ρ := ρ) (os := r) e q
theorem ArgsR.isref {ms : List Bool} {vs : List V} {ds : List D} (r : ArgsR cl Z H ms vs ds) : ∀ {i : Nat}, ms[i]? = some true → ∃ a, vs[i]? = some (V.ref a) := by
  induction r with
  | nil => intro i h; simp at h
  | plain _ _ ih => intro i h; cases i with
    | zero => cases h
    | succ i => exact ih h
  | @raw ms a _ _ _ _ _ _ ih => intro i h; cases i with
    | zero => exact ⟨a, rfl⟩
    | succ i => exact ih h
def spK (C : Cfg) (cl : Nat → Addr) (T : TabL) (as : List Addr) (Z : AdP) (H : Hp) (Q : VK) (E : XK) : FR → Prop
  | .ok fr d outs => ∀ u H' Z', Bk cl T as Z H Z' H' outs → AnsR cl H Z' H' fr u d → Q u H'
  | .exc c xs outs => ∀ cls dd H' Z', Bk cl T as Z H Z' H' outs → ExR C cl Z' H' c xs cls dd → E cls dd H'
  | .stuck => False
def finF (raw : List Bool) : SR → FR
  | .next ρ => optF (outsE raw ρ) fun os => .ok false .non os
  | .ret fr d ρ => optF (outsE raw ρ) fun os => .ok fr d os
  | .exc c fs ρ => optF (outsE raw ρ) fun os => .exc c fs os
  | _ => .stuck
theorem runFn_eq {Fd : FDef} {ds : List D} {ρ0 : FB.Env} (e : startE Fd.raw ds = some ρ0) : runFn C Φ Fd ds = finF Fd.raw (exSs C Φ Fd.body (ρ0 ++ List.replicate (Fd.slots - ρ0.length) none)) := by
  unfold runFn
  rw [e]
  show (match exSs C Φ Fd.body (ρ0 ++ List.replicate (Fd.slots - ρ0.length) none) with | .next ρ => _ | .ret fr d ρ => _ | .exc c fs ρ => _ | _ => _) = _
  cases exSs C Φ Fd.body (ρ0 ++ List.replicate (Fd.slots - ρ0.length) none) <;> rfl
def rawP (ms : List Bool) : List Nat := (List.range ms.length).filter fun i => ms.getD i false
theorem rawP_mem {ms : List Bool} {i : Nat} (h : ms[i]? = some true) : i ∈ rawP ms := by
  refine List.mem_filter.mpr ⟨List.mem_range.mpr (List.getElem?_eq_some_iff.mp h).1, ?_⟩
  rw [List.getD_eq_getElem?_getD, h]; rfl
/-- the body's run gives what the def promises -/
theorem body_run {E : XK} {Fd : FDef} {vs : List V} {N : List Str} {Q : VK} (hsl : Fd.slots = N.length) (h : spOf C cl T Fd.raw (runFn C Φ Fd) vs H Q E) :
    ∃ Fx : Fx, Fx.P = rawP Fd.raw ∧ tSs C Φ cl T (fun cls d _ H => E cls d H) Fx Fd.body { nx := fun _ H' => Q .non H', rt := Q } (L2.start N vs) H := by
  obtain ⟨Z, ds, zt, tb, ra, nd, k⟩ := h
  refine ⟨⟨rawA Fd.raw vs, Z, H, L2.start N vs, rawP Fd.raw⟩, rfl, ?_⟩
  have k : spK C cl T (rawA Fd.raw vs) Z H Q E (runFn C Φ Fd ds) := k
  cases e : startE Fd.raw ds with
  | none =>
    have : runFn C Φ Fd ds = .stuck := by unfold runFn; rw [e]; rfl
    rw [this] at k; exact k.elim
  | some ρ0 =>
    rw [runFn_eq e] at k
    have lv := ra.len
    have hl := (startE_get e).1
    obtain ⟨s, o⟩ := start_sim (m := Fd.slots - ρ0.length) zt tb ra nd e
    have es : vs.map some ++ List.replicate (Fd.slots - ρ0.length) none = L2.start N vs := by
      unfold L2.start
      rw [hsl, hl, lv]
    rw [es] at s o
    have fixA : ∀ {σ' : L2.St}, (∀ i ∈ rawP Fd.raw, σ'[i]? = (L2.start N vs)[i]?) → ∀ (i : Nat) (a : Addr), Fd.raw[i]? = some true → vs[i]? = some (.ref a) → σ'[i]? = some (some (.ref a)) := fun hf i a h1 h2 => by
      rw [hf i (rawP_mem h1)]
      unfold L2.start
      have hi : i < vs.length := (List.getElem?_eq_some_iff.mp h2).1
      rw [List.getElem?_append_left (by simpa using hi), List.getElem?_map, h2]; rfl
    have isref : ∀ (i : Nat), Fd.raw[i]? = some true → ∃ a, vs[i]? = some (V.ref a) := fun i h => ra.isref h
    have bk : ∀ {Z' : AdP} {H' : Hp} {ρ' : FB.Env} {σ' : L2.St} {os : List D}, Lf cl T ⟨rawA Fd.raw vs, Z, H, L2.start N vs, rawP Fd.raw⟩ Z' H' ρ' σ' → outsE Fd.raw ρ' = some os → Bk cl T (rawA Fd.raw vs) Z H Z' H' os := fun l eo =>
      ⟨l.stp, l.sim.zt, l.sim.tab, outs_spec eo lv (fixA l.fix) l.sim.own isref⟩
    refine ⟨Z, _, ⟨zt, Stp.refl, s, fun a h => .inl (o a h), fun _ _ => rfl⟩, ?_⟩
    generalize exSs C Φ Fd.body (ρ0 ++ List.replicate (Fd.slots - ρ0.length) none) = r at k
    cases r with
    | next ρ' =>
      intro σ' H' Z' l _
      cases eo : outsE Fd.raw ρ' with
      | none => rw [finF, eo] at k; exact k.elim
      | some os =>
        rw [finF, eo] at k
        exact k .non H' Z' (bk l eo) (show AnsR cl H Z' H' false .non .non from .non)
    | ret fr d ρ' =>
      intro u σ' H' Z' l rr
      cases eo : outsE Fd.raw ρ' with
      | none => rw [finF, eo] at k; exact k.elim
      | some os =>
        rw [finF, eo] at k
        refine k u H' Z' (bk l eo) ?_
        cases fr with
        | false => exact rr
        | true =>
          obtain ⟨a, ea, z, no, hA, ob⟩ := rr
          refine ⟨a, ea, z, hA.resolve_left fun m => ?_, ob⟩
          obtain ⟨i, h1, h2⟩ := ra.memR m
          obtain ⟨d', hd⟩ := outs_own eo h1
          exact no ⟨i, d', hd, fixA l.fix i a h1 h2⟩
    | exc c fs ρ' =>
      intro cls dd σ' H' Z' l ex
      cases eo : outsE Fd.raw ρ' with
      | none => rw [finF, eo] at k; exact k.elim
      | some os =>
        rw [finF, eo] at k
        exact k cls dd H' Z' (bk l eo) ex
    | brk _ => exact k.elim
    | cont _ => exact k.elim
    | stuck => exact k.elim
theorem sp_len {Fd : List D → FR} {ms : List Bool} {vs : List V} {Q : VK} {E : XK} (h : spOf C cl T ms Fd vs H Q E) : vs.length = ms.length := by
  obtain ⟨Z, ds, _, _, ra, _⟩ := h
  exact ra.len
end
end FB

set_option Elab.async false
set_option linter.all false
set_option maxRecDepth 100000
set_option maxHeartbeats 400000
namespace FB
open PySem PySem.Spec PyProof.Rows L2
/-! ### the checker: a small tree beside the program's own -/
structure Lay where
  fns : List (Nat × Str)
  mts : List (Nat × Str)
  mks : List (Nat × Str)
  cons : List (Str × Int)
  flds : List Str
  clsT : List (Nat × Str)
structure Inf where
  N : List Str
  nm : List (Str × NameKind)
  P : List Nat
def dunder (x : Str) : Bool := (x == ("__debug__" : Str)) || (x == ("__classdict__" : Str))
def visN (I : Inf) (i : Nat) (x : Str) : Bool := decide (I.N[i]? = some x) && !dunder x && (match I.nm.lookup x with
  | some .local => true | some .cell => true | some .free => true | _ => false)
def locN (I : Inf) (i : Nat) (x : Str) : Bool := decide (I.N[i]? = some x) && (match I.nm.lookup x with
  | some .local => true | some .cell => true | _ => false)
def lclN (I : Inf) (i : Nat) (x : Str) : Bool := decide (I.N[i]? = some x) && decide (I.nm.lookup x = some .local)
def cellN (I : Inf) (i : Nat) (x : Str) : Bool := decide (I.N[i]? = some x) && decide (I.nm.lookup x = some .cell)
def glN (I : Inf) (x : Str) : Bool := decide (I.nm.lookup x = some .globalImplicit) && !dunder x
def litOk : D → Const → Bool
  | .non, .none => true
  | .bl b, .bool c => b == c
  | .int i, .int j => i == j
  | .str x, .str y => decide (x = y)
  | _, _ => false
def ownOf (N : List Str) (sc : Scope) : List (Str × Nat) := sc.names.filterMap fun p => match p.2 with
  | .local => (N.idxOf? p.1).map fun i => (p.1, i)
  | .cell => (N.idxOf? p.1).map fun i => (p.1, i)
  | _ => none
def Inf.scope (I : Inf) : Scope := { kind := .function, names := I.nm, isGenerator := false, isCoroutine := false }
def namesOf (I : Inf) : List Nat → List Expr → Bool
  | [], [] => true
  | i :: is, e :: es => (match e with
    | .Name x _ => locN I i x
    | _ => false) && namesOf I is es
  | _, _ => false
def trTg (I : Inf) : Tg → Expr → Bool
  | .name i, e => (match e with
    | .Name x _ => locN I i x
    | _ => false)
  | .tup is, e => (match e with
    | .Tuple es _ _ => namesOf I is es
    | _ => false)
def isiC (L : Lay) (t : Ty) (y : Str) : Bool := match t with
  | .cls c => L.clsT.contains (c, y)
  | _ => decide (y = tyName t)
def isTup : Expr → Bool
  | .Tuple _ _ _ => true
  | _ => false
mutual
def trE (L : Lay) (I : Inf) : Ex → Expr → Bool
  | .var i, e => (match e with
    | .Name x _ => visN I i x
    | _ => false)
  | .lit d, e => (match e with
    | .Constant c _ _ => litOk d c
    | _ => false)
  | .glb x i, e => (match e with
    | .Name y _ => decide (x = y) && L.cons.contains (x, i) && glN I x
    | _ => false)
  | .bin op a b, e => (match e with
    | .BinOp a' op' b' _ => decide (op = op') && trE L I a a' && trE L I b b'
    | _ => false)
  | .neg a, e => (match e with
    | .UnaryOp .USub a' _ => trE L I a a'
    | _ => false)
  | .cmp op a b, e => (match e with
    | .Compare a' ops bs _ => (match bs with
      | [b'] => decide (ops = [op]) && trE L I a a' && trE L I b b' && !behindInMarks op b'
      | _ => false)
    | _ => false)
  | .chain op op' a b c, e => (match e with
    | .Compare a' ops bs _ => (match bs with
      | [b', c'] => decide (ops = [op, op']) && trE L I a a' && trE L I b b' && trE L I c c' && !lastMarks [op, op'] [b', c']
      | _ => false)
    | _ => false)
  | .not a, e => (match e with
    | .UnaryOp .Not a' _ => trE L I a a'
    | _ => false)
  | .and a b, e => (match e with
    | .BoolOp .And vs p => (match vs with
      | a' :: b' :: r => trE L I a a' && (match r with
        | [] => trE L I b b'
        | _ :: _ => trE L I b (.BoolOp .And (b' :: r) p))
      | _ => false)
    | _ => false)
  | .or a b, e => (match e with
    | .BoolOp .Or vs p => (match vs with
      | a' :: b' :: r => trE L I a a' && (match r with
        | [] => trE L I b b'
        | _ :: _ => trE L I b (.BoolOp .Or (b' :: r) p))
      | _ => false)
    | _ => false)
  | .ife t a b, e => (match e with
    | .IfExp t' a' b' _ => trE L I t t' && trE L I a a' && trE L I b b'
    | _ => false)
  | .lstD es, e => (match e with
    | .List es' _ => trEs L I es es' && decide (es.len ≤ 1000)
    | _ => false)
  | .tupD es, e => (match e with
    | .Tuple es' _ _ => trEs L I es es' && decide (es.len ≤ 1000)
    | _ => false)
  | .idx a b, e => (match e with
    | .Subscript a' b' _ => trE L I a a' && trE L I b b' && noSlice b'
    | _ => false)
  | .slc a lo hi, e => (match e with
    | .Subscript a' s _ => (match s with
      | .Slice lo' hi' st _ => st.isNone && trE L I a a' && trO L I lo lo' && trO L I hi hi'
      | _ => false)
    | _ => false)
  | .rev a, e => (match e with
    | .Subscript a' (.Slice none none (some (.UnaryOp .USub (.Constant (.int 1) _ _) _)) _) _ => trE L I a a'
    | _ => false)
  | .fld a f, e => (match e with
    | .Attribute a' g _ => decide (f = g) && L.flds.contains f && trE L I a a' && noCall0 a'
    | _ => false)
  | .blt b es, e => (match e with
    | .Call (.Name x _) as ks _ => ks.isEmpty && decide (x = bltName b) && glN I x && trEs L I es as && !as.isEmpty
    | _ => false)
  | .isi a t, e => (match e with
    | .Call (.Name x _) as ks _ => (match as with
      | [a', .Name y _] => ks.isEmpty && decide (x = "isinstance") && glN I x && glN I y && trE L I a a' && noStar a' && isiC L t y
      | _ => false)
    | _ => false)
  | .listR it, e => (match e with
    | .Call (.Name x _) as ks _ => (match it with
      | .rng1 a => (match as with
        | [.Call (.Name y _) as' ks' _] => (match as' with
          | [a'] => ks.isEmpty && ks'.isEmpty && decide (x = "list") && decide (y = "range") && glN I x && glN I y && trE L I a a' && noStar a'
          | _ => false)
        | _ => false)
      | _ => false)
    | _ => false)
  | .call f snap es, e => (match e with
    | .Call (.Name x _) as ks _ => ks.isEmpty && L.fns.contains (f, x) && glN I x && trEs L I es as && !as.isEmpty
    | _ => false)
  | .meth f m o es, e => (match e with
    | .Call (.Attribute o' n ap) as ks p => ks.isEmpty && decide (m = n) && L.mts.contains (f, m) && trE L I o o' && noCall0 o' && (ap.endLine == p.line) && decide (as.length < 29) && trEs L I es as
    | _ => false)
  | .make c es, e => (match e with
    | .Call (.Name x _) as ks _ => ks.isEmpty && L.mks.contains (c, x) && glN I x && trEs L I es as && !as.isEmpty
    | _ => false)
  | .mth m o es, e => (match e with
    | .Call (.Attribute o' n ap) as ks p => ks.isEmpty && decide (n = mthName m) && m.ofList && trE L I o o' && noCall0 o' && (ap.endLine == p.line) && decide (as.length < 29) && trEs L I es as && (!m.look || !as.isEmpty)
    | _ => false)
  | .comp elt vs tg it ifs, e => (match e with
    | .ListComp elt' gs sc _ => (match gs with
      | [⟨tg', it', ifs', asy⟩] => decide (asy = 0) && trI L I it tg' it' && blkC I.N I.scope sc (ownOf I.N sc) && decide ((ownOf I.N sc).map (·.2) = vs) && tgIn vs tg && trTg ⟨I.N, sc.names, I.P⟩ tg tg' &&
          trE L ⟨I.N, sc.names, I.P⟩ elt elt' && trTs L ⟨I.N, sc.names, I.P⟩ ifs ifs' && noSet it'
      | _ => false)
    | _ => false)
  | _, _ => false
def trEs (L : Lay) (I : Inf) : Exs → List Expr → Bool
  | .nil, es => es.isEmpty
  | .cons x xs, es => (match es with
    | e :: es' => trE L I x e && noStar e && trEs L I xs es'
    | [] => false)
def trTs (L : Lay) (I : Inf) : Exs → List Expr → Bool
  | .nil, es => es.isEmpty
  | .cons x xs, es => (match es with
    | [e] => trE L I x e && (match xs with
      | .nil => true
      | .cons _ _ => false)
    | _ => false)
def trO (L : Lay) (I : Inf) : Opt → Option Expr → Bool
  | .none, e => e.isNone
  | .some x, e => (match e with
    | some e' => trE L I x e'
    | none => false)
def trI (L : Lay) (I : Inf) : FB.It → Expr → Expr → Bool
  | .val x, _, e => trE L I x e
  | .rng1 a, _, e => (match e with
    | .Call (.Name x _) as ks _ => (match as with
      | [a'] => ks.isEmpty && decide (x = "range") && glN I x && trE L I a a' && noStar a'
      | _ => false)
    | _ => false)
  | .rng2 a b, _, e => (match e with
    | .Call (.Name x _) as ks _ => (match as with
      | [a', b'] => ks.isEmpty && decide (x = "range") && glN I x && trE L I a a' && trE L I b b' && noStar a' && noStar b'
      | _ => false)
    | _ => false)
  | .rng3 a b c, _, e => (match e with
    | .Call (.Name x _) as ks _ => (match as with
      | [a', b', c'] => ks.isEmpty && decide (x = "range") && glN I x && trE L I a a' && trE L I b b' && trE L I c c' && noStar a' && noStar b' && noStar c'
      | _ => false)
    | _ => false)
  | .enum a, tg, e => isTup tg && (match e with
    | .Call (.Name x _) as ks _ => (match as with
      | [a'] => ks.isEmpty && decide (x = "enumerate") && glN I x && trE L I a a' && noStar a'
      | _ => false)
    | _ => false)
  | .zip a b, tg, e => isTup tg && (match e with
    | .Call (.Name x _) as ks _ => (match as with
      | [a', b'] => ks.isEmpty && decide (x = "zip") && glN I x && trE L I a a' && trE L I b b' && noStar a' && noStar b'
      | _ => false)
    | _ => false)
end
/-! statements -/
def swapC (I : Inf) (y : Str) (e : Expr) (py : Pos) : Bool := match e with
  | .ListComp _ _ sc pos => (py.line == pos.line) && !(sc.names.any fun (n, k) => n == y && (k == .local || k == .cell))
  | _ => false
def isLc : Expr → Bool
  | .ListComp _ _ _ _ => true
  | _ => false
def isLcE : Ex → Bool
  | .comp _ _ _ _ _ => true
  | _ => false
def parOk (I : Inf) (i j : Nat) (x y : Str) (px py : Pos) (vs : List Expr) : Bool := lclN I i x && lclN I j y && decide (i ≠ j) && decide (x ≠ y) && decide (py.line = px.line) && !vs.all (foldedForSure 8) && !vs.all (constantsAlone 8)
def parC (I : Inf) (i j : Nat) (x y : Str) : Bool := decide (i ≠ j) && (cellN I i x || cellN I j y)
mutual
def trS (L : Lay) (I : Inf) : Stm → Stmt → Bool
  | .expr a, s => (match s with
    | .Expr e _ => trE L I a e && noComp e
    | _ => false)
  | .asg _ i a, s => !I.P.contains i && (match s with
    | .Assign [.Name x px] e p => trE L I a e && (if isLc e then (lclN I i x && swapC I x e px) || cellN I i x else locN I i x && noComp e)
    | _ => false)
  | .asgT is a, s => (is.all fun i => !I.P.contains i) && (match s with
    | .Assign [.Tuple es _ _] e p => namesOf I is es && trE L I a e && noComp e && !isTup e
    | _ => false)
  | .par i j _ _ a b, s => !I.P.contains i && !I.P.contains j && (match s with
    | .Assign [.Tuple [.Name x px, .Name y py] _ _] (.Tuple vs _ _) _ => (match vs with
      | [a', b'] => (parOk I i j x y px py [a', b'] || (parC I i j x y && locN I i x && locN I j y)) && trE L I a a' && trE L I b b' && noStar a' && noStar b'
      | _ => false)
    | _ => false)
  | .setI o i a, s => (match s with
    | .Assign [.Subscript (.Name x _) i' _] e _ => visN I o x && trE L I i i' && noSlice i' && trE L I a e && noComp e
    | _ => false)
  | .aug i op a, s => !I.P.contains i && (match s with
    | .AugAssign (.Name x _) op' e _ => locN I i x && decide (op = op') && trE L I a e
    | _ => false)
  | .augI o i op a, s => (match s with
    | .AugAssign (.Subscript (.Name x _) i' _) op' e _ => visN I o x && trE L I i i' && noSlice i' && decide (op = op') && trE L I a e
    | _ => false)
  | .fldS o f a, s => (match s with
    | .Assign [.Attribute (.Name x _) g _] e _ => visN I o x && decide (f = g) && L.flds.contains f && trE L I a e && noComp e
    | _ => false)
  | .ret a, s => (match s with
    | .Return (some e) _ => trE L I a e
    | _ => false)
  | .retN, s => (match s with
    | .Return none _ => true
    | _ => false)
  | .ife c a b, s => (match s with
    | .If c' a' b' _ => trE L I c c' && trSs L I a a' && trSs L I b b'
    | _ => false)
  | .for tg it b, s => (tgNames tg).all (fun i => !I.P.contains i) && (match s with
    | .For tg' it' b' e _ => e.isEmpty && trTg I tg tg' && trI L I it tg' it' && noSet it' && trSs L I b b'
    | _ => false)
  | .whl c b, s => (match s with
    | .While c' b' e _ => e.isEmpty && trE L I c c' && trSs L I b b'
    | _ => false)
  | .brk, s => (match s with
    | .Break _ => true
    | _ => false)
  | .cont, s => (match s with
    | .Continue _ => true
    | _ => false)
  | .pass, s => (match s with
    | .Pass _ => true
    | _ => false)
  | .raise _ _, s => (match s with
    | .Raise _ _ _ => true
    | _ => false)
def trSs (L : Lay) (I : Inf) : Stms → List Stmt → Bool
  | .nil, ss => ss.isEmpty
  | .cons x xs, ss => (match ss with
    | s :: ss' => trS L I x s && trSs L I xs ss'
    | [] => false)
end
end FB

set_option Elab.async false
set_option linter.all false
set_option maxRecDepth 100000
set_option maxHeartbeats 400000
namespace FB
open PySem PySem.Spec PyProof.Rows L2
def bltNames : List Str := ["len", "max", "min", "sum", "sorted", "tuple", "list", "int", "abs", "all", "set", "repr", "isinstance", "range", "enumerate", "zip", "bool", "str"]
/-- what the module gives -/
structure GM (L : Lay) (C : Cfg) (Φ : Oracle) (cl : Nat → Addr) (T : TabL) (k : Nat) (prog : Program) (w : World) (K : PySem.W.Frag) (mg : Str → Option Value) (base : Heap) : Prop where
  blt : ∀ x ∈ bltNames, mg x = none
  con : ∀ p ∈ L.cons, ∃ u, mg p.1 = some u ∧ RelV (.int p.2) u
  fns : ∀ p ∈ L.fns, ∃ a fd ps ms, mg p.2 = some (.ref a) ∧ FnAt C Φ cl T prog w K mg base k p.1 a fd ps ms
  mts : ∀ p ∈ L.mts, ∃ a fd ps ms, Meth K (cl 0) p.2 a ∧ FnAt C Φ cl T prog w K mg base k p.1 a fd ps ms
  mks : ∀ p ∈ L.mks, mg p.2 = some (.ref (cl p.1)) ∧ ∃ f a fd ps ms, C.init p.1 = some f ∧ Mk K (cl p.1) a ∧ FnAt C Φ cl T prog w K mg base k f a fd ps ms
  cls : Cls K (cl 0)
  flds : ∀ f ∈ L.flds, NoAttr K (cl 0) f
  isi : IsiOk K cl
  clsT : ∀ p ∈ L.clsT, mg p.2 = some (.ref (cl p.1))
  len : ∀ c f, C.lenF c = some f → ∃ a fd ps, PySem.W.findIn K (.ref (cl c)) "__len__" = some (some (.ref a)) ∧ PySem.W.isFn K (.ref a) = true ∧ FnAt C Φ cl T prog w K mg base k f a fd ps [false]
structure Good (L : Lay) (C : Cfg) (Φ : Oracle) (cl : Nat → Addr) (T : TabL) (k : Nat) (I : Inf) (X : Cx) : Prop where
  N : X.N = I.N
  nd : X.N.Nodup
  knd : X.env.scope.kind = .function
  loc : ∀ x, I.nm.lookup x = some .local → X.env.scope.names.lookup x = some .local
  cell : ∀ x, I.nm.lookup x = some .cell → X.env.scope.names.lookup x = some .cell ∧ X.fn x = true
  free : ∀ x, I.nm.lookup x = some .free → X.env.scope.names.lookup x = some .cell ∨ X.env.scope.names.lookup x = some .free
  glob : ∀ x, I.nm.lookup x = some .globalImplicit → X.env.scope.names.lookup x = some .globalImplicit
  calm : X.calm = true
  room : Room (k + 1) X.A
  gm : GM L C Φ cl T k X.prog X.w X.K X.mg X.base
section
variable {L : Lay} {C : Cfg} {Φ : Oracle} {cl : Nat → Addr} {T : TabL} {k : Nat} {W : WX} {X : Cx} {I : Inf}
theorem Good.hu (G : Good L C Φ cl T k I X) : X.A.units + 65 < cLine := by have := G.room.un; omega
theorem Good.r0 (G : Good L C Φ cl T k I X) : Room k X.A := G.room.mono (Nat.le_succ k)
theorem dunder_of {x : Str} (h : (!dunder x) = true) : (x == ("__debug__" : Str)) = false ∧ (x == ("__classdict__" : Str)) = false := by
  unfold dunder at h
  cases h1 : (x == ("__debug__" : Str)) <;> cases h2 : (x == ("__classdict__" : Str)) <;> simp [h1, h2] at h ⊢
theorem Good.visV (G : Good L C Φ cl T k I X) {i : Nat} {x : Str} (h : visN I i x = true) : X.N[i]? = some x ∧ Vis X.env.scope x ∧ (x == ("__debug__" : Str)) = false ∧ (x == ("__classdict__" : Str)) = false := by
  unfold visN at h
  simp only [Bool.and_eq_true] at h
  obtain ⟨⟨h1, h2⟩, h3⟩ := h
  obtain ⟨d1, d2⟩ := dunder_of h2
  refine ⟨by rw [G.N]; exact of_decide_eq_true h1, ?_, d1, d2⟩
  split at h3
  · rename_i e; exact .inl (G.loc x e)
  · rename_i e; exact .inr (.inl (G.cell x e).1)
  · rename_i e; exact (G.free x e).elim (fun q => .inr (.inl q)) fun q => .inr (.inr q)
  · exact nomatch h3
theorem Good.locV (G : Good L C Φ cl T k I X) {i : Nat} {x : Str} (h : locN I i x = true) : X.N[i]? = some x ∧ Loc X.env.scope x ∧ (X.fn x = true ∨ X.env.scope.names.lookup x = some .local) := by
  unfold locN at h
  simp only [Bool.and_eq_true] at h
  obtain ⟨h1, h3⟩ := h
  refine ⟨by rw [G.N]; exact of_decide_eq_true h1, ?_⟩
  split at h3
  · rename_i e; exact ⟨.inl (G.loc x e), .inr (G.loc x e)⟩
  · rename_i e; exact ⟨.inr (G.cell x e).1, .inl (G.cell x e).2⟩
  · exact nomatch h3
theorem Good.lclV (G : Good L C Φ cl T k I X) {i : Nat} {x : Str} (h : lclN I i x = true) : X.N[i]? = some x ∧ X.env.scope.names.lookup x = some .local := by
  unfold lclN at h
  simp only [Bool.and_eq_true] at h
  exact ⟨by rw [G.N]; exact of_decide_eq_true h.1, G.loc x (of_decide_eq_true h.2)⟩
theorem Good.cellV (G : Good L C Φ cl T k I X) {i : Nat} {x : Str} (h : cellN I i x = true) : X.N[i]? = some x ∧ X.env.scope.names.lookup x = some .cell ∧ X.fn x = true := by
  unfold cellN at h
  simp only [Bool.and_eq_true] at h
  exact ⟨by rw [G.N]; exact of_decide_eq_true h.1, G.cell x (of_decide_eq_true h.2)⟩
theorem swaps_cell {e : Expr} {x : Str} {p : Pos} {l : Nat} {env : PySem.Env} (h : env.scope.names.lookup x = some .cell) : swapsWith e (some (.Name x p)) l env = pure false := by
  have h' : env.kindOf x = some .cell := h
  have hk : (NameKind.cell == NameKind.local) = false := by decide
  cases e <;> first | rfl | (unfold swapsWith; simp [h', hk])
theorem Good.gl (G : Good L C Φ cl T k I X) {x : Str} (h : glN I x = true) : Gl X x ∧ (x == ("__debug__" : Str)) = false := by
  unfold glN at h
  simp only [Bool.and_eq_true] at h
  exact ⟨G.glob x (of_decide_eq_true h.1), (dunder_of h.2).1⟩
theorem relab_free {env : PySem.Env} : ∀ {names : List (Str × NameKind)} {x : Str}, names.lookup x = some .free →
    (names.map fun (n, k) => if (k == NameKind.free && env.scope.kind == .function && env.kindOf n == some .cell) then (n, NameKind.cell) else (n, k)).lookup x = some .cell ∨
    (names.map fun (n, k) => if (k == NameKind.free && env.scope.kind == .function && env.kindOf n == some .cell) then (n, NameKind.cell) else (n, k)).lookup x = some .free
  | [], _, h => by simp at h
  | (n, k) :: r, x, h => by
    have ih := @relab_free env r x
    show List.lookup x ((if (k == NameKind.free && env.scope.kind == .function && env.kindOf n == some .cell) = true then (n, NameKind.cell) else (n, k)) :: _) = _ ∨ List.lookup x ((if (k == NameKind.free && env.scope.kind == .function && env.kindOf n == some .cell) = true then (n, NameKind.cell) else (n, k)) :: _) = _
    cases hx : x == n with
    | true =>
      simp only [List.lookup_cons, hx] at h
      cases h
      split
      · left; simp only [List.lookup_cons, hx]
      · right; simp only [List.lookup_cons, hx]
    | false =>
      simp only [List.lookup_cons, hx] at h
      split <;> simp only [List.lookup_cons, hx] <;> exact ih h
theorem Good.blkOk (G : Good L C Φ cl T k I X) {sc : Scope} {own : List (Str × Nat)} (h : blkC I.N I.scope sc own = true) : BlkOk X.N X.env.scope sc own := by
  have b := blkOk_by h
  rw [G.N]
  refine ⟨b.kind, b.uniq, b.ix, fun y hy hf => ?_, b.own⟩
  rcases b.free y hy hf with q | q
  · exact .inl (G.cell _ q).1
  · exact G.free _ q
theorem Good.blk (G : Good L C Φ cl T k I X) {sc : Scope} (hk : sc.kind = .function) (s : Shared) (H : Hp) (C' : Addr) (cl' : List (Str × Addr)) (fp : List Addr) : Good L C Φ cl T k ⟨I.N, sc.names, I.P⟩ (X.blk s H sc (compEnvC sc cl' C' X.env) fp) := by
  refine ⟨G.N, G.nd, hk, fun x h => ?_, fun x h => ?_, fun x h => ?_, fun x h => ?_, G.calm, G.room, G.gm⟩
  · exact lookup_relS_keep (sc := X.env.scope) (fun z => nomatch z) h
  · exact ⟨lookup_relS_keep (sc := X.env.scope) (fun z => nomatch z) h, by
      show (sc.names.lookup x == some .cell) = true
      rw [show sc.names.lookup x = some .cell from h]; rfl⟩
  · exact relab_free (env := X.env) h
  · exact lookup_relS_keep (sc := X.env.scope) (fun z => nomatch z) h
theorem takes0 {s : Shared} {H : Hp} {sc : Scope} {cenv : PySem.Env} {fp : List Addr} : Takes (X.blk s H sc cenv fp) W0 := fun u s' ⟨_, _, _, _, _, _, _, _, _, _, _, _, _, _, _, _, w⟩ => w
theorem pgs_names (G : Good L C Φ cl T k I X) : ∀ {is : List Nat} {es : List Expr}, namesOf I is es = true → PGs X es (gNames is) ∧ (assignEach es X.env).length = is.length ∧ (assignEach es X.env).findIdx? (·.1) = none
  | [], [], _ => ⟨pgs_nil, rfl, rfl⟩
  | [], _ :: _, h => nomatch h
  | _ :: _, [], h => nomatch h
  | i :: is, e :: es, h => by
    have h := Bool.and_eq_true_iff.mp (show (_ && namesOf I is es) = true from h)
    cases e with
    | Name x p =>
      obtain ⟨h1, h2, h3⟩ := pgs_names G h.2
      obtain ⟨l1, l2, l3⟩ := G.locV (show locN I i x = true from h.1)
      refine ⟨pgs_cons (pg_name G.nd l1 l2 l3) h1 rfl, congrArg (· + 1) h2, ?_⟩
      show List.findIdx? (·.1) ((false, assign (.Name x p) X.env) :: assignEach es X.env) = none
      rw [List.findIdx?_cons]
      simp [h3]
    | _ => exact nomatch (show false = true from h.1)
theorem tg_sound (G : Good L C Φ cl T k I X) {xt : Tg} {e : Expr} (h : trTg I xt e = true) : PG X e (gT X.K xt) := by
  cases xt with
  | name i =>
    cases e with
    | Name x p =>
      obtain ⟨l1, l2, l3⟩ := G.locV (show locN I i x = true from h)
      exact pg_name G.nd l1 l2 l3
    | _ => exact nomatch (show false = true from h)
  | tup is =>
    cases e with
    | Tuple es kk p =>
      obtain ⟨h1, h2, h3⟩ := pgs_names G (show namesOf I is es = true from h)
      exact pg_tup G.calm h1 h2 h3
    | _ => exact nomatch (show false = true from h)
def tIfT (tc ta tb : TT) : TT := fun σ H Q => tc σ H fun c H1 => if c = true then ta σ H1 Q else tb σ H1 Q
theorem pt_ifExp {c a b : Expr} {tc ta tb : TT} {pos : Pos} (hc : PT X c tc) (ha : PT X a ta) (hb : PT X b tb) : PT X (.IfExp c a b pos) (tIfT tc ta tb) := by
  refine ⟨fun pins s σ H Q I h => ?_⟩
  show wpAny _ _ (do if ← isTrue c X.env (eval c X.env) then isTrue a X.env (eval a X.env) else isTrue b X.env (eval b X.env)) _ _ _
  refine wpAny_bind (thn (hc.run pins s σ H _ I h) fun k s1 ⟨H1, I1, q⟩ => ?_)
  cases k with
  | true => exact ha.run pins s1 σ H1 Q I1 q
  | false => exact hb.run pins s1 σ H1 Q I1 q
theorem pw_of {op : BoolOp} {vs : List Expr} {pos : Pos} {t : TT} (h : PT X (.BoolOp op vs pos) t) : PW X (.BoolOp op vs pos) t := ⟨fun _ pins s σ H Q I q => h.run pins s σ H Q I q⟩
theorem evT_ife (t a b : Ex) (ρ : FB.Env) : evT C Φ (.ife t a b) ρ = (evT C Φ t ρ).bind fun c ρ => if c = true then evT C Φ a ρ else evT C Φ b ρ := by
  unfold evT
  show R.bind (R.bind (evE C Φ t ρ) _) _ = R.bind (R.bind (evE C Φ t ρ) _) _
  cases evE C Φ t ρ with
  | ok v ρ1 =>
    rcases v with d | d | i
    · cases d with
      | bl b => cases b <;> rfl
      | _ => rfl
    · rfl
    · rfl
  | _ => rfl
theorem t_ife {a b c : Expr} {xa xb xc : Ex} {pos : Pos} (hc : PT X c (tMt C Φ cl T W xc)) (ha : PT X a (tMt C Φ cl T W xa)) (hb : PT X b (tMt C Φ cl T W xb)) : PT X (.IfExp c a b pos) (tMt C Φ cl T W (.ife xc xa xb)) :=
  (pt_ifExp hc ha hb).mono fun σ H Q ⟨Z, ρ, s, k⟩ => by
    rw [evT_ife] at k
    refine tR.go s (.refl s) k fun v ρ1 u H1 Z1 p1 r1 k => ?_
    cases (show u = v from r1)
    cases v with
    | true => exact tR.last s p1 k fun v ρ2 u2 H2 Z2 p2 r2 k => k u2 H2 Z2 (p1.trans s p2) r2
    | false => exact tR.last s p1 k fun v ρ2 u2 H2 Z2 p2 r2 k => k u2 H2 Z2 (p1.trans s p2) r2
theorem a_bad1 {a : Expr} {es : List Expr} {xa : Ex} {xs : Exs} : PA X (a :: es) (tA C Φ cl T W [] (.cons xa xs)) := ⟨fun _ _ _ _ _ _ _ h => by obtain ⟨Z, ρ, s, k⟩ := h; exact k.elim⟩
theorem a_bad2 {m : Bool} {ms : List Bool} : PA X [] (tA C Φ cl T W (m :: ms) .nil) := ⟨fun _ _ _ _ _ _ _ h => by
  obtain ⟨Z, ρ, s, k⟩ := h
  have : evA C Φ (m :: ms) .nil ρ = .stuck := by cases m <;> rfl
  rw [this] at k
  exact k.elim⟩
end
end FB

set_option Elab.async false
set_option linter.all false
set_option maxRecDepth 100000
set_option maxHeartbeats 1000000
namespace FB
open PySem PySem.Spec PyProof.Rows L2
section
variable {L : Lay} {C : Cfg} {Φ : Oracle} {cl : Nat → Addr} {T : TabL} {k : Nat}
abbrev Both (C : Cfg) (Φ : Oracle) (cl : Nat → Addr) (T : TabL) (W : WX) (X : Cx) (x : Ex) (e : Expr) : Prop := PE X e (tM C Φ cl T W x) ∧ PT X e (tMt C Φ cl T W x)
theorem both_val {W : WX} {X : Cx} {x : Ex} {e : Expr} (h : plainT e = true) (p : PE X e (tM C Φ cl T W x)) : Both C Φ cl T W X x e := ⟨p, t_val h p⟩
theorem contains_mem {α : Type} [BEq α] [LawfulBEq α] {l : List α} {a : α} (h : l.contains a = true) : a ∈ l := by simpa using h
theorem empty_nil {α : Type} {l : List α} (h : l.isEmpty = true) : l = [] := by cases l <;> first | rfl | exact nomatch h
theorem ne_cons {α : Type} {l : List α} (h : (!l.isEmpty) = true) : ∃ a r, l = a :: r := by cases l with
  | nil => exact nomatch h
  | cons a r => exact ⟨a, r, rfl⟩
mutual
theorem E_sound : ∀ (x : Ex) {I : Inf} {X : Cx} {W : WX} {e : Expr}, Good L C Φ cl T k I X → Takes X W → trE L I x e = true → Both C Φ cl T W X x e
  | .var i, I, X, W, e, G, tk, h => by
    cases e with
    | Name x p =>
      obtain ⟨h1, h2, h3, h4⟩ := G.visV (show visN I i x = true from h)
      exact both_val rfl (s_var (pe_var h1 h2 h3 h4))
    | _ => exact nomatch (show false = true from h)
  | .lit d, I, X, W, e, G, tk, h => by
    cases e with
    | Constant c n p =>
      have h : litOk d c = true := h
      refine both_val rfl ?_
      cases d with
      | non => cases c with
        | none => exact s_lit pe_non fun _ _ => .non
        | _ => exact nomatch (show false = true from h)
      | bl b => cases c with
        | bool b' =>
          have e : b = b' := by simpa [litOk] using h
          subst e
          exact s_lit pe_bl fun _ _ => .bl b
        | _ => exact nomatch (show false = true from h)
      | int b => cases c with
        | int b' =>
          have e : b = b' := by simpa [litOk] using h
          subst e
          exact s_lit pe_int fun _ _ => .int b
        | _ => exact nomatch (show false = true from h)
      | str b => cases c with
        | str b' =>
          have e : b = b' := by simpa [litOk] using h
          subst e
          exact s_lit pe_str fun _ _ => .str b
        | _ => exact nomatch (show false = true from h)
      | _ => cases c <;> exact nomatch (show false = true from h)
    | _ => exact nomatch (show false = true from h)
  | .glb x i, I, X, W, e, G, tk, h => by
    cases e with
    | Name y p =>
      have h : (decide (x = y) && L.cons.contains (x, i) && glN I x) = true := h
      simp only [Bool.and_eq_true, decide_eq_true_eq] at h
      obtain ⟨⟨rfl, h2⟩, h3⟩ := h
      obtain ⟨g1, g2⟩ := G.gl h3
      obtain ⟨u, h4, h5⟩ := G.gm.con _ (contains_mem h2)
      exact both_val rfl (s_glb (pe_glob g1 h4 h5 g2))
    | _ => exact nomatch (show false = true from h)
  | .bin op a b, I, X, W, e, G, tk, h => by
    cases e with
    | BinOp a' op' b' p =>
      have h : (decide (op = op') && trE L I a a' && trE L I b b') = true := h
      simp only [Bool.and_eq_true, decide_eq_true_eq] at h
      obtain ⟨⟨rfl, h2⟩, h3⟩ := h
      exact both_val rfl (s_bin (E_sound a G tk h2).1 (E_sound b G tk h3).1)
    | _ => exact nomatch (show false = true from h)
  | .neg a, I, X, W, e, G, tk, h => by
    cases e with
    | UnaryOp op a' p =>
      cases op with
      | USub =>
        have p1 := s_neg (pos := p) (E_sound a G tk (show trE L I a a' = true from h)).1
        exact ⟨p1, (pt_val p1 (fun _ => rfl)).mono fun σ H Q h => tMt_tM h⟩
      | _ => exact nomatch (show false = true from h)
    | _ => exact nomatch (show false = true from h)
  | .cmp op a b, I, X, W, e, G, tk, h => by
    cases e with
    | Compare a' ops bs p =>
      rcases bs with _ | ⟨b', _ | ⟨c', r⟩⟩
      · exact nomatch (show false = true from h)
      · have h : (decide (ops = [op]) && trE L I a a' && trE L I b b' && !behindInMarks op b') = true := h
        simp only [Bool.and_eq_true, decide_eq_true_eq, Bool.not_eq_true'] at h
        obtain ⟨⟨⟨rfl, h1⟩, h2⟩, h3⟩ := h
        have ea := (E_sound a G tk h1).1
        have eb := (E_sound b G tk h2).1
        exact ⟨s_cmp G.hu ea eb h3, t_cmp G.hu ea eb h3⟩
      · exact nomatch (show false = true from h)
    | _ => exact nomatch (show false = true from h)
  | .chain op op' a b c, I, X, W, e, G, tk, h => by
    cases e with
    | Compare a' ops bs p =>
      rcases bs with _ | ⟨b', _ | ⟨c', _ | ⟨d', r⟩⟩⟩
      · exact nomatch (show false = true from h)
      · exact nomatch (show false = true from h)
      · have h : (decide (ops = [op, op']) && trE L I a a' && trE L I b b' && trE L I c c' && !lastMarks [op, op'] [b', c']) = true := h
        simp only [Bool.and_eq_true, decide_eq_true_eq, Bool.not_eq_true'] at h
        obtain ⟨⟨⟨⟨rfl, h1⟩, h2⟩, h3⟩, h4⟩ := h
        have ea := (E_sound a G tk h1).1
        have eb := (E_sound b G tk h2).1
        have ec := (E_sound c G tk h3).1
        exact ⟨s_chain G.hu ea eb ec h4, t_chain G.hu ea eb ec h4⟩
      · exact nomatch (show false = true from h)
    | _ => exact nomatch (show false = true from h)
  | .not a, I, X, W, e, G, tk, h => by
    cases e with
    | UnaryOp op a' p =>
      cases op with
      | Not =>
        have ea := E_sound a G tk (show trE L I a a' = true from h)
        exact ⟨s_not ea.1, t_not ea.2⟩
      | _ => exact nomatch (show false = true from h)
    | _ => exact nomatch (show false = true from h)
  | .and a b, I, X, W, e, G, tk, h => by
    cases e with
    | BoolOp op vs p =>
      cases op with
      | And =>
        rcases vs with _ | ⟨a', _ | ⟨b', r⟩⟩
        · exact nomatch (show false = true from h)
        · exact nomatch (show false = true from h)
        · cases r with
          | nil =>
            have h : (trE L I a a' && trE L I b b') = true := h
            obtain ⟨h1, h2⟩ := Bool.and_eq_true_iff.mp h
            have ea := E_sound a G tk h1
            have eb := E_sound b G tk h2
            exact ⟨s_and ea.1 (pe_one eb.1), (t_and ea.2 (pw_and1 eb.2)).pt⟩
          | cons c r =>
            have h : (trE L I a a' && trE L I b (.BoolOp .And (b' :: c :: r) p)) = true := h
            obtain ⟨h1, h2⟩ := Bool.and_eq_true_iff.mp h
            have ea := E_sound a G tk h1
            have eb := E_sound b G tk h2
            exact ⟨s_and ea.1 eb.1, (t_and ea.2 (pw_of eb.2)).pt⟩
      | Or => exact nomatch (show false = true from h)
    | _ => exact nomatch (show false = true from h)
  | .or a b, I, X, W, e, G, tk, h => by
    cases e with
    | BoolOp op vs p =>
      cases op with
      | Or =>
        rcases vs with _ | ⟨a', _ | ⟨b', r⟩⟩
        · exact nomatch (show false = true from h)
        · exact nomatch (show false = true from h)
        · cases r with
          | nil =>
            have h : (trE L I a a' && trE L I b b') = true := h
            obtain ⟨h1, h2⟩ := Bool.and_eq_true_iff.mp h
            have ea := E_sound a G tk h1
            have eb := E_sound b G tk h2
            exact ⟨s_or ea.1 (pe_one eb.1), (t_or ea.2 (pw_or1 eb.2)).pt⟩
          | cons c r =>
            have h : (trE L I a a' && trE L I b (.BoolOp .Or (b' :: c :: r) p)) = true := h
            obtain ⟨h1, h2⟩ := Bool.and_eq_true_iff.mp h
            have ea := E_sound a G tk h1
            have eb := E_sound b G tk h2
            exact ⟨s_or ea.1 eb.1, (t_or ea.2 (pw_of eb.2)).pt⟩
      | And => exact nomatch (show false = true from h)
    | _ => exact nomatch (show false = true from h)
  | .ife t a b, I, X, W, e, G, tk, h => by
    cases e with
    | IfExp t' a' b' p =>
      have h : (trE L I t t' && trE L I a a' && trE L I b b') = true := h
      simp only [Bool.and_eq_true] at h
      obtain ⟨⟨h1, h2⟩, h3⟩ := h
      have et := E_sound t G tk h1
      have ea := E_sound a G tk h2
      have eb := E_sound b G tk h3
      exact ⟨s_ife et.2 ea.1 eb.1, t_ife et.2 ea.2 eb.2⟩
    | _ => exact nomatch (show false = true from h)
  | .lstD es, I, X, W, e, G, tk, h => by
    cases e with
    | List es' p =>
      have h : (trEs L I es es' && decide (es.len ≤ 1000)) = true := h
      simp only [Bool.and_eq_true, decide_eq_true_eq] at h
      exact both_val rfl (s_lst (Es_sound es G tk h.1).2.1 h.2)
    | _ => exact nomatch (show false = true from h)
  | .tupD es, I, X, W, e, G, tk, h => by
    cases e with
    | Tuple es' kk p =>
      have h : (trEs L I es es' && decide (es.len ≤ 1000)) = true := h
      simp only [Bool.and_eq_true, decide_eq_true_eq] at h
      exact both_val rfl (s_tup (Es_sound es G tk h.1).2.1 h.2)
    | _ => exact nomatch (show false = true from h)
  | .dct0, I, X, W, e, G, tk, h => by cases e <;> exact nomatch (show false = true from h)
  | .dct1 _ _, I, X, W, e, G, tk, h => by cases e <;> exact nomatch (show false = true from h)
  | .callK _ _ _ _ _, I, X, W, e, G, tk, h => by cases e <;> exact nomatch (show false = true from h)
  | .idx a b, I, X, W, e, G, tk, h => by
    cases e with
    | Subscript a' b' p =>
      have h : (trE L I a a' && trE L I b b' && noSlice b') = true := h
      simp only [Bool.and_eq_true] at h
      exact both_val rfl (s_idx (E_sound a G tk h.1.1).1 (E_sound b G tk h.1.2).1 (plainIx_of h.2))
    | _ => exact nomatch (show false = true from h)
  | .slc a lo hi, I, X, W, e, G, tk, h => by
    cases e with
    | Subscript a' s p =>
      cases s with
      | Slice lo' hi' st p2 =>
        have h : (st.isNone && trE L I a a' && trO L I lo lo' && trO L I hi hi') = true := h
        simp only [Bool.and_eq_true] at h
        obtain ⟨⟨⟨h0, h1⟩, h2⟩, h3⟩ := h
        cases st with
        | some _ => exact nomatch h0
        | none => exact both_val rfl (s_slc (E_sound a G tk h1).1 (O_sound lo G tk h2) (O_sound hi G tk h3))
      | _ => exact nomatch (show false = true from h)
    | _ => exact nomatch (show false = true from h)
  | .rev a, I, X, W, e, G, tk, h => by
    unfold trE at h
    split at h
    · exact both_val rfl (s_rev (E_sound a G tk h).1)
    · exact nomatch h
  | .fld a f, I, X, W, e, G, tk, h => by
    cases e with
    | Attribute a' g p =>
      have h : (decide (f = g) && L.flds.contains f && trE L I a a' && noCall0 a') = true := h
      simp only [Bool.and_eq_true, decide_eq_true_eq] at h
      obtain ⟨⟨⟨rfl, h1⟩, h2⟩, h3⟩ := h
      exact both_val rfl (s_fld G.gm.cls (G.gm.flds _ (contains_mem h1)) h3 (E_sound a G tk h2).1)
    | _ => exact nomatch (show false = true from h)
  | .blt b es, I, X, W, e, G, tk, h => by
    cases e with
    | Call fn as ks p =>
      cases fn with
      | Name x p2 =>
        have h : (ks.isEmpty && decide (x = bltName b) && glN I x && trEs L I es as && !as.isEmpty) = true := h
        simp only [Bool.and_eq_true, decide_eq_true_eq] at h
        obtain ⟨⟨⟨⟨h0, h1⟩, h2⟩, h3⟩, h4⟩ := h
        obtain rfl := empty_nil h0
        obtain ⟨a0, r, rfl⟩ := ne_cons h4
        obtain ⟨hs, _, hv, _⟩ := Es_sound es G tk h3
        have hm : X.mg x = none := G.gm.blt x (by rw [h1]; cases b <;> decide +kernel)
        exact both_val rfl (s_blt G.room ⟨G.gm.len⟩ G.calm h1 (G.gl h2).1 hm hs hv)
      | _ => exact nomatch (show false = true from h)
    | _ => exact nomatch (show false = true from h)
  | .isi a t, I, X, W, e, G, tk, h => by
    cases e with
    | Call fn as ks p =>
      cases fn with
      | Name x p2 =>
        rcases as with _ | ⟨a', _ | ⟨y', _ | ⟨z', r⟩⟩⟩
        · exact nomatch (show false = true from h)
        · exact nomatch (show false = true from h)
        · cases y' with
          | Name y p3 =>
            have h : (ks.isEmpty && decide (x = "isinstance") && glN I x && glN I y && trE L I a a' && noStar a' && isiC L t y) = true := h
            simp only [Bool.and_eq_true, decide_eq_true_eq] at h
            obtain ⟨⟨⟨⟨⟨⟨h0, rfl⟩, h1⟩, h2⟩, h3⟩, h4⟩, h5⟩ := h
            obtain rfl := empty_nil h0
            obtain ⟨g1, g2⟩ := G.gl h1
            obtain ⟨g3, g4⟩ := G.gl h2
            refine both_val rfl (s_isi G.gm.isi g1 (G.gm.blt _ (by decide +kernel)) ?_ h4 (E_sound a G tk h3).1)
            cases t with
            | cls c => exact pe_glob g3 (G.gm.clsT _ (contains_mem h5)) rfl g4
            | int => cases (of_decide_eq_true h5); exact pe_bltn g3 (G.gm.blt _ (by decide +kernel)) (by decide +kernel) rfl (by decide) g4
            | bool => cases (of_decide_eq_true h5); exact pe_bltn g3 (G.gm.blt _ (by decide +kernel)) (by decide +kernel) rfl (by decide) g4
            | list => cases (of_decide_eq_true h5); exact pe_bltn g3 (G.gm.blt _ (by decide +kernel)) (by decide +kernel) rfl (by decide) g4
            | tuple => cases (of_decide_eq_true h5); exact pe_bltn g3 (G.gm.blt _ (by decide +kernel)) (by decide +kernel) rfl (by decide) g4
            | str => cases (of_decide_eq_true h5); exact pe_bltn g3 (G.gm.blt _ (by decide +kernel)) (by decide +kernel) rfl (by decide) g4
          | _ => exact nomatch (show false = true from h)
        · cases y' <;> exact nomatch (show false = true from h)
      | _ => exact nomatch (show false = true from h)
    | _ => exact nomatch (show false = true from h)
  | .listR it, I, X, W, e, G, tk, h => by
    cases it with
    | rng1 a =>
      unfold trE at h
      split at h
      · rename_i x p2 as ks p
        dsimp only at h
        split at h
        · rename_i y p3 as' ks' p4
          split at h
          · rename_i a'
            simp only [Bool.and_eq_true, decide_eq_true_eq] at h
            obtain ⟨⟨⟨⟨⟨⟨⟨h0, h0'⟩, rfl⟩, rfl⟩, h1⟩, h2⟩, h3⟩, h4⟩ := h
            obtain rfl := empty_nil h0
            obtain rfl := empty_nil h0'
            exact both_val rfl (s_listR1 G.calm (G.gl h2).1 (G.gm.blt _ (by decide +kernel)) (G.gl h1).1 (G.gm.blt _ (by decide +kernel)) h4 (E_sound a G tk h3).1)
          · exact nomatch h
        · exact nomatch h
      · exact nomatch h
    | _ =>
      unfold trE at h
      split at h
      · exact nomatch h
      · exact nomatch h
  | .call f snap es, I, X, W, e, G, tk, h => by
    cases e with
    | Call fn as ks p =>
      cases fn with
      | Name x p2 =>
        have h : (ks.isEmpty && L.fns.contains (f, x) && glN I x && trEs L I es as && !as.isEmpty) = true := h
        simp only [Bool.and_eq_true] at h
        obtain ⟨⟨⟨⟨h0, h1⟩, h2⟩, h3⟩, h4⟩ := h
        obtain rfl := empty_nil h0
        obtain ⟨a0, r, rfl⟩ := ne_cons h4
        obtain ⟨hs, _, hv, ha⟩ := Es_sound es G tk h3
        obtain ⟨g1, g2⟩ := G.gl h2
        obtain ⟨ad, fd, ps, ms, hm, F⟩ := G.gm.fns _ (contains_mem h1)
        cases snap with
        | true => exact both_val rfl (s_snap G.r0 tk g1 hm F g2 hs hv)
        | false => exact both_val rfl (s_call G.r0 tk g1 hm F g2 hs (ha ms))
      | _ => exact nomatch (show false = true from h)
    | _ => exact nomatch (show false = true from h)
  | .meth f m o es, I, X, W, e, G, tk, h => by
    cases e with
    | Call fn as ks p =>
      cases fn with
      | Attribute o' n ap =>
        have h : (ks.isEmpty && decide (m = n) && L.mts.contains (f, m) && trE L I o o' && noCall0 o' && (ap.endLine == p.line) && decide (as.length < 29) && trEs L I es as) = true := h
        simp only [Bool.and_eq_true, decide_eq_true_eq] at h
        obtain ⟨⟨⟨⟨⟨⟨⟨h0, rfl⟩, h1⟩, h2⟩, h3⟩, h4⟩, h5⟩, h6⟩ := h
        obtain rfl := empty_nil h0
        obtain ⟨hs, hl, _, _⟩ := Es_sound es G tk h6
        obtain ⟨ad, fd, ps, ms, hm, F⟩ := G.gm.mts _ (contains_mem h1)
        have eo := (E_sound o G tk h2).1
        cases as with
        | nil =>
          cases es with
          | nil => exact both_val rfl (s_meth0 G.r0 tk G.gm.cls hm F h3 h4 eo)
          | cons _ _ => exact nomatch (show false = true from h6)
        | cons a0 r => exact both_val rfl (s_meth G.r0 tk G.gm.cls hm F h3 h4 h5 hs eo hl)
      | _ => exact nomatch (show false = true from h)
    | _ => exact nomatch (show false = true from h)
  | .make c es, I, X, W, e, G, tk, h => by
    cases e with
    | Call fn as ks p =>
      cases fn with
      | Name x p2 =>
        have h : (ks.isEmpty && L.mks.contains (c, x) && glN I x && trEs L I es as && !as.isEmpty) = true := h
        simp only [Bool.and_eq_true] at h
        obtain ⟨⟨⟨⟨h0, h1⟩, h2⟩, h3⟩, h4⟩ := h
        obtain rfl := empty_nil h0
        obtain ⟨a0, r, rfl⟩ := ne_cons h4
        obtain ⟨hs, hl, _, _⟩ := Es_sound es G tk h3
        obtain ⟨g1, g2⟩ := G.gl h2
        obtain ⟨hm, f, ad, fd, ps, ms, hi, mk, F⟩ := G.gm.mks _ (contains_mem h1)
        exact both_val rfl (s_make G.room tk g1 hm hi mk F g2 hs hl)
      | _ => exact nomatch (show false = true from h)
    | _ => exact nomatch (show false = true from h)
  | .mth m o es, I, X, W, e, G, tk, h => by
    cases e with
    | Call fn as ks p =>
      cases fn with
      | Attribute o' n ap =>
        have h : (ks.isEmpty && decide (n = mthName m) && m.ofList && trE L I o o' && noCall0 o' && (ap.endLine == p.line) && decide (as.length < 29) && trEs L I es as && (!m.look || !as.isEmpty)) = true := h
        simp only [Bool.and_eq_true, decide_eq_true_eq] at h
        obtain ⟨⟨⟨⟨⟨⟨⟨⟨h0, h1⟩, h2⟩, h3⟩, h4⟩, h5⟩, h6⟩, h7⟩, h8⟩ := h
        obtain rfl := empty_nil h0
        obtain ⟨hs, hl, _, _⟩ := Es_sound es G tk h7
        have eo := (E_sound o G tk h3).1
        cases hk : m.look with
        | false =>
          cases as with
          | nil =>
            cases es with
            | nil => exact both_val rfl (s_mut0 h2 hk h1 h4 h5 eo)
            | cons _ _ => exact nomatch (show false = true from h7)
          | cons a0 r => exact both_val rfl (s_mut h2 hk h1 h4 h5 h6 hs eo hl)
        | true =>
          cases m with
          | index =>
            cases as with
            | nil => exact nomatch h8
            | cons a0 r => exact both_val rfl (s_index h1 h4 h5 h6 hs eo hl)
          | count => exact nomatch h2
          | _ => exact nomatch hk
      | _ => exact nomatch (show false = true from h)
    | _ => exact nomatch (show false = true from h)
  | .comp elt vs tg it ifs, I, X, W, e, G, tk, h => by
    cases e with
    | ListComp elt' gs sc p =>
      rcases gs with _ | ⟨⟨tg', it', ifs', asy⟩, _ | ⟨g2, r⟩⟩
      · exact nomatch (show false = true from h)
      · have h : (decide (asy = 0) && trI L I it tg' it' && blkC I.N I.scope sc (ownOf I.N sc) && decide ((ownOf I.N sc).map (·.2) = vs) && tgIn vs tg && trTg ⟨I.N, sc.names, I.P⟩ tg tg' &&
          trE L ⟨I.N, sc.names, I.P⟩ elt elt' && trTs L ⟨I.N, sc.names, I.P⟩ ifs ifs' && noSet it') = true := h
        simp only [Bool.and_eq_true, decide_eq_true_eq] at h
        obtain ⟨⟨⟨⟨⟨⟨⟨⟨rfl, h1⟩, h2⟩, rfl⟩, h4⟩, h5⟩, h6⟩, h7⟩, h8⟩ := h
        have bk := G.blkOk h2
        exact both_val rfl (s_comp G.calm G.nd (I_sound it G tk h1) bk h4
          (fun s H C' cl' fp => tg_sound (G.blk bk.kind s H C' cl' fp) h5)
          (fun s H C' cl' fp => Ts_sound ifs (G.blk bk.kind s H C' cl' fp) takes0 h7)
          (fun s H C' cl' fp => (E_sound elt (G.blk bk.kind s H C' cl' fp) takes0 h6).1) h8)
      · exact nomatch (show false = true from h)
    | _ => exact nomatch (show false = true from h)
theorem Es_sound : ∀ (xs : Exs) {I : Inf} {X : Cx} {W : WX} {es : List Expr}, Good L C Φ cl T k I X → Takes X W → trEs L I xs es = true →
    es.all noStar = true ∧ PA X es (tL C Φ cl T W xs) ∧ PA X es (tV C Φ cl T W xs) ∧ ∀ ms, PA X es (tA C Φ cl T W ms xs)
  | .nil, I, X, W, es, G, tk, h => by
    obtain rfl := empty_nil (show es.isEmpty = true from h)
    exact ⟨rfl, l_nil, v_nil, fun ms => by cases ms with
      | nil => exact a_nil
      | cons m ms => exact a_bad2⟩
  | .cons x xs, I, X, W, es, G, tk, h => by
    cases es with
    | nil => exact nomatch (show false = true from h)
    | cons e es =>
      have h : (trE L I x e && noStar e && trEs L I xs es) = true := h
      simp only [Bool.and_eq_true] at h
      obtain ⟨⟨h1, h2⟩, h3⟩ := h
      have ex := (E_sound x G tk h1).1
      obtain ⟨q1, q2, q3, q4⟩ := Es_sound xs G tk h3
      refine ⟨by rw [List.all_cons, h2, q1]; rfl, l_cons h2 ex q2, v_cons h2 ex q3, fun ms => ?_⟩
      cases ms with
      | nil => exact a_bad1
      | cons m ms => cases m with
        | true => exact a_raw h2 ex (q4 ms)
        | false => exact a_plain h2 ex (q4 ms)
theorem Ts_sound : ∀ (xs : Exs) {I : Inf} {X : Cx} {W : WX} {es : List Expr}, Good L C Φ cl T k I X → Takes X W → trTs L I xs es = true → PTs X es (tTs C Φ cl T W xs)
  | .nil, I, X, W, es, G, tk, h => by
    obtain rfl := empty_nil (show es.isEmpty = true from h)
    exact ts_nil
  | .cons x xs, I, X, W, es, G, tk, h => by
    rcases es with _ | ⟨e, _ | ⟨e2, r⟩⟩
    · exact nomatch (show false = true from h)
    · cases xs with
      | nil =>
        have h : (trE L I x e && true) = true := h
        rw [Bool.and_true] at h
        exact ts_one (E_sound x G tk h).2
      | cons y ys =>
        have h : (trE L I x e && false) = true := h
        rw [Bool.and_false] at h
        exact nomatch h
    · exact nomatch (show false = true from h)
theorem O_sound : ∀ (x : Opt) {I : Inf} {X : Cx} {W : WX} {e : Option Expr}, Good L C Φ cl T k I X → Takes X W → trO L I x e = true → PO X e (tMo C Φ cl T W x)
  | .none, I, X, W, e, G, tk, h => by
    cases e with
    | none => exact o_none
    | some _ => exact nomatch (show false = true from h)
  | .some x, I, X, W, e, G, tk, h => by
    cases e with
    | none => exact nomatch (show false = true from h)
    | some e => exact o_some (E_sound x G tk (show trE L I x e = true from h)).1
theorem I_sound : ∀ (x : FB.It) {I : Inf} {X : Cx} {W : WX} {tg e : Expr}, Good L C Φ cl T k I X → Takes X W → trI L I x tg e = true → PI X tg e (tI C Φ cl T W x)
  | .val x, I, X, W, tg, e, G, tk, h => i_val (E_sound x G tk (show trE L I x e = true from h)).1
  | .rng1 a, I, X, W, tg, e, G, tk, h => by
    unfold trI at h
    split at h
    · split at h
      · simp only [Bool.and_eq_true, decide_eq_true_eq] at h
        obtain ⟨⟨⟨⟨h0, rfl⟩, h1⟩, h2⟩, h3⟩ := h
        obtain rfl := empty_nil h0
        exact i_rng1 (G.gl h1).1 (G.gm.blt _ (by decide +kernel)) h3 (E_sound a G tk h2).1
      · exact nomatch h
    · exact nomatch h
  | .rng2 a b, I, X, W, tg, e, G, tk, h => by
    unfold trI at h
    split at h
    · split at h
      · simp only [Bool.and_eq_true, decide_eq_true_eq] at h
        obtain ⟨⟨⟨⟨⟨⟨h0, rfl⟩, h1⟩, h2⟩, h3⟩, h4⟩, h5⟩ := h
        obtain rfl := empty_nil h0
        exact i_rng2 (G.gl h1).1 (G.gm.blt _ (by decide +kernel)) h4 h5 (E_sound a G tk h2).1 (E_sound b G tk h3).1
      · exact nomatch h
    · exact nomatch h
  | .rng3 a b c, I, X, W, tg, e, G, tk, h => by
    unfold trI at h
    split at h
    · split at h
      · simp only [Bool.and_eq_true, decide_eq_true_eq] at h
        obtain ⟨⟨⟨⟨⟨⟨⟨⟨h0, rfl⟩, h1⟩, h2⟩, h3⟩, h4⟩, h5⟩, h6⟩, h7⟩ := h
        obtain rfl := empty_nil h0
        exact i_rng3 (G.gl h1).1 (G.gm.blt _ (by decide +kernel)) h5 h6 h7 (E_sound a G tk h2).1 (E_sound b G tk h3).1 (E_sound c G tk h4).1
      · exact nomatch h
    · exact nomatch h
  | .enum a, I, X, W, tg, e, G, tk, h => by
    obtain ⟨ht, h⟩ := Bool.and_eq_true_iff.mp (show (isTup tg && _) = true from h)
    cases tg with
    | Tuple elts kk tp =>
      cases e with
      | Call fn as ks p =>
        cases fn with
        | Name x p2 =>
          rcases as with _ | ⟨a', _ | ⟨b', r⟩⟩
          · exact nomatch (show false = true from h)
          · have h : (ks.isEmpty && decide (x = "enumerate") && glN I x && trE L I a a' && noStar a') = true := h
            simp only [Bool.and_eq_true, decide_eq_true_eq] at h
            obtain ⟨⟨⟨⟨h0, rfl⟩, h1⟩, h2⟩, h3⟩ := h
            obtain rfl := empty_nil h0
            exact i_enum (G.gl h1).1 (G.gm.blt _ (by decide +kernel)) h3 (E_sound a G tk h2).1
          · exact nomatch (show false = true from h)
        | _ => exact nomatch (show false = true from h)
      | _ => exact nomatch (show false = true from h)
    | _ => exact nomatch ht
  | .zip a b, I, X, W, tg, e, G, tk, h => by
    obtain ⟨ht, h⟩ := Bool.and_eq_true_iff.mp (show (isTup tg && _) = true from h)
    cases tg with
    | Tuple elts kk tp =>
      cases e with
      | Call fn as ks p =>
        cases fn with
        | Name x p2 =>
          rcases as with _ | ⟨a', _ | ⟨b', _ | ⟨c', r⟩⟩⟩
          · exact nomatch (show false = true from h)
          · exact nomatch (show false = true from h)
          · have h : (ks.isEmpty && decide (x = "zip") && glN I x && trE L I a a' && trE L I b b' && noStar a' && noStar b') = true := h
            simp only [Bool.and_eq_true, decide_eq_true_eq] at h
            obtain ⟨⟨⟨⟨⟨⟨h0, rfl⟩, h1⟩, h2⟩, h3⟩, h4⟩, h5⟩ := h
            obtain rfl := empty_nil h0
            exact i_zip (G.gl h1).1 (G.gm.blt _ (by decide +kernel)) h4 h5 (E_sound a G tk h2).1 (E_sound b G tk h3).1
          · exact nomatch (show false = true from h)
        | _ => exact nomatch (show false = true from h)
      | _ => exact nomatch (show false = true from h)
    | _ => exact nomatch ht
end
end
end FB

set_option Elab.async false
set_option linter.all false
set_option maxRecDepth 100000
set_option maxHeartbeats 1000000
namespace FB
open PySem PySem.Spec PyProof.Rows L2
section
variable {L : Lay} {C : Cfg} {Φ : Oracle} {cl : Nat → Addr} {T : TabL} {k : Nat}
theorem swapped_none {es : List Expr} {kk : Nat} {tp : Pos} {e : Expr} {env : PySem.Env} (h : (!isTup e) = true) : swappedStores [.Tuple es kk tp] e env = pure none := by
  cases e <;> first | rfl | exact nomatch h
theorem swapped_none' {t : Expr} {e : Expr} {env : PySem.Env} (h : ∀ es kk tp, t ≠ .Tuple es kk tp) (h2 : ∀ es tp, t ≠ .List es tp) : swappedStores [t] e env = pure none := by
  cases t <;> first | rfl | exact absurd rfl (h _ _ _) | exact absurd rfl (h2 _ _)
theorem swapped_par {I : Inf} {X : Cx} (G : Good L C Φ cl T k I X) {i j : Nat} {x y : Str} {px py : Pos} {a b : Expr} {kt k2 : Nat} {pt pt2 : Pos} (h : parOk I i j x y px py [a, b] = true) (h1 : noStar a = true) (h2 : noStar b = true) :
    swappedStores [.Tuple [.Name x px, .Name y py] kt pt] (.Tuple [a, b] k2 pt2) X.env = pure (some [x, y]) := by
  unfold parOk at h
  simp only [Bool.and_eq_true, decide_eq_true_eq, Bool.not_eq_true'] at h
  obtain ⟨⟨⟨⟨⟨⟨g1, g2⟩, _⟩, g3⟩, g4⟩, g5⟩, g6⟩ := h
  have l1 : X.env.kindOf x = some .local := (G.lclV g1).2
  have l2 : X.env.kindOf y = some .local := (G.lclV g2).2
  have bk : X.env.blockKind = .function := by unfold Env.blockKind; rw [G.knd]; rfl
  have g3' : (y == x) = false := by simpa using Ne.symm g3
  have nm : (List.filterMap (fun t : Expr => match t with
    | .Name id pos => if X.env.kindOf id == some .local && pos.line == (([Expr.Name x px, Expr.Name y py].head?.map (·.pos.line)).getD 0) then some id else none
    | _ => none) [Expr.Name x px, Expr.Name y py]) = [x, y] := by
    simp [l1, l2, g4, Expr.pos]
  unfold swappedStores
  refine (if_neg ?_).trans ((if_neg ?_).trans ?_)
  · rw [bk]; intro h; exact nomatch (show false = true from h)
  · simp only [List.any_cons, List.any_nil, Bool.or_eq_true]
    rintro (h | h | h)
    · cases a <;> first | exact nomatch (show false = true from h) | exact nomatch (show false = true from h1)
    · cases b <;> first | exact nomatch (show false = true from h) | exact nomatch (show false = true from h2)
    · exact nomatch h
  · refine Eq.trans (b := (if (([x, y].length != [Expr.Name x px, Expr.Name y py].length || [x, y].eraseDups.length != [x, y].length) = true) then pure none else
      if [a, b].all (foldedForSure 8) = true then pure none else if [a, b].all (constantsAlone 8) = true then (do unsupported "assign.tuple-of-constant-expressions:order-of-the-stores"; pure (some [x, y])) else pure (some [x, y]))) ?_ ?_
    · rw [← nm]
      rfl
    · rw [g5, g6, if_neg, if_neg, if_neg]
      · decide
      · decide
      · simp [List.eraseDups_cons, g3']
theorem swapped_parC {I : Inf} {X : Cx} (G : Good L C Φ cl T k I X) {i j : Nat} {x y : Str} {px py : Pos} {a b : Expr} {kt k2 : Nat} {pt pt2 : Pos} (h : parC I i j x y = true) (h1 : noStar a = true) (h2 : noStar b = true) :
    swappedStores [.Tuple [.Name x px, .Name y py] kt pt] (.Tuple [a, b] k2 pt2) X.env = pure none := by
  unfold parC at h
  simp only [Bool.and_eq_true, Bool.or_eq_true, decide_eq_true_eq] at h
  obtain ⟨_, g⟩ := h
  have bk : X.env.blockKind = .function := by unfold Env.blockKind; rw [G.knd]; rfl
  have nm : (List.filterMap (fun t : Expr => match t with
    | .Name id pos => if X.env.kindOf id == some .local && pos.line == (([Expr.Name x px, Expr.Name y py].head?.map (·.pos.line)).getD 0) then some id else none
    | _ => none) [Expr.Name x px, Expr.Name y py]).length ≠ 2 := by
    rcases g with g | g
    · have l1 : X.env.kindOf x = some .cell := (G.cellV g).2.1
      rw [List.filterMap_cons]
      simp only [l1]
      refine fun e => ?_
      have := List.length_filterMap_le (fun t : Expr => match t with
        | .Name id pos => if X.env.kindOf id == some .local && pos.line == (([Expr.Name x px, Expr.Name y py].head?.map (·.pos.line)).getD 0) then some id else none
        | _ => none) [Expr.Name y py]
      have e : (List.filterMap (fun t : Expr => match t with
        | .Name id pos => if X.env.kindOf id == some .local && pos.line == (([Expr.Name x px, Expr.Name y py].head?.map (·.pos.line)).getD 0) then some id else none
        | _ => none) [Expr.Name y py]).length = 2 := e
      rw [e] at this
      exact absurd (show 2 ≤ 1 from this) (by decide)
    · have l1 : X.env.kindOf y = some .cell := (G.cellV g).2.1
      rw [List.filterMap_cons]
      have e0 : (List.filterMap (fun t : Expr => match t with
        | .Name id pos => if X.env.kindOf id == some .local && pos.line == (([Expr.Name x px, Expr.Name y py].head?.map (·.pos.line)).getD 0) then some id else none
        | _ => none) [Expr.Name y py]) = [] := by
        rw [List.filterMap_cons]
        simp only [l1]
        rfl
      split
      · rw [e0]; exact fun h => nomatch (show (0 : Nat) = 2 from h)
      · rw [e0]; exact fun h => nomatch (show (1 : Nat) = 2 from h)
  unfold swappedStores
  refine (if_neg ?_).trans ((if_neg ?_).trans ?_)
  · rw [bk]; intro h; exact nomatch (show false = true from h)
  · simp only [List.any_cons, List.any_nil, Bool.or_eq_true]
    rintro (h | h | h)
    · cases a <;> first | exact nomatch (show false = true from h) | exact nomatch (show false = true from h1)
    · cases b <;> first | exact nomatch (show false = true from h) | exact nomatch (show false = true from h2)
    · exact nomatch h
  · refine if_pos ?_
    simp only [Bool.or_eq_true]
    exact .inl (bne_iff_ne.mpr nm)
/-! ### statements -/
structure GoodS (L : Lay) (C : Cfg) (Φ : Oracle) (cl : Nat → Addr) (T : TabL) (k : Nat) (I : Inf) (X : Cx) : Prop extends Good L C Φ cl T k I X where
  own : PassesOwn (model X.prog X.w) X.A X.env X.xe
theorem sole_of {t e : Expr} {l : Nat} {env : PySem.Env} (h : noComp e = true) : swapsWithSole [t] e l env = pure false := swaps_of (t := some t) h
theorem notP {P : List Nat} {i : Nat} (h : (!P.contains i) = true) : i ∉ P := by simpa using h
theorem notPs {P is : List Nat} (h : (is.all fun i => !P.contains i) = true) : ∀ i ∈ P, i ∉ is := fun i hi hm => by
  have := List.all_eq_true.mp h i hm
  simp at this
  exact this hi
mutual
theorem S_sound : ∀ (x : Stm) {I : Inf} {X : Cx} {W : WX} {F : Fx} {s : Stmt}, GoodS L C Φ cl T k I X → Takes X W → F.P = I.P → trS L I x s = true → PS X s (tS C Φ cl T W F x)
  | .expr a, I, X, W, F, s, G, tk, hP, h => by
    cases s with
    | Expr e p =>
      have h := Bool.and_eq_true_iff.mp (show (trE L I a e && noComp e) = true from h)
      exact st_expr h.2 (E_sound a G.toGood tk h.1).1
    | _ => exact nomatch (show false = true from h)
  | .asg own i a, I, X, W, F, s, G, tk, hP, h => by
    cases s with
    | Assign ts e p =>
      rcases ts with _ | ⟨t, _ | ⟨t2, r⟩⟩
      · exact nomatch (Bool.and_eq_true_iff.mp (show (!I.P.contains i && false) = true from h)).2
      · cases t with
        | Name x px =>
          obtain ⟨h0, h⟩ := Bool.and_eq_true_iff.mp (show (!I.P.contains i && (trE L I a e && (if isLc e then (lclN I i x && swapC I x e px) || cellN I i x else locN I i x && noComp e))) = true from h)
          obtain ⟨h1, h2⟩ := Bool.and_eq_true_iff.mp h
          have hi : i ∉ F.P := by rw [hP]; exact notP h0
          cases hl : isLc e with
          | false =>
            rw [hl] at h2
            have h2 := Bool.and_eq_true_iff.mp (show (locN I i x && noComp e) = true from h2)
            obtain ⟨l1, l2, l3⟩ := G.locV h2.1
            exact st_asg hi G.nd l1 l2 l3 (swaps_of h2.2) (E_sound a G.toGood tk h1).1
          | true =>
            rw [hl] at h2
            rcases Bool.or_eq_true_iff.mp (show ((lclN I i x && swapC I x e px) || cellN I i x) = true from h2) with h2 | h2
            rotate_left
            · obtain ⟨l1, l2, l3⟩ := G.cellV h2
              exact st_asg hi G.nd l1 (.inr l2) (.inl l3) (swaps_cell l2) (E_sound a G.toGood tk h1).1
            have h2 := Bool.and_eq_true_iff.mp h2
            obtain ⟨l1, l2⟩ := G.lclV h2.1
            cases e with
            | ListComp elt' gs sc pos =>
              have h3 := Bool.and_eq_true_iff.mp (show ((px.line == pos.line) && !(sc.names.any fun (n, k) => n == x && (k == .local || k == .cell))) = true from h2.2)
              cases a with
              | comp elt vs tg it ifs =>
                rcases gs with _ | ⟨⟨tg', it', ifs', asy⟩, _ | ⟨g2, r⟩⟩
                · exact nomatch (show false = true from h1)
                · have h : (decide (asy = 0) && trI L I it tg' it' && blkC I.N I.scope sc (ownOf I.N sc) && decide ((ownOf I.N sc).map (·.2) = vs) && tgIn vs tg && trTg ⟨I.N, sc.names, I.P⟩ tg tg' &&
                    trE L ⟨I.N, sc.names, I.P⟩ elt elt' && trTs L ⟨I.N, sc.names, I.P⟩ ifs ifs' && noSet it') = true := h1
                  simp only [Bool.and_eq_true, decide_eq_true_eq] at h
                  obtain ⟨⟨⟨⟨⟨⟨⟨⟨rfl, g1⟩, g2⟩, rfl⟩, g4⟩, g5⟩, g6⟩, g7⟩, g8⟩ := h
                  have bk := G.blkOk g2
                  exact st_asgLc hi G.calm G.nd l1 l2 (sw_true G.knd l2 h3.1 (by simpa using h3.2)) (I_sound it G.toGood tk g1) bk g4
                    (fun s H C' cl' fp => tg_sound (G.blk bk.kind s H C' cl' fp) g5)
                    (fun s H C' cl' fp => Ts_sound ifs (G.blk bk.kind s H C' cl' fp) takes0 g7)
                    (fun s H C' cl' fp => (E_sound elt (G.blk bk.kind s H C' cl' fp) takes0 g6).1) g8
                · exact nomatch (show false = true from h1)
              | _ => exact nomatch (show false = true from h1)
            | _ => exact nomatch hl
        | _ => exact nomatch (Bool.and_eq_true_iff.mp (show (!I.P.contains i && false) = true from h)).2
      · cases t <;> exact nomatch (Bool.and_eq_true_iff.mp (show (!I.P.contains i && false) = true from h)).2
    | _ => exact nomatch (Bool.and_eq_true_iff.mp (show (!I.P.contains i && false) = true from h)).2
  | .asgT is a, I, X, W, F, s, G, tk, hP, h => by
    unfold trS at h
    obtain ⟨h0, h⟩ := Bool.and_eq_true_iff.mp h
    split at h
    · simp only [Bool.and_eq_true] at h
      obtain ⟨⟨⟨h1, h2⟩, h3⟩, h4⟩ := h
      exact st_asgT (by rw [hP]; exact notPs h0) (tg_sound (xt := .tup is) G.toGood h1) (E_sound a G.toGood tk h2).1 (sole_of h3) (swapped_none h4)
    · exact nomatch h
  | .par i j oi oj a b, I, X, W, F, s, G, tk, hP, h => by
    unfold trS at h
    obtain ⟨h0, h⟩ := Bool.and_eq_true_iff.mp h
    obtain ⟨h01, h02⟩ := Bool.and_eq_true_iff.mp h0
    split at h
    · split at h
      · simp only [Bool.and_eq_true] at h
        obtain ⟨⟨⟨⟨h1, h2⟩, h3⟩, h4⟩, h5⟩ := h
        rcases Bool.or_eq_true_iff.mp h1 with h1 | h1
        case inr =>
          simp only [Bool.and_eq_true] at h1
          obtain ⟨⟨g1, g2⟩, g3⟩ := h1
          have hh := g1
          unfold parC at hh
          have hij := of_decide_eq_true (Bool.and_eq_true_iff.mp hh).1
          refine st_parC (by rw [hP]; exact notP h01) (by rw [hP]; exact notP h02) hij (tg_sound (xt := .tup [i, j]) G.toGood ?_) h4 h5 (E_sound a G.toGood tk h2).1 (E_sound b G.toGood tk h3).1 (swapped_parC G.toGood g1 h4 h5)
          exact Bool.and_eq_true_iff.mpr ⟨g2, Bool.and_eq_true_iff.mpr ⟨g3, rfl⟩⟩
        have hh := h1
        unfold parOk at hh
        simp only [Bool.and_eq_true, decide_eq_true_eq] at hh
        obtain ⟨⟨⟨⟨⟨⟨g1, g2⟩, g3⟩, _⟩, _⟩, _⟩, _⟩ := hh
        obtain ⟨l1, l2⟩ := G.lclV g1
        obtain ⟨l3, l4⟩ := G.lclV g2
        exact st_par (by rw [hP]; exact notP h01) (by rw [hP]; exact notP h02) G.calm G.nd l1 l3 g3 l2 l4 h4 h5 (E_sound a G.toGood tk h2).1 (E_sound b G.toGood tk h3).1 (swapped_par G.toGood h1 h4 h5)
      · exact nomatch h
    · exact nomatch h
  | .setI o i a, I, X, W, F, s, G, tk, hP, h => by
    unfold trS at h
    split at h
    · simp only [Bool.and_eq_true] at h
      obtain ⟨⟨⟨⟨h1, h2⟩, h3⟩, h4⟩, h5⟩ := h
      obtain ⟨v1, v2, v3, v4⟩ := G.visV h1
      exact st_setI (pe_var v1 v2 v3 v4) h3 (E_sound a G.toGood tk h4).1 (E_sound i G.toGood tk h2).1 h5 (swapped_none' (fun _ _ _ e => nomatch e) fun _ _ e => nomatch e)
    · exact nomatch h
  | .aug i op a, I, X, W, F, s, G, tk, hP, h => by
    unfold trS at h
    obtain ⟨h0, h⟩ := Bool.and_eq_true_iff.mp h
    split at h
    · simp only [Bool.and_eq_true, decide_eq_true_eq] at h
      obtain ⟨⟨h1, rfl⟩, h2⟩ := h
      obtain ⟨l1, l2, l3⟩ := G.locV h1
      exact st_aug (by rw [hP]; exact notP h0) G.nd l1 l2 l3 (E_sound a G.toGood tk h2).1
    · exact nomatch h
  | .augI o i op a, I, X, W, F, s, G, tk, hP, h => by
    unfold trS at h
    split at h
    · simp only [Bool.and_eq_true, decide_eq_true_eq] at h
      obtain ⟨⟨⟨⟨h1, h2⟩, h3⟩, rfl⟩, h5⟩ := h
      obtain ⟨v1, v2, v3, v4⟩ := G.visV h1
      exact st_augI (pe_var v1 v2 v3 v4) h3 (E_sound a G.toGood tk h5).1 (E_sound i G.toGood tk h2).1
    · exact nomatch h
  | .fldS o f a, I, X, W, F, s, G, tk, hP, h => by
    unfold trS at h
    split at h
    · simp only [Bool.and_eq_true, decide_eq_true_eq] at h
      obtain ⟨⟨⟨⟨h1, rfl⟩, h3⟩, h4⟩, h5⟩ := h
      obtain ⟨v1, v2, v3, v4⟩ := G.visV h1
      exact st_fldS G.gm.cls (G.gm.flds _ (contains_mem h3)) (pe_var v1 v2 v3 v4) h5 (E_sound a G.toGood tk h4).1
    · exact nomatch h
  | .ret a, I, X, W, F, s, G, tk, hP, h => by
    unfold trS at h
    split at h
    · exact st_ret (E_sound a G.toGood tk h).1
    · exact nomatch h
  | .retN, I, X, W, F, s, G, tk, hP, h => by
    unfold trS at h
    split at h
    · exact st_retN
    · exact nomatch h
  | .ife c a b, I, X, W, F, s, G, tk, hP, h => by
    cases s with
    | If c' a' b' p =>
      have h : (trE L I c c' && trSs L I a a' && trSs L I b b') = true := h
      simp only [Bool.and_eq_true] at h
      exact st_if (E_sound c G.toGood tk h.1.1).2 (Ss_sound a G tk hP h.1.2) (Ss_sound b G tk hP h.2)
    | _ => exact nomatch (show false = true from h)
  | .for tg it b, I, X, W, F, s, G, tk, hP, h => by
    unfold trS at h
    obtain ⟨h0, h⟩ := Bool.and_eq_true_iff.mp h
    split at h
    · simp only [Bool.and_eq_true] at h
      obtain ⟨⟨⟨⟨h1, h2⟩, h3⟩, h4⟩, h5⟩ := h
      obtain rfl := empty_nil h1
      exact st_for G.own G.calm (by rw [hP]; exact notPs h0) (I_sound it G.toGood tk h3) (tg_sound G.toGood h2) (Ss_sound b G tk hP h5) h4
    · exact nomatch h
  | .whl c b, I, X, W, F, s, G, tk, hP, h => by
    cases s with
    | While c' b' e p =>
      have h : (e.isEmpty && trE L I c c' && trSs L I b b') = true := h
      simp only [Bool.and_eq_true] at h
      obtain rfl := empty_nil h.1.1
      exact st_while G.own (E_sound c G.toGood tk h.1.2).2 (Ss_sound b G tk hP h.2)
    | _ => exact nomatch (show false = true from h)
  | .brk, I, X, W, F, s, G, tk, hP, h => by
    cases s with
    | Break p => exact st_brk
    | _ => exact nomatch (show false = true from h)
  | .cont, I, X, W, F, s, G, tk, hP, h => by
    cases s with
    | Continue p => exact st_cont
    | _ => exact nomatch (show false = true from h)
  | .pass, I, X, W, F, s, G, tk, hP, h => by
    cases s with
    | Pass p => exact st_pass
    | _ => exact nomatch (show false = true from h)
  | .raise c es, I, X, W, F, s, G, tk, hP, h => by
    cases s with
    | Raise a b p => exact st_raise
    | _ => exact nomatch (show false = true from h)
theorem Ss_sound : ∀ (x : Stms) {I : Inf} {X : Cx} {W : WX} {F : Fx} {s : List Stmt}, GoodS L C Φ cl T k I X → Takes X W → F.P = I.P → trSs L I x s = true → PSs X s (tSs C Φ cl T W F x)
  | .nil, I, X, W, F, s, G, tk, hP, h => by
    obtain rfl := empty_nil (show s.isEmpty = true from h)
    exact ss_nil
  | .cons x xs, I, X, W, F, s, G, tk, hP, h => by
    cases s with
    | nil => exact nomatch (show false = true from h)
    | cons s ss =>
      have h := Bool.and_eq_true_iff.mp (show (trS L I x s && trSs L I xs ss) = true from h)
      exact ss_cons (S_sound x G tk hP h.1) (Ss_sound xs G tk hP h.2)
end
end
end FB

set_option Elab.async false
set_option linter.all false
set_option maxRecDepth 100000
set_option maxHeartbeats 400000
namespace FB
open PySem PySem.Spec PyProof.Rows L2
/-! ### the table of defs -/
structure Ent where
  name : Str
  qual : Str
  st : Stmt
  ps : List Str
  N : List Str
  F : FDef
def Ent.inf (e : Ent) : Inf := ⟨e.N, (defScope e.st).names, rawP e.F.raw⟩
def okEnt (L : Lay) (e : Ent) : Bool := C8.scC e.N e.ps (defScope e.st) && decide (e.F.raw.length = e.ps.length) && decide (e.F.slots = e.N.length) && trSs L e.inf e.F.body (defBody e.st)
inductive Al {α : Type} (P : α → Prop) : List α → Prop
  | nil : Al P []
  | cons {a : α} {l : List α} : P a → Al P l → Al P (a :: l)
theorem Al.mem {α : Type} {P : α → Prop} {l : List α} (h : Al P l) : ∀ a ∈ l, P a := by
  induction h with
  | nil => intro a h; exact nomatch h
  | cons p _ ih =>
    intro a h
    rcases List.mem_cons.mp h with e | h
    · rw [e]; exact p
    · exact ih a h
structure EntOk (K : PySem.W.Frag) (e : Ent) (a : Addr) : Prop where
  ex : ∃ fd, L2.Fun K e.name e.qual e.st a fd ∧ Binds K fd e.ps []
inductive EntsOk (K : PySem.W.Frag) : List (Option Ent) → List Addr → Prop
  | nil : EntsOk K [] []
  | skip {a : Addr} {es : List (Option Ent)} {as : List Addr} : EntsOk K es as → EntsOk K (none :: es) (a :: as)
  | cons {e : Ent} {a : Addr} {es : List (Option Ent)} {as : List Addr} : EntOk K e a → EntsOk K es as → EntsOk K (some e :: es) (a :: as)
theorem EntsOk.get {K : PySem.W.Frag} : ∀ {es : List (Option Ent)} {as : List Addr}, EntsOk K es as → ∀ {f : Nat} {e : Ent}, es[f]? = some (some e) → EntOk K e (as.getD f 0)
  | _, _, .nil, f, e, h => by simp at h
  | _, _, .skip _, 0, e, h => by cases h
  | _, _, .skip r, f + 1, e, h => by simpa using EntsOk.get r (f := f) (e := e) (by simpa using h)
  | _, _, .cons p _, 0, e, h => by cases h; exact p
  | _, _, .cons _ r, f + 1, e, h => by simpa using EntsOk.get r (f := f) (e := e) (by simpa using h)
structure CfgOk (C : Cfg) (tab : Nat → Option FDef) (es : List (Option Ent)) : Prop where
  raws : ∀ f e, es[f]? = some (some e) → C.raws f = some e.F.raw
  tab : ∀ f e, es[f]? = some (some e) → tab f = some e.F
def hasE (es : List (Option Ent)) (f : Nat) : Bool := match es[f]? with
  | some (some _) => true
  | _ => false
theorem hasE_of {es : List (Option Ent)} {f : Nat} (h : hasE es f = true) : ∃ e, es[f]? = some (some e) := by
  unfold hasE at h
  split at h
  · rename_i e q; exact ⟨e, q⟩
  · exact nomatch h
def okEs (L : Lay) (es : List (Option Ent)) : Bool := es.all fun o => match o with
  | some e => okEnt L e
  | none => true
/-- what the module gives, before any call is looked at -/
structure SM (L : Lay) (C : Cfg) (tab : Nat → Option FDef) (cl : Nat → Addr) (es : List (Option Ent)) (as : List Addr) (K : PySem.W.Frag) (mg : Str → Option Value) : Prop where
  cfg : CfgOk C tab es
  ents : EntsOk K es as
  chk : okEs L es = true
  blt : Al (fun x => mg x = none) bltNames
  con : Al (fun p : Str × Int => ∃ u, mg p.1 = some u ∧ RelV (.int p.2) u) L.cons
  fns : Al (fun p : Nat × Str => mg p.2 = some (.ref (as.getD p.1 0)) ∧ hasE es p.1 = true) L.fns
  mts : Al (fun p : Nat × Str => Meth K (cl 0) p.2 (as.getD p.1 0) ∧ hasE es p.1 = true) L.mts
  mks : Al (fun p : Nat × Str => mg p.2 = some (.ref (cl p.1)) ∧ ∃ f, C.init p.1 = some f ∧ hasE es f = true ∧ Mk K (cl p.1) (as.getD f 0)) L.mks
  cls : Cls K (cl 0)
  flds : Al (NoAttr K (cl 0)) L.flds
  isi : IsiOk K cl
  clsT : Al (fun p : Nat × Str => mg p.2 = some (.ref (cl p.1))) L.clsT
  len : ∀ c f, C.lenF c = some f → hasE es f = true ∧ C.raws f = some [false] ∧ PySem.W.findIn K (.ref (cl c)) "__len__" = some (some (.ref (as.getD f 0))) ∧ PySem.W.isFn K (.ref (as.getD f 0)) = true
section
variable {L : Lay} {C : Cfg} {cl : Nat → Addr} {T : TabL} {tab : Nat → Option FDef} {es : List (Option Ent)} {as : List Addr} {prog : Program} {w : World} {K : PySem.W.Frag} {mg : Str → Option Value} {base : Heap}
theorem fnAt_all (S : SM L C tab cl es as K mg) {Φ : Oracle} {k : Nat} (h : ∀ f e fd, es[f]? = some (some e) → L2.Fun K e.name e.qual e.st (as.getD f 0) fd → FnOk prog w K mg base (L2.CX prog w) k (as.getD f 0) fd e.ps (spOf C cl T e.F.raw (Φ f))) {f : Nat} (hf : hasE es f = true) :
    ∃ fd ps ms, FnAt C Φ cl T prog w K mg base k f (as.getD f 0) fd ps ms := by
  obtain ⟨e, he⟩ := hasE_of hf
  obtain ⟨fd, F, b⟩ := (S.ents.get he).ex
  exact ⟨fd, _, e.F.raw, ⟨S.cfg.raws f e he, F.kp, b, h f _ fd he F⟩⟩
theorem gm_of (S : SM L C tab cl es as K mg) {Φ : Oracle} {k : Nat} (h : ∀ f e fd, es[f]? = some (some e) → L2.Fun K e.name e.qual e.st (as.getD f 0) fd → FnOk prog w K mg base (L2.CX prog w) k (as.getD f 0) fd e.ps (spOf C cl T e.F.raw (Φ f))) : GM L C Φ cl T k prog w K mg base where
  blt := S.blt.mem
  con := S.con.mem
  fns := fun p hp => by
    obtain ⟨h1, h2⟩ := S.fns.mem p hp
    obtain ⟨fd, ps, ms, F⟩ := fnAt_all (T := T) S h h2
    exact ⟨_, fd, ps, ms, h1, F⟩
  mts := fun p hp => by
    obtain ⟨h1, h2⟩ := S.mts.mem p hp
    obtain ⟨fd, ps, ms, F⟩ := fnAt_all (T := T) S h h2
    exact ⟨_, fd, ps, ms, h1, F⟩
  mks := fun p hp => by
    obtain ⟨h1, f, h2, h3, h4⟩ := S.mks.mem p hp
    obtain ⟨fd, ps, ms, F⟩ := fnAt_all (T := T) S h h3
    exact ⟨h1, f, _, fd, ps, ms, h2, h4, F⟩
  cls := S.cls
  flds := S.flds.mem
  isi := S.isi
  clsT := S.clsT.mem
  len := fun c f hc => by
    obtain ⟨h1, h2, h3, h4⟩ := S.len c f hc
    obtain ⟨fd, ps, ms, F⟩ := fnAt_all (T := T) S h h1
    have e : ms = [false] := by have := F.raws; rw [h2] at this; exact (Option.some.inj this).symm
    subst e
    exact ⟨_, fd, ps, h3, h4, F⟩
/-- every def keeps its promise, by the depth of calls -/
theorem tab_sound (S : SM L C tab cl es as K mg) : ∀ (n f : Nat) (e : Ent) (fd : FuncData), es[f]? = some (some e) → L2.Fun K e.name e.qual e.st (as.getD f 0) fd → FnOk prog w K mg base (L2.CX prog w) (2 * n) (as.getD f 0) fd e.ps (spOf C cl T e.F.raw (Phi C tab n f))
  | 0, f, e, fd, he, F => ⟨fun vs H Q E h => by
      obtain ⟨_, _, _, _, _, _, k⟩ := h
      exact k.elim, fun A outer s H args us vs Q E _ _ _ _ h => by
      obtain ⟨_, _, _, _, _, _, k⟩ := h
      exact k.elim⟩
  | n + 1, f, e, fd, he, F => by
    have ih := gm_of (prog := prog) (w := w) (base := base) (T := T) S (tab_sound S n)
    have hk : okEnt L e = true := List.all_eq_true.mp S.chk (some e) (List.mem_of_getElem? he)
    unfold okEnt at hk
    simp only [Bool.and_eq_true, decide_eq_true_eq] at hk
    obtain ⟨⟨⟨h1, h2⟩, h3⟩, h4⟩ := hk
    have S1 : FnScope e.N e.ps (defScope e.st) := C8.fnScope_by h1
    obtain ⟨oc, od, kV, doc, pm, an, cdv, ct, osl, rfl, lk, hcd⟩ := F.ex
    have eΦ : Phi C tab (n + 1) f = fun args => runFn C (Phi C tab n) e.F args := by
      funext args
      show (match tab f with | some F => _ | none => _) = _
      rw [S.cfg.tab f e he]
    rw [eΦ]
    refine fn_of lk hcd S1 (fun vs H Q E h => (sp_len h).trans h2) (fun A outer s H vs Q E hr hsp => ?_)
    obtain ⟨Fx, hP, hrun⟩ := body_run (N := e.N) h3 hsp
    have good : GoodS L C (Phi C tab n) cl T (2 * n) e.inf (cxOf (L2.CX prog w) prog w K mg base e.N e.qual (defScope e.st) (as.getD f 0) cdv A outer s H E) := by
      refine ⟨⟨rfl, S1.nd, S1.kind, fun x h => h, fun x h => ⟨h, rfl⟩, fun x h => .inr h, fun x h => h, rfl, hr, ih⟩, passes_of rfl⟩
    exact ⟨_, Ss_sound e.F.body good (takes_of rfl rfl rfl rfl) hP h4, hrun⟩
end

theorem kit_me {K : PySem.W.Frag} {a : Addr} : PySem.W.kitOne K (.ref a) (.ref a) = some true := by
  unfold PySem.W.kitOne
  rw [if_pos (by simp)]
theorem kit_sub {K : PySem.W.Frag} {a : Addr} {n : String} {b : Bool} (h : PySem.W.subIn K (.ref a) (.type n) = some b) (hm : PySem.W.kitMeta n = true) : PySem.W.kitOne K (.ref a) (.type n) = some b := by
  unfold PySem.W.kitOne PySem.W.kitCls
  have e : (Value.ref a == Value.type n) = false := by simp
  rw [e]
  show (if PySem.W.kitMeta n = true then PySem.W.subIn K (.ref a) (.type n) else none) = some b
  rw [if_pos hm]
  exact h
/-! ### the law -/
def noLists (K : PySem.W.Frag) : Bool := K.all fun p => match p.2.cls with
  | .type n => n != "list"
  | _ => true
theorem noLists_sq {K : PySem.W.Frag} {H : Hp} {a : Addr} {xs : List V} (h : noLists K = true) (q : SqL K H a xs) : Rd H a (.lst xs) := by
  rcases q with q | ⟨o, its, n, e, c, _⟩
  · exact q
  · exfalso
    have : ∀ (K : PySem.W.Frag), noLists K = true → K.lookup a = some o → False := fun K => by
      induction K with
      | nil => intro _ h; simp at h
      | cons p r ih =>
        intro h1 h2
        obtain ⟨b, ob⟩ := p
        obtain ⟨h3, h4⟩ := Bool.and_eq_true_iff.mp (show ((match ob.cls with | .type n => n != "list" | _ => true) && noLists r) = true from h1)
        cases hb : a == b with
        | true =>
          simp only [List.lookup_cons, hb] at h2
          cases h2
          rw [c] at h3
          exact absurd h3 (by decide)
        | false =>
          simp only [List.lookup_cons, hb] at h2
          exact ih h4 h2
    exact this K h e
def spLaw (K : PySem.W.Frag) : Sp := fun vs H Q _ => ∃ (a : Addr) (ns : List Int), vs = [.ref a] ∧ SqL K H a (ns.map V.int) ∧ ns.length ≤ 63 ∧ ∀ H', Q (.bl true) H'
theorem law_ok {L : Lay} {C : Cfg} {cl : Nat → Addr} {tab : Nat → Option FDef} {es : List (Option Ent)} {as : List Addr} {prog : Program} {w : World} {K : PySem.W.Frag} {mg : Str → Option Value} {base : Heap} (S : SM L C tab cl es as K mg) (nl : noLists K = true) {n f : Nat} {e : Ent} {fd : FuncData} {x : Str}
    (he : es[f]? = some (some e)) (F : L2.Fun K e.name e.qual e.st (as.getD f 0) fd) (hr : e.F.raw = [false]) (hx : e.ps = [x]) (hlaw : ∀ ns : List Int, ns.length ≤ 63 → Phi C tab n f [.lst (ns.map .int)] = .ok false (.bl true) []) :
    FnOk prog w K mg base (L2.CX prog w) (2 * n) (as.getD f 0) fd [x] (spLaw K) := by
  have h := tab_sound (T := []) (prog := prog) (w := w) (base := base) S n f e fd he F
  rw [hx] at h
  refine h.imp fun vs H Q E ⟨a, ns, ev, hs, hl, q⟩ => ?_
  subst ev
  refine ⟨fun _ => False, [.lst (ns.map .int)], fun a z => z.elim, (fun p hp => nomatch hp), ?_, ?_, ?_⟩
  · rw [hr]
    exact .plain (.lst (fun z => z) (noLists_sq nl hs) (Reps.ofInts ns)) .nil
  · rw [hr]; exact .nil
  · rw [hlaw ns hl]
    intro u H' Z' bk an
    cases an
    exact q H'
theorem walk {l : PySem.W.OpenLaw} {q : Program} {loose : List Str} {XP : (Str → Option Value) → Heap → Prop} {YP : World → Heap → Prop} {d : DefRec} {K : Params → PySem.W.Frag} {n : Nat} {x : Str} (hn : l.most = some 63) (hdf : d.params.defaults = []) (hroom : Room (2 * n) callerA)
    (hY : ∀ (w : World) (h : Heap), YP w h → (K w.params).In h)
    (F : ∀ (w : World) (mg : Str → Option Value) (fa : Addr) (h : Heap), (K w.params).In h → h.Ns mainGlobals mg → mg d.name = some (.ref fa) →
      ∃ fd : FuncData, (∀ (s : Shared) (u : Value), BindsTo s fd ⟨[u], []⟩ [(x, u)]) ∧ ∀ base : Heap, (K w.params).In base → base.Ns mainGlobals mg → FnOk l.prog w (K w.params) mg base (L2.CX l.prog w) (2 * n) fa fd [x] (spLaw (K w.params))) :
    PySem.W.WalkO q loose XP YP l.row.toRowW d [] (fun f vs => PySem.call f vs) :=
  L2.walk_of (n := 63) (k := 2 * n) (CX := fun w => L2.CX l.prog w) (sp := fun w => spLaw (K w.params)) hn (by decide) hdf hroom hY F (fun _ _ a ns hl _ hS => ⟨a, ns, rfl, hS, hl, fun _ => rfl⟩) fun _ _ _ _ _ ⟨_, _, _, _, _, _, _, _, _, _, _, _, z⟩ => z
end FB

set_option Elab.async false
set_option linter.all false
set_option maxRecDepth 100000
namespace FB
open PySem PySem.Spec PyProof.Rows L2
/-- is_int(value): slots 0=value -/
def F0 : FDef := ⟨[false], 1, (.cons (.ret (.and (.isi (.var 0) .int) (.not (.isi (.var 0) .bool)))) .nil)⟩
/-- is_from(value, low, high): slots 0=value 1=low 2=high -/
def F1 : FDef := ⟨[false, false, false], 3, (.cons (.ret (.and (.call 0 false (.cons (.var 0) .nil)) (.chain .LtE .LtE (.var 1) (.var 0) (.var 2)))) .nil)⟩
/-- Setup.__init__(self, parents, capacities, homes): slots 0=self 1=parents 2=capacities 3=homes -/
def F2 : FDef := ⟨[true, false, false, false], 4, (.cons (.expr (.call 12 false (.cons (.var 1) .nil))) (.cons (.expr (.call 13 false (.cons (.lit (.str "capacities")) (.cons (.var 2) (.cons (.blt .len (.cons (.var 1) .nil)) (.cons (.blt .len (.cons (.var 1) .nil)) (.cons (.glb "MAX_SIZE" 60) .nil))))))) (.cons (.expr (.call 13 false (.cons (.lit (.str "homes")) (.cons (.var 3) (.cons (.lit (.int 0)) (.cons (.glb "MAX_SIZE" 60) (.cons (.bin .Sub (.blt .len (.cons (.var 1) .nil)) (.lit (.int 1))) .nil))))))) (.cons (.fldS 0 "parents" (.blt .tuple (.cons (.var 1) .nil))) (.cons (.fldS 0 "capacities" (.blt .tuple (.cons (.var 2) .nil))) (.cons (.fldS 0 "homes" (.blt .tuple (.cons (.var 3) .nil))) .nil))))))⟩
/-- Setup.__eq__(self, other): slots 0=self 1=other 2=mine -/
def F3 : FDef := ⟨[false, false], 3, (.cons (.ife (.not (.isi (.var 1) (.cls 0))) (.cons (.ret (.lit (.bl false))) .nil) .nil) (.cons (.asg false 2 (.tupD (.cons (.fld (.var 0) "parents") (.cons (.fld (.var 0) "capacities") (.cons (.fld (.var 0) "homes") .nil))))) (.cons (.ret (.cmp .Eq (.var 2) (.tupD (.cons (.fld (.var 1) "parents") (.cons (.fld (.var 1) "capacities") (.cons (.fld (.var 1) "homes") .nil)))))) .nil)))⟩
/-- Setup.size(self): slots 0=self -/
def F4 : FDef := ⟨[false], 1, (.cons (.ret (.blt .len (.cons (.fld (.var 0) "parents") .nil))) .nil)⟩
/-- Setup.__len__(self): slots 0=self -/
def F5 : FDef := ⟨[false], 1, (.cons (.ret (.blt .len (.cons (.fld (.var 0) "homes") .nil))) .nil)⟩
/-- Setup.parent(self, pool): slots 0=self 1=pool -/
def F6 : FDef := ⟨[false, false], 2, (.cons (.expr (.meth 10 "check_pool" (.var 0) (.cons (.var 1) .nil))) (.cons (.ret (.idx (.fld (.var 0) "parents") (.var 1))) .nil))⟩
/-- Setup.capacity(self, pool): slots 0=self 1=pool -/
def F7 : FDef := ⟨[false, false], 2, (.cons (.expr (.meth 10 "check_pool" (.var 0) (.cons (.var 1) .nil))) (.cons (.ret (.idx (.fld (.var 0) "capacities") (.var 1))) .nil))⟩
/-- Setup.home(self, request): slots 0=self 1=request -/
def F8 : FDef := ⟨[false, false], 2, (.cons (.expr (.meth 11 "check_request" (.var 0) (.cons (.var 1) .nil))) (.cons (.ret (.idx (.fld (.var 0) "homes") (.var 1))) .nil))⟩
/-- Setup.way(self, pool): slots 0=self 1=pool 2=found -/
def F9 : FDef := ⟨[false, false], 3, (.cons (.expr (.meth 10 "check_pool" (.var 0) (.cons (.var 1) .nil))) (.cons (.asg true 2 (.lstD .nil)) (.cons (.whl (.cmp .IsNot (.var 1) (.lit .non)) (.cons (.expr (.mth .append (.var 2) (.cons (.var 1) .nil))) (.cons (.asg false 1 (.idx (.fld (.var 0) "parents") (.var 1))) .nil))) (.cons (.ret (.var 2)) .nil))))⟩
/-- Setup.check_pool(self, pool): slots 0=self 1=pool -/
def F10 : FDef := ⟨[false, false], 2, (.cons (.ife (.not (.call 1 false (.cons (.var 1) (.cons (.lit (.int 0)) (.cons (.bin .Sub (.blt .len (.cons (.fld (.var 0) "parents") .nil)) (.lit (.int 1))) .nil))))) (.cons (.raise 0 .nil) .nil) .nil) .nil)⟩
/-- Setup.check_request(self, request): slots 0=self 1=request -/
def F11 : FDef := ⟨[false, false], 2, (.cons (.ife (.not (.call 1 false (.cons (.var 1) (.cons (.lit (.int 0)) (.cons (.bin .Sub (.blt .len (.cons (.fld (.var 0) "homes") .nil)) (.lit (.int 1))) .nil))))) (.cons (.raise 0 .nil) .nil) .nil) .nil)⟩
/-- check_parents(parents): slots 0=parents 1=index 2=parent -/
def F12 : FDef := ⟨[false], 3, (.cons (.ife (.or (.not (.isi (.var 0) .list)) (.not (.chain .LtE .LtE (.lit (.int 1)) (.blt .len (.cons (.var 0) .nil)) (.glb "MAX_SIZE" 60)))) (.cons (.raise 0 .nil) .nil) .nil) (.cons (.for (.tup [1, 2]) (.enum (.var 0)) (.cons (.ife (.or (.and (.cmp .Eq (.var 1) (.lit (.int 0))) (.cmp .IsNot (.var 2) (.lit .non))) (.and (.cmp .Gt (.var 1) (.lit (.int 0))) (.not (.call 1 false (.cons (.var 2) (.cons (.lit (.int 0)) (.cons (.bin .Sub (.var 1) (.lit (.int 1))) .nil))))))) (.cons (.raise 0 .nil) .nil) .nil) .nil)) .nil))⟩
/-- check_items(part, values, least, most, high): slots 0=part 1=values 2=least 3=most 4=high 5=index 6=value -/
def F13 : FDef := ⟨[false, false, false, false, false], 7, (.cons (.ife (.or (.not (.isi (.var 1) .list)) (.not (.chain .LtE .LtE (.var 2) (.blt .len (.cons (.var 1) .nil)) (.var 3)))) (.cons (.raise 0 .nil) .nil) .nil) (.cons (.for (.tup [5, 6]) (.enum (.var 1)) (.cons (.ife (.not (.call 1 false (.cons (.var 6) (.cons (.lit (.int 0)) (.cons (.var 4) .nil))))) (.cons (.raise 0 .nil) .nil) .nil) .nil)) .nil))⟩
/-- check_placement(setup, placement): slots 0=setup 1=placement 2=used 3=index 4=pool -/
def F14 : FDef := ⟨[false, false], 5, (.cons (.ife (.or (.not (.isi (.var 1) .tuple)) (.cmp .NotEq (.blt .len (.cons (.var 1) .nil)) (.blt .len (.cons (.var 0) .nil)))) (.cons (.raise 0 .nil) .nil) .nil) (.cons (.asg true 2 (.bin .Mult (.lstD (.cons (.lit (.int 0)) .nil)) (.meth 4 "size" (.var 0) .nil))) (.cons (.for (.tup [3, 4]) (.enum (.var 1)) (.cons (.ife (.cmp .IsNot (.var 4) (.lit .non)) (.cons (.ife (.or (.not (.call 0 false (.cons (.var 4) .nil))) (.cmp .NotIn (.var 4) (.meth 9 "way" (.var 0) (.cons (.idx (.fld (.var 0) "homes") (.var 3)) .nil)))) (.cons (.raise 0 .nil) .nil) .nil) (.cons (.augI 2 (.var 4) .Add (.lit (.int 1))) (.cons (.ife (.cmp .Gt (.idx (.var 2) (.var 4)) (.idx (.fld (.var 0) "capacities") (.var 4))) (.cons (.raise 0 .nil) .nil) .nil) .nil))) .nil) .nil)) .nil)))⟩
/-- room_left(setup, placement): slots 0=setup 1=placement -/
def F15 : FDef := ⟨[false, false], 2, (.cons (.expr (.call 14 false (.cons (.var 0) (.cons (.var 1) .nil)))) (.cons (.ret (.call 16 false (.cons (.var 0) (.cons (.var 1) .nil)))) .nil))⟩
/-- room_of(setup, placement): slots 0=setup 1=placement 2=found 3=pool -/
def F16 : FDef := ⟨[false, false], 4, (.cons (.asg true 2 (.blt .list (.cons (.fld (.var 0) "capacities") .nil))) (.cons (.for (.name 3) (.val (.var 1)) (.cons (.ife (.cmp .IsNot (.var 3) (.lit .non)) (.cons (.augI 2 (.var 3) .Sub (.lit (.int 1))) .nil) .nil) .nil)) (.cons (.ret (.var 2)) .nil)))⟩
/-- empty(setup): slots 0=setup -/
def F17 : FDef := ⟨[false], 1, (.cons (.ret (.bin .Mult (.tupD (.cons (.lit .non) .nil)) (.blt .len (.cons (.var 0) .nil)))) .nil)⟩
/-- with_pool(placement, request, pool): slots 0=placement 1=request 2=pool -/
def F18 : FDef := ⟨[false, false, false], 3, (.cons (.ret (.bin .Add (.bin .Add (.slc (.var 0) .none (.some (.var 1))) (.tupD (.cons (.var 2) .nil))) (.slc (.var 0) (.some (.bin .Add (.var 1) (.lit (.int 1)))) .none))) .nil)⟩
/-- first_room(setup, room, request): slots 0=setup 1=room 2=request 3=pool -/
def F19 : FDef := ⟨[false, false, false], 4, (.cons (.for (.name 3) (.val (.meth 9 "way" (.var 0) (.cons (.idx (.fld (.var 0) "homes") (.var 2)) .nil))) (.cons (.ife (.cmp .Gt (.idx (.var 1) (.var 3)) (.lit (.int 0))) (.cons (.ret (.var 3)) .nil) .nil) .nil)) (.cons (.ret (.lit .non)) .nil))⟩
/-- begun(setup, placement, request): slots 0=setup 1=placement 2=request 3=room -/
def F20 : FDef := ⟨[false, false, false], 4, (.cons (.asg false 3 (.call 15 false (.cons (.var 0) (.cons (.var 1) .nil)))) (.cons (.expr (.meth 11 "check_request" (.var 0) (.cons (.var 2) .nil))) (.cons (.ife (.cmp .IsNot (.idx (.var 1) (.var 2)) (.lit .non)) (.cons (.raise 0 .nil) .nil) .nil) (.cons (.ret (.call 18 false (.cons (.var 1) (.cons (.var 2) (.cons (.call 19 false (.cons (.var 0) (.cons (.var 3) (.cons (.var 2) .nil)))) .nil))))) .nil))))⟩
/-- ended(setup, placement, request): slots 0=setup 1=placement 2=request -/
def F21 : FDef := ⟨[false, false, false], 3, (.cons (.expr (.call 14 false (.cons (.var 0) (.cons (.var 1) .nil)))) (.cons (.expr (.meth 11 "check_request" (.var 0) (.cons (.var 2) .nil))) (.cons (.ife (.cmp .Is (.idx (.var 1) (.var 2)) (.lit .non)) (.cons (.raise 0 .nil) .nil) .nil) (.cons (.ret (.call 18 false (.cons (.var 1) (.cons (.var 2) (.cons (.lit .non) .nil))))) .nil))))⟩
/-- is_step(setup, placement, step): slots 0=setup 1=placement 2=step -/
def F22 : FDef := ⟨[false, false, false], 3, (.cons (.ife (.or (.not (.isi (.var 2) .tuple)) (.or (.cmp .NotEq (.blt .len (.cons (.var 2) .nil)) (.lit (.int 2))) (.not (.isi (.idx (.var 2) (.lit (.int 0))) .str)))) (.cons (.ret (.lit (.bl false))) .nil) .nil) (.cons (.ife (.or (.cmp .NotIn (.idx (.var 2) (.lit (.int 0))) (.tupD (.cons (.lit (.str "begin")) (.cons (.lit (.str "end")) .nil)))) (.not (.call 1 false (.cons (.idx (.var 2) (.lit (.int 1))) (.cons (.lit (.int 0)) (.cons (.bin .Sub (.blt .len (.cons (.var 0) .nil)) (.lit (.int 1))) .nil)))))) (.cons (.ret (.lit (.bl false))) .nil) .nil) (.cons (.ret (.cmp .Eq (.cmp .Is (.idx (.var 1) (.idx (.var 2) (.lit (.int 1)))) (.lit .non)) (.cmp .Eq (.idx (.var 2) (.lit (.int 0))) (.lit (.str "begin"))))) .nil)))⟩
/-- played(setup, placement, steps): slots 0=setup 1=placement 2=steps 3=room 4=index 5=step -/
def F23 : FDef := ⟨[false, false, false], 6, (.cons (.asg true 3 (.call 15 false (.cons (.var 0) (.cons (.var 1) .nil)))) (.cons (.ife (.not (.isi (.var 2) .list)) (.cons (.raise 0 .nil) .nil) .nil) (.cons (.for (.tup [4, 5]) (.enum (.var 2)) (.cons (.ife (.not (.call 22 false (.cons (.var 0) (.cons (.var 1) (.cons (.var 5) .nil))))) (.cons (.raise 0 .nil) .nil) .nil) (.cons (.asg false 1 (.call 24 false (.cons (.var 0) (.cons (.var 1) (.cons (.var 3) (.cons (.var 5) .nil)))))) .nil))) (.cons (.ret (.var 1)) .nil))))⟩
/-- after_step(setup, placement, room, step): slots 0=setup 1=placement 2=room 3=step 4=word 5=request 6=pool -/
def F24 : FDef := ⟨[false, false, true, false], 7, (.cons (.asgT [4, 5] (.var 3)) (.cons (.ife (.cmp .Eq (.var 4) (.lit (.str "end"))) (.cons (.augI 2 (.idx (.var 1) (.var 5)) .Add (.lit (.int 1))) (.cons (.ret (.call 18 false (.cons (.var 1) (.cons (.var 5) (.cons (.lit .non) .nil))))) .nil)) .nil) (.cons (.asg false 6 (.call 19 true (.cons (.var 0) (.cons (.var 2) (.cons (.var 5) .nil))))) (.cons (.ife (.cmp .IsNot (.var 6) (.lit .non)) (.cons (.augI 2 (.var 6) .Sub (.lit (.int 1))) .nil) .nil) (.cons (.ret (.call 18 false (.cons (.var 1) (.cons (.var 5) (.cons (.var 6) .nil))))) .nil)))))⟩
/-- loads(setup, placement): slots 0=setup 1=placement 2=room 3=capacity 4=left -/
def F25 : FDef := ⟨[false, false], 5, (.cons (.asg false 2 (.call 15 false (.cons (.var 0) (.cons (.var 1) .nil)))) (.cons (.ret (.comp (.bin .Sub (.var 3) (.var 4)) [3, 4] (.tup [3, 4]) (.zip (.fld (.var 0) "capacities") (.var 2)) .nil)) .nil))⟩
/-- active(placement): slots 0=placement 1=request 2=pool -/
def F26 : FDef := ⟨[false], 3, (.cons (.ret (.comp (.var 1) [1, 2] (.tup [1, 2]) (.enum (.var 0)) (.cons (.cmp .IsNot (.var 2) (.lit .non)) .nil))) .nil)⟩
/-- check_requests(setup, placement, requests): slots 0=setup 1=placement 2=requests 3=index 4=request -/
def F27 : FDef := ⟨[false, false, false], 5, (.cons (.ife (.not (.isi (.var 2) .list)) (.cons (.raise 0 .nil) .nil) .nil) (.cons (.for (.tup [3, 4]) (.enum (.var 2)) (.cons (.ife (.or (.not (.call 1 false (.cons (.var 4) (.cons (.lit (.int 0)) (.cons (.bin .Sub (.blt .len (.cons (.var 0) .nil)) (.lit (.int 1))) .nil))))) (.or (.cmp .In (.var 4) (.slc (.var 2) .none (.some (.var 3)))) (.cmp .IsNot (.idx (.var 1) (.var 4)) (.lit .non)))) (.cons (.raise 0 .nil) .nil) .nil) .nil)) .nil))⟩
/-- fill(setup, placement, requests): slots 0=setup 1=placement 2=requests 3=room 4=request 5=pool -/
def F28 : FDef := ⟨[false, false, false], 6, (.cons (.asg true 3 (.call 15 false (.cons (.var 0) (.cons (.var 1) .nil)))) (.cons (.expr (.call 27 false (.cons (.var 0) (.cons (.var 1) (.cons (.var 2) .nil))))) (.cons (.for (.name 4) (.val (.var 2)) (.cons (.asg false 5 (.call 19 true (.cons (.var 0) (.cons (.var 3) (.cons (.var 4) .nil))))) (.cons (.ife (.cmp .IsNot (.var 5) (.lit .non)) (.cons (.augI 3 (.var 5) .Sub (.lit (.int 1))) .nil) .nil) (.cons (.asg false 1 (.call 18 false (.cons (.var 1) (.cons (.var 4) (.cons (.var 5) .nil))))) .nil)))) (.cons (.ret (.var 1)) .nil))))⟩
/-- overflows(setup, placement, requests): slots 0=setup 1=placement 2=requests 3=room 4=found 5=request 6=pool -/
def F29 : FDef := ⟨[false, false, false], 7, (.cons (.asg false 3 (.call 15 false (.cons (.var 0) (.cons (.var 1) .nil)))) (.cons (.expr (.call 27 false (.cons (.var 0) (.cons (.var 1) (.cons (.var 2) .nil))))) (.cons (.asg true 4 (.bin .Mult (.lstD (.cons (.lit (.int 0)) .nil)) (.meth 4 "size" (.var 0) .nil))) (.cons (.for (.name 5) (.val (.var 2)) (.cons (.augI 4 (.idx (.fld (.var 0) "homes") (.var 5)) .Add (.lit (.int 1))) .nil)) (.cons (.for (.name 6) (.rng3 (.bin .Sub (.meth 4 "size" (.var 0) .nil) (.lit (.int 1))) (.neg (.lit (.int 1))) (.neg (.lit (.int 1)))) (.cons (.setI 4 (.var 6) (.blt .max2 (.cons (.lit (.int 0)) (.cons (.bin .Sub (.idx (.var 4) (.var 6)) (.idx (.var 3) (.var 6))) .nil)))) (.cons (.ife (.cmp .Gt (.var 6) (.lit (.int 0))) (.cons (.augI 4 (.idx (.fld (.var 0) "parents") (.var 6)) .Add (.idx (.var 4) (.var 6))) .nil) .nil) .nil))) (.cons (.ret (.var 4)) .nil))))))⟩
/-- others_of(setup, placement, request): slots 0=setup 1=placement 2=request 3=one -/
def F30 : FDef := ⟨[false, false, false], 4, (.cons (.ret (.comp (.var 3) [3] (.name 3) (.rng1 (.blt .len (.cons (.var 0) .nil))) (.cons (.and (.cmp .Is (.idx (.var 1) (.var 3)) (.lit .non)) (.cmp .NotEq (.var 3) (.var 2))) .nil))) .nil)⟩
/-- full_pools(setup, room, requests): slots 0=setup 1=room 2=requests 3=inflow 4=request 5=pool -/
def F31 : FDef := ⟨[false, false, false], 6, (.cons (.asg true 3 (.bin .Mult (.lstD (.cons (.lit (.int 0)) .nil)) (.meth 4 "size" (.var 0) .nil))) (.cons (.for (.name 4) (.val (.var 2)) (.cons (.augI 3 (.idx (.fld (.var 0) "homes") (.var 4)) .Add (.lit (.int 1))) .nil)) (.cons (.for (.name 5) (.rng3 (.bin .Sub (.meth 4 "size" (.var 0) .nil) (.lit (.int 1))) (.lit (.int 0)) (.neg (.lit (.int 1)))) (.cons (.augI 3 (.idx (.fld (.var 0) "parents") (.var 5)) .Add (.blt .max2 (.cons (.lit (.int 0)) (.cons (.bin .Sub (.idx (.var 3) (.var 5)) (.idx (.var 1) (.var 5))) .nil)))) .nil)) (.cons (.ret (.comp (.cmp .GtE (.idx (.var 3) (.var 5)) (.idx (.var 1) (.var 5))) [5] (.name 5) (.rng1 (.meth 4 "size" (.var 0) .nil)) .nil)) .nil))))⟩
/-- full_steps(setup, room, requests, request): slots 0=setup 1=room 2=requests 3=request 4=full 5=found 6=pool -/
def F32 : FDef := ⟨[false, false, false, false], 7, (.cons (.asg false 4 (.call 31 false (.cons (.var 0) (.cons (.var 1) (.cons (.var 2) .nil))))) (.cons (.asg false 5 (.lit (.int 0))) (.cons (.for (.name 6) (.val (.meth 9 "way" (.var 0) (.cons (.idx (.fld (.var 0) "homes") (.var 3)) .nil))) (.cons (.ife (.not (.idx (.var 4) (.var 6))) (.cons (.ret (.var 5)) .nil) .nil) (.cons (.aug 5 .Add (.lit (.int 1))) .nil))) (.cons (.ret (.var 5)) .nil))))⟩
/-- check_free(setup, placement, request): slots 0=setup 1=placement 2=request -/
def F33 : FDef := ⟨[false, false, false], 3, (.cons (.expr (.call 14 false (.cons (.var 0) (.cons (.var 1) .nil)))) (.cons (.expr (.meth 11 "check_request" (.var 0) (.cons (.var 2) .nil))) (.cons (.ife (.cmp .IsNot (.idx (.var 1) (.var 2)) (.lit .non)) (.cons (.raise 0 .nil) .nil) .nil) .nil)))⟩
/-- places(setup, placement, request): slots 0=setup 1=placement 2=request 3=room 4=many 5=pool -/
def F34 : FDef := ⟨[false, false, false], 6, (.cons (.expr (.call 33 false (.cons (.var 0) (.cons (.var 1) (.cons (.var 2) .nil))))) (.cons (.asg false 3 (.call 15 false (.cons (.var 0) (.cons (.var 1) .nil)))) (.cons (.asg false 4 (.call 32 false (.cons (.var 0) (.cons (.var 3) (.cons (.call 30 false (.cons (.var 0) (.cons (.var 1) (.cons (.var 2) .nil)))) (.cons (.var 2) .nil)))))) (.cons (.ret (.comp (.var 5) [5] (.name 5) (.val (.slc (.meth 9 "way" (.var 0) (.cons (.idx (.fld (.var 0) "homes") (.var 2)) .nil)) .none (.some (.bin .Add (.var 4) (.lit (.int 1)))))) (.cons (.cmp .Gt (.idx (.var 3) (.var 5)) (.lit (.int 0))) .nil))) .nil))))⟩
/-- may_be_refused(setup, placement, request): slots 0=setup 1=placement 2=request 3=room 4=many -/
def F35 : FDef := ⟨[false, false, false], 5, (.cons (.expr (.call 33 false (.cons (.var 0) (.cons (.var 1) (.cons (.var 2) .nil))))) (.cons (.asg false 3 (.call 15 false (.cons (.var 0) (.cons (.var 1) .nil)))) (.cons (.asg false 4 (.call 32 false (.cons (.var 0) (.cons (.var 3) (.cons (.call 30 false (.cons (.var 0) (.cons (.var 1) (.cons (.var 2) .nil)))) (.cons (.var 2) .nil)))))) (.cons (.ret (.cmp .Eq (.var 4) (.blt .len (.cons (.meth 9 "way" (.var 0) (.cons (.idx (.fld (.var 0) "homes") (.var 2)) .nil)) .nil)))) .nil))))⟩
/-- bringing(setup, placement, request, pool): slots 0=setup 1=placement 2=request 3=pool 4=others 5=later 6=steps 7=one 8=inside -/
def F36 : FDef := ⟨[false, false, false, false], 9, (.cons (.asg false 4 (.call 30 false (.cons (.var 0) (.cons (.var 1) (.cons (.var 2) .nil))))) (.cons (.asg false 5 (.call 28 false (.cons (.var 0) (.cons (.var 1) (.cons (.var 4) .nil))))) (.cons (.asg true 6 (.comp (.tupD (.cons (.lit (.str "begin")) (.cons (.var 7) .nil))) [7] (.name 7) (.val (.var 4)) (.cons (.cmp .IsNot (.idx (.var 5) (.var 7)) (.lit .non)) .nil))) (.cons (.asg false 8 (.comp (.var 7) [7] (.name 7) (.val (.var 4)) (.cons (.cmp .Eq (.idx (.var 5) (.var 7)) (.var 3)) .nil))) (.cons (.ife (.cmp .Eq (.idx (.call 16 false (.cons (.var 0) (.cons (.var 5) .nil))) (.var 3)) (.lit (.int 0))) (.cons (.expr (.mth .append (.var 6) (.cons (.tupD (.cons (.lit (.str "end")) (.cons (.idx (.var 8) (.lit (.int 0))) .nil))) .nil))) (.cons (.asg false 5 (.call 18 false (.cons (.var 5) (.cons (.idx (.var 8) (.lit (.int 0))) (.cons (.lit .non) .nil))))) .nil)) .nil) (.cons (.ret (.bin .Add (.bin .Add (.var 6) (.lstD (.cons (.tupD (.cons (.lit (.str "begin")) (.cons (.var 2) .nil))) .nil))) (.comp (.tupD (.cons (.lit (.str "end")) (.cons (.var 7) .nil))) [7] (.name 7) (.val (.var 4)) (.cons (.cmp .IsNot (.idx (.var 5) (.var 7)) (.lit .non)) .nil)))) .nil))))))⟩
/-- brought(setup, placement, request, pool): slots 0=setup 1=placement 2=request 3=pool 4=some -/
def F37 : FDef := ⟨[false, false, false, false], 5, (.cons (.asg false 4 (.call 34 false (.cons (.var 0) (.cons (.var 1) (.cons (.var 2) .nil))))) (.cons (.expr (.meth 10 "check_pool" (.var 0) (.cons (.var 3) .nil))) (.cons (.ife (.cmp .NotIn (.var 3) (.var 4)) (.cons (.raise 0 .nil) .nil) .nil) (.cons (.ret (.call 36 false (.cons (.var 0) (.cons (.var 1) (.cons (.var 2) (.cons (.var 3) .nil)))))) .nil))))⟩
/-- check_staying(setup, placement, staying): slots 0=setup 1=placement 2=staying 3=index 4=request -/
def F38 : FDef := ⟨[false, false, false], 5, (.cons (.ife (.not (.isi (.var 2) .tuple)) (.cons (.raise 0 .nil) .nil) .nil) (.cons (.for (.tup [3, 4]) (.enum (.var 2)) (.cons (.ife (.or (.not (.call 1 false (.cons (.var 4) (.cons (.lit (.int 0)) (.cons (.bin .Sub (.blt .len (.cons (.var 0) .nil)) (.lit (.int 1))) .nil))))) (.or (.cmp .In (.var 4) (.slc (.var 2) .none (.some (.var 3)))) (.cmp .Is (.idx (.var 1) (.var 4)) (.lit .non)))) (.cons (.raise 0 .nil) .nil) .nil) .nil)) .nil))⟩
/-- only(placement, requests): slots 0=placement 1=requests 2=request 3=pool -/
def F39 : FDef := ⟨[false, false], 4, (.cons (.ret (.blt .tuple (.cons (.comp (.ife (.cmp .In (.var 2) (.var 1)) (.var 3) (.lit .non)) [2, 3] (.tup [2, 3]) (.enum (.var 0)) .nil) .nil))) .nil)⟩
/-- could_be_last(setup, placement, request): slots 0=setup 1=placement 2=request 3=rest 4=room 5=at -/
def F40 : FDef := ⟨[false, false, false], 6, (.cons (.asg false 3 (.call 18 false (.cons (.var 1) (.cons (.var 2) (.cons (.lit .non) .nil))))) (.cons (.asg false 4 (.call 16 false (.cons (.var 0) (.cons (.var 3) .nil)))) (.cons (.asg false 5 (.mth .index (.meth 9 "way" (.var 0) (.cons (.idx (.fld (.var 0) "homes") (.var 2)) .nil)) (.cons (.idx (.var 1) (.var 2)) .nil))) (.cons (.ret (.cmp .LtE (.var 5) (.call 32 false (.cons (.var 0) (.cons (.var 4) (.cons (.call 30 false (.cons (.var 0) (.cons (.var 3) (.cons (.var 2) .nil)))) (.cons (.var 2) .nil))))))) .nil))))⟩
/-- next_off(setup, placement, staying): slots 0=setup 1=placement 2=staying 3=request -/
def F41 : FDef := ⟨[false, false, false], 4, (.cons (.for (.name 3) (.val (.call 26 false (.cons (.var 1) .nil))) (.cons (.ife (.and (.cmp .NotIn (.var 3) (.var 2)) (.call 40 false (.cons (.var 0) (.cons (.var 1) (.cons (.var 3) .nil))))) (.cons (.ret (.var 3)) .nil) .nil) .nil)) (.cons (.ret (.lit .non)) .nil))⟩
/-- arises(setup, placement): slots 0=setup 1=placement 2=order 3=here 4=one 5=stuck 6=request 7=steps -/
def F42 : FDef := ⟨[false, false], 8, .nil⟩
/-- check_arises(setup, placement, answer): slots 0=setup 1=placement 2=answer -/
def F43 : FDef := ⟨[false, false, false], 3, .nil⟩
/-- check_steps(setup, placement, steps, staying): slots 0=setup 1=placement 2=steps 3=staying 4=here 5=room 6=index 7=step -/
def F44 : FDef := ⟨[false, false, false, false], 8, (.cons (.asg false 4 (.call 39 false (.cons (.var 1) (.cons (.var 3) .nil)))) (.cons (.asg true 5 (.call 16 false (.cons (.var 0) (.cons (.var 4) .nil)))) (.cons (.for (.tup [6, 7]) (.enum (.var 2)) (.cons (.ife (.or (.not (.call 22 false (.cons (.var 0) (.cons (.var 4) (.cons (.var 7) .nil))))) (.cmp .In (.idx (.var 7) (.lit (.int 1))) (.var 3))) (.cons (.raise 0 .nil) .nil) .nil) (.cons (.asg false 4 (.call 24 false (.cons (.var 0) (.cons (.var 4) (.cons (.var 5) (.cons (.var 7) .nil)))))) .nil))) (.cons (.ife (.cmp .NotEq (.var 4) (.var 1)) (.cons (.raise 0 .nil) .nil) .nil) .nil))))⟩
/-- check_stuck(setup, placement, requests, staying): slots 0=setup 1=placement 2=requests 3=staying 4=index 5=request 6=part -/
def F45 : FDef := ⟨[false, false, false, false], 7, (.cons (.for (.tup [4, 5]) (.enum (.var 2)) (.cons (.ife (.or (.not (.call 1 false (.cons (.var 5) (.cons (.lit (.int 0)) (.cons (.bin .Sub (.blt .len (.cons (.var 0) .nil)) (.lit (.int 1))) .nil))))) (.or (.cmp .In (.var 5) (.slc (.var 2) .none (.some (.var 4)))) (.cmp .In (.var 5) (.var 3)))) (.cons (.raise 0 .nil) .nil) .nil) (.cons (.ife (.cmp .Is (.idx (.var 1) (.var 5)) (.lit .non)) (.cons (.raise 0 .nil) .nil) .nil) .nil))) (.cons (.ife (.cmp .Eq (.var 2) (.tupD .nil)) (.cons (.raise 0 .nil) .nil) .nil) (.cons (.asg false 6 (.call 39 false (.cons (.var 1) (.cons (.bin .Add (.var 2) (.var 3)) .nil)))) (.cons (.for (.tup [4, 5]) (.enum (.var 2)) (.cons (.ife (.call 40 false (.cons (.var 0) (.cons (.var 6) (.cons (.var 5) .nil)))) (.cons (.raise 0 .nil) .nil) .nil) .nil)) .nil))))⟩
/-- check_spare(setup, pool): slots 0=setup 1=pool -/
def F46 : FDef := ⟨[false, false], 2, (.cons (.ife (.or (.not (.call 1 false (.cons (.var 1) (.cons (.lit (.int 1)) (.cons (.bin .Sub (.meth 4 "size" (.var 0) .nil) (.lit (.int 1))) .nil))))) (.cmp .Gt (.idx (.fld (.var 0) "capacities") (.var 1)) (.lit (.int 0)))) (.cons (.raise 0 .nil) .nil) .nil) .nil)⟩
/-- renamed(pool, gone): slots 0=pool 1=gone -/
def F47 : FDef := ⟨[false, false], 2, (.cons (.ret (.ife (.or (.cmp .Is (.var 0) (.lit .non)) (.cmp .Lt (.var 0) (.var 1))) (.var 0) (.bin .Sub (.var 0) (.lit (.int 1))))) .nil)⟩
/-- placement_without(setup, placement, pool): slots 0=setup 1=placement 2=pool 3=one -/
def F48 : FDef := ⟨[false, false, false], 4, (.cons (.expr (.call 14 false (.cons (.var 0) (.cons (.var 1) .nil)))) (.cons (.expr (.call 46 false (.cons (.var 0) (.cons (.var 2) .nil)))) (.cons (.ret (.blt .tuple (.cons (.comp (.call 47 false (.cons (.var 3) (.cons (.var 2) .nil))) [3] (.name 3) (.val (.var 1)) .nil) .nil))) .nil)))⟩
/-- branch(setup, pool): slots 0=setup 1=pool 2=pools 3=one 4=requests 5=request 6=parents 7=homes -/
def F49 : FDef := ⟨[false, false], 8, (.cons (.expr (.meth 10 "check_pool" (.var 0) (.cons (.var 1) .nil))) (.cons (.asg false 2 (.comp (.var 3) [3] (.name 3) (.rng1 (.meth 4 "size" (.var 0) .nil)) (.cons (.cmp .In (.var 1) (.meth 9 "way" (.var 0) (.cons (.var 3) .nil))) .nil))) (.cons (.asg false 4 (.comp (.var 5) [5] (.name 5) (.rng1 (.blt .len (.cons (.var 0) .nil))) (.cons (.cmp .In (.idx (.fld (.var 0) "homes") (.var 5)) (.var 2)) .nil))) (.cons (.asg false 6 (.bin .Add (.lstD (.cons (.lit .non) .nil)) (.comp (.mth .index (.var 2) (.cons (.idx (.fld (.var 0) "parents") (.var 3)) .nil)) [3] (.name 3) (.val (.slc (.var 2) (.some (.lit (.int 1))) .none)) .nil))) (.cons (.asg false 7 (.comp (.mth .index (.var 2) (.cons (.idx (.fld (.var 0) "homes") (.var 5)) .nil)) [5] (.name 5) (.val (.var 4)) .nil)) (.cons (.ret (.tupD (.cons (.make 0 (.cons (.var 6) (.cons (.comp (.idx (.fld (.var 0) "capacities") (.var 3)) [3] (.name 3) (.val (.var 2)) .nil) (.cons (.var 7) .nil)))) (.cons (.blt .tuple (.cons (.var 2) .nil)) (.cons (.blt .tuple (.cons (.var 4) .nil)) .nil))))) .nil))))))⟩
/-- branch_placement(setup, placement, pool): slots 0=setup 1=placement 2=pool 3=part 4=pools 5=requests 6=inside 7=request 8=one -/
def F50 : FDef := ⟨[false, false, false], 9, (.cons (.expr (.call 14 false (.cons (.var 0) (.cons (.var 1) .nil)))) (.cons (.asgT [3, 4, 5] (.call 49 false (.cons (.var 0) (.cons (.var 2) .nil)))) (.cons (.asg false 6 (.comp (.idx (.var 1) (.var 7)) [7] (.name 7) (.val (.var 5)) .nil)) (.cons (.ret (.blt .tuple (.cons (.comp (.ife (.cmp .In (.var 8) (.var 4)) (.mth .index (.var 4) (.cons (.var 8) .nil)) (.lit .non)) [8] (.name 8) (.val (.var 6)) .nil) .nil))) .nil))))⟩
/-- check_group(setup, group): slots 0=setup 1=group 2=index 3=pool -/
def F51 : FDef := ⟨[false, false], 4, (.cons (.ife (.not (.isi (.var 1) .tuple)) (.cons (.raise 0 .nil) .nil) .nil) (.cons (.for (.tup [2, 3]) (.enum (.var 1)) (.cons (.ife (.or (.not (.call 1 false (.cons (.var 3) (.cons (.lit (.int 0)) (.cons (.bin .Sub (.meth 4 "size" (.var 0) .nil) (.lit (.int 1))) .nil))))) (.cmp .In (.var 3) (.slc (.var 1) .none (.some (.var 2))))) (.cons (.raise 0 .nil) .nil) .nil) .nil)) (.cons (.ife (.or (.cmp .Eq (.var 1) (.tupD .nil)) (.not (.blt .all (.cons (.comp (.cmp .In (.idx (.fld (.var 0) "parents") (.var 3)) (.var 1)) [3] (.name 3) (.val (.var 1)) (.cons (.cmp .NotEq (.var 3) (.blt .minL (.cons (.var 1) .nil))) .nil)) .nil)))) (.cons (.raise 0 .nil) .nil) .nil) .nil)))⟩
/-- value_of(setup, room, requests, pools): slots 0=setup 1=room 2=requests 3=pools 4=homes 5=request 6=pool -/
def F52 : FDef := ⟨[false, false, false, false], 7, (.cons (.asg false 4 (.comp (.var 5) [5] (.name 5) (.val (.var 2)) (.cons (.cmp .In (.idx (.fld (.var 0) "homes") (.var 5)) (.var 3)) .nil))) (.cons (.ret (.bin .Sub (.blt .len (.cons (.var 4) .nil)) (.blt .sum (.cons (.comp (.idx (.var 1) (.var 6)) [6] (.name 6) (.val (.var 3)) .nil) .nil)))) .nil))⟩
/-- group_value(setup, placement, requests, group): slots 0=setup 1=placement 2=requests 3=group 4=room -/
def F53 : FDef := ⟨[false, false, false, false], 5, (.cons (.asg false 4 (.call 15 false (.cons (.var 0) (.cons (.var 1) .nil)))) (.cons (.expr (.call 27 false (.cons (.var 0) (.cons (.var 1) (.cons (.var 2) .nil))))) (.cons (.expr (.call 51 false (.cons (.var 0) (.cons (.var 3) .nil)))) (.cons (.ret (.call 52 false (.cons (.var 0) (.cons (.var 4) (.cons (.var 2) (.cons (.var 3) .nil)))))) .nil))))⟩
/-- with_branches(setup, over, pools): slots 0=setup 1=over 2=pools 3=found 4=pool -/
def F54 : FDef := ⟨[false, false, false], 5, (.cons (.asg true 3 (.blt .list (.cons (.var 2) .nil))) (.cons (.for (.name 4) (.rng2 (.lit (.int 1)) (.meth 4 "size" (.var 0) .nil)) (.cons (.ife (.and (.cmp .NotIn (.var 4) (.var 3)) (.and (.cmp .In (.idx (.fld (.var 0) "parents") (.var 4)) (.var 3)) (.cmp .Gt (.idx (.var 1) (.var 4)) (.lit (.int 0))))) (.cons (.expr (.mth .append (.var 3) (.cons (.var 4) .nil))) .nil) .nil) .nil)) (.cons (.ret (.blt .tuple (.cons (.blt .sorted (.cons (.var 3) .nil)) .nil))) .nil)))⟩
/-- overflow_group(setup, placement, requests, pool): slots 0=setup 1=placement 2=requests 3=pool 4=over -/
def F55 : FDef := ⟨[false, false, false, false], 5, (.cons (.asg false 4 (.call 29 false (.cons (.var 0) (.cons (.var 1) (.cons (.var 2) .nil))))) (.cons (.expr (.meth 10 "check_pool" (.var 0) (.cons (.var 3) .nil))) (.cons (.ret (.ife (.cmp .Gt (.idx (.var 4) (.var 3)) (.lit (.int 0))) (.call 54 false (.cons (.var 0) (.cons (.var 4) (.cons (.lstD (.cons (.var 3) .nil)) .nil)))) (.lit .non))) .nil)))⟩
/-- refusing_group(setup, placement, request): slots 0=setup 1=placement 2=request 3=others 4=full 5=way 6=pool -/
def F56 : FDef := ⟨[false, false, false], 7, (.cons (.expr (.call 33 false (.cons (.var 0) (.cons (.var 1) (.cons (.var 2) .nil))))) (.cons (.asg false 3 (.call 30 false (.cons (.var 0) (.cons (.var 1) (.cons (.var 2) .nil))))) (.cons (.asg false 4 (.call 31 false (.cons (.var 0) (.cons (.call 16 false (.cons (.var 0) (.cons (.var 1) .nil))) (.cons (.var 3) .nil))))) (.cons (.asg false 5 (.meth 9 "way" (.var 0) (.cons (.idx (.fld (.var 0) "homes") (.var 2)) .nil))) (.cons (.ife (.not (.blt .all (.cons (.comp (.idx (.var 4) (.var 6)) [6] (.name 6) (.val (.var 5)) .nil) .nil))) (.cons (.ret (.lit .non)) .nil) .nil) (.cons (.ret (.call 54 false (.cons (.var 0) (.cons (.call 29 false (.cons (.var 0) (.cons (.var 1) (.cons (.var 3) .nil)))) (.cons (.var 5) .nil))))) .nil))))))⟩
/-- sums_below(setup, room, requests, group): slots 0=setup 1=room 2=requests 3=group 4=found 5=pool 6=request -/
def F57 : FDef := ⟨[false, false, false, false], 7, .nil⟩
/-- check_refusing(setup, placement, request, group): slots 0=setup 1=placement 2=request 3=group 4=way 5=pool 6=sums 7=index -/
def F58 : FDef := ⟨[false, false, false, false], 8, (.cons (.expr (.call 33 false (.cons (.var 0) (.cons (.var 1) (.cons (.var 2) .nil))))) (.cons (.expr (.call 51 false (.cons (.var 0) (.cons (.var 3) .nil)))) (.cons (.asg false 4 (.meth 9 "way" (.var 0) (.cons (.idx (.fld (.var 0) "homes") (.var 2)) .nil))) (.cons (.ife (.not (.blt .all (.cons (.comp (.cmp .In (.var 5) (.var 3)) [5] (.name 5) (.val (.var 4)) .nil) .nil))) (.cons (.raise 0 .nil) .nil) .nil) (.cons (.asg false 6 (.call 57 false (.cons (.var 0) (.cons (.call 16 false (.cons (.var 0) (.cons (.var 1) .nil))) (.cons (.call 30 false (.cons (.var 0) (.cons (.var 1) (.cons (.var 2) .nil)))) (.cons (.var 3) .nil)))))) (.cons (.for (.tup [7, 5]) (.enum (.var 4)) (.cons (.ife (.cmp .Lt (.idx (.var 6) (.var 5)) (.lit (.int 0))) (.cons (.raise 0 .nil) .nil) .nil) .nil)) .nil))))))⟩
/-- never_refused(setup, placement): slots 0=setup 1=placement 2=some 3=request -/
def F59 : FDef := ⟨[false, false], 4, (.cons (.expr (.call 14 false (.cons (.var 0) (.cons (.var 1) .nil)))) (.cons (.asg false 2 (.comp (.var 3) [3] (.name 3) (.rng1 (.blt .len (.cons (.var 0) .nil))) (.cons (.cmp .Is (.idx (.var 1) (.var 3)) (.lit .non)) .nil))) (.cons (.ret (.blt .tuple (.cons (.comp (.var 3) [3] (.name 3) (.val (.var 2)) (.cons (.cmp .Is (.call 56 false (.cons (.var 0) (.cons (.var 1) (.cons (.var 3) .nil)))) (.lit .non)) .nil)) .nil))) .nil)))⟩
/-- steps_at(placement): slots 0=placement 1=request 2=pool -/
def F60 : FDef := ⟨[false], 3, (.cons (.ret (.comp (.tupD (.cons (.ife (.cmp .Is (.var 2) (.lit .non)) (.lit (.str "begin")) (.lit (.str "end"))) (.cons (.var 1) .nil))) [1, 2] (.tup [1, 2]) (.enum (.var 0)) .nil)) .nil)⟩
/-- first_steps(setup, most): slots 0=setup 1=most 2=found 3=waiting 4=at 5=room 6=step 7=later -/
def F61 : FDef := ⟨[false, false], 8, .nil⟩
/-- fewest_steps(setup, placement): slots 0=setup 1=placement 2=found 3=steps 4=step -/
def F62 : FDef := ⟨[false, false], 5, .nil⟩
/-- most_above(setup, pool): slots 0=setup 1=pool 2=below 3=request 4=over 5=one -/
def F63 : FDef := ⟨[false, false], 6, (.cons (.expr (.meth 10 "check_pool" (.var 0) (.cons (.var 1) .nil))) (.cons (.asg false 2 (.comp (.var 3) [3] (.name 3) (.rng1 (.blt .len (.cons (.var 0) .nil))) (.cons (.cmp .In (.var 1) (.meth 9 "way" (.var 0) (.cons (.idx (.fld (.var 0) "homes") (.var 3)) .nil))) .nil))) (.cons (.asg false 4 (.idx (.call 29 false (.cons (.var 0) (.cons (.call 17 false (.cons (.var 0) .nil)) (.cons (.var 2) .nil)))) (.var 1))) (.cons (.ret (.blt .min2 (.cons (.var 4) (.cons (.blt .sum (.cons (.comp (.idx (.fld (.var 0) "capacities") (.var 5)) [5] (.name 5) (.val (.slc (.meth 9 "way" (.var 0) (.cons (.var 1) .nil)) (.some (.lit (.int 1))) .none)) .nil) .nil)) .nil)))) .nil))))⟩
/-- check_list(setup, values): slots 0=setup 1=values 2=index 3=value -/
def F64 : FDef := ⟨[false, false], 4, (.cons (.ife (.or (.not (.isi (.var 1) .list)) (.cmp .NotEq (.blt .len (.cons (.var 1) .nil)) (.meth 4 "size" (.var 0) .nil))) (.cons (.raise 0 .nil) .nil) .nil) (.cons (.for (.tup [2, 3]) (.enum (.var 1)) (.cons (.ife (.or (.not (.call 0 false (.cons (.var 3) .nil))) (.cmp .Lt (.var 3) (.lit (.int 0)))) (.cons (.raise 0 .nil) .nil) .nil) .nil)) .nil))⟩
/-- passing(setup, extra): slots 0=setup 1=extra 2=found 3=home 4=pool -/
def F65 : FDef := ⟨[false, false], 5, (.cons (.asg true 2 (.bin .Mult (.lstD (.cons (.lit (.int 0)) .nil)) (.meth 4 "size" (.var 0) .nil))) (.cons (.for (.name 3) (.val (.fld (.var 0) "homes")) (.cons (.augI 2 (.var 3) .Add (.lit (.int 1))) .nil)) (.cons (.for (.name 4) (.rng3 (.bin .Sub (.meth 4 "size" (.var 0) .nil) (.lit (.int 1))) (.neg (.lit (.int 1))) (.neg (.lit (.int 1)))) (.cons (.setI 2 (.var 4) (.blt .max2 (.cons (.lit (.int 0)) (.cons (.bin .Sub (.bin .Sub (.idx (.var 2) (.var 4)) (.idx (.fld (.var 0) "capacities") (.var 4))) (.idx (.var 1) (.var 4))) .nil)))) (.cons (.ife (.cmp .Gt (.var 4) (.lit (.int 0))) (.cons (.augI 2 (.idx (.fld (.var 0) "parents") (.var 4)) .Add (.idx (.var 2) (.var 4))) .nil) .nil) .nil))) (.cons (.ret (.var 2)) .nil))))⟩
/-- refused_with(setup, extra): slots 0=setup 1=extra -/
def F66 : FDef := ⟨[false, false], 2, (.cons (.expr (.call 64 false (.cons (.var 0) (.cons (.var 1) .nil)))) (.cons (.ret (.idx (.call 65 false (.cons (.var 0) (.cons (.var 1) .nil))) (.lit (.int 0)))) .nil))⟩
/-- check_number(number): slots 0=number -/
def F67 : FDef := ⟨[false], 1, (.cons (.ife (.or (.not (.call 0 false (.cons (.var 0) .nil))) (.cmp .Lt (.var 0) (.lit (.int 0)))) (.cons (.raise 0 .nil) .nil) .nil) .nil)⟩
/-- passed_to_root(setup, over): slots 0=setup 1=over 2=found 3=pool 4=many -/
def F68 : FDef := ⟨[false, false], 5, .nil⟩
/-- added_places(setup, over, pool, most): slots 0=setup 1=over 2=pool 3=most 4=way 5=many 6=one -/
def F69 : FDef := ⟨[false, true, false, false], 7, (.cons (.asg false 4 (.meth 9 "way" (.var 0) (.cons (.var 2) .nil))) (.cons (.asg false 5 (.blt .minL (.cons (.bin .Add (.comp (.idx (.var 1) (.var 6)) [6] (.name 6) (.val (.var 4)) .nil) (.lstD (.cons (.blt .max2 (.cons (.lit (.int 0)) (.cons (.bin .Sub (.idx (.var 1) (.lit (.int 0))) (.var 3)) .nil))) .nil))) .nil))) (.cons (.for (.name 6) (.val (.var 4)) (.cons (.augI 1 (.var 6) .Sub (.var 5)) .nil)) (.cons (.ret (.var 5)) .nil))))⟩
/-- cheapest_extra(setup, prices, most): slots 0=setup 1=prices 2=most 3=extra 4=values 5=over 6=last 7=price 8=pool 9=one -/
def F70 : FDef := ⟨[false, false, false], 10, (.cons (.expr (.call 64 false (.cons (.var 0) (.cons (.var 1) .nil)))) (.cons (.expr (.call 67 false (.cons (.var 2) .nil))) (.cons (.par 3 4 true true (.bin .Mult (.lstD (.cons (.lit (.int 0)) .nil)) (.meth 4 "size" (.var 0) .nil)) (.bin .Mult (.lstD (.cons (.lit (.int 0)) .nil)) (.meth 4 "size" (.var 0) .nil))) (.cons (.par 5 6 true false (.call 65 true (.cons (.var 0) (.cons (.var 3) .nil))) (.lit (.int 0))) (.cons (.for (.tup [7, 8]) (.val (.blt .sorted (.cons (.comp (.tupD (.cons (.var 7) (.cons (.var 8) .nil))) [8, 7] (.tup [8, 7]) (.enum (.var 1)) .nil) .nil))) (.cons (.ife (.and (.cmp .Gt (.idx (.var 5) (.lit (.int 0))) (.var 2)) (.cmp .Gt (.idx (.var 5) (.var 8)) (.lit (.int 0)))) (.cons (.ife (.cmp .Gt (.var 7) (.var 6)) (.cons (.for (.name 9) (.val (.call 68 true (.cons (.var 0) (.cons (.var 5) .nil)))) (.cons (.augI 4 (.var 9) .Add (.bin .Sub (.var 7) (.var 6))) .nil)) (.cons (.asg false 6 (.var 7)) .nil)) .nil) (.cons (.setI 3 (.var 8) (.call 69 false (.cons (.var 0) (.cons (.var 5) (.cons (.var 8) (.cons (.var 2) .nil)))))) .nil)) .nil) .nil)) (.cons (.ret (.tupD (.cons (.call 71 true (.cons (.var 1) (.cons (.var 3) .nil))) (.cons (.var 3) (.cons (.var 4) .nil))))) .nil))))))⟩
/-- price_of(prices, extra): slots 0=prices 1=extra 2=price 3=many -/
def F71 : FDef := ⟨[false, false], 4, (.cons (.ret (.blt .sum (.cons (.comp (.bin .Mult (.var 2) (.var 3)) [2, 3] (.tup [2, 3]) (.zip (.var 0) (.var 1)) .nil) .nil))) .nil)⟩
/-- value_of(setup, values, most): slots 0=setup 1=values 2=most 3=found 4=home -/
def F72 : FDef := ⟨[false, false, false], 5, (.cons (.asg false 3 (.bin .Sub (.lit (.int 0)) (.bin .Mult (.var 2) (.idx (.var 1) (.lit (.int 0)))))) (.cons (.for (.name 4) (.val (.fld (.var 0) "homes")) (.cons (.aug 3 .Add (.idx (.var 1) (.var 4))) .nil)) (.cons (.ret (.bin .Sub (.var 3) (.call 71 false (.cons (.fld (.var 0) "capacities") (.cons (.var 1) .nil))))) .nil)))⟩
/-- check_extra(setup, prices, most, answer): slots 0=setup 1=prices 2=most 3=answer 4=size 5=price 6=extra 7=values 8=part 9=index 10=many 11=pool 12=value 13=found -/
def F73 : FDef := ⟨[false, false, false, false], 14, (.cons (.expr (.call 64 false (.cons (.var 0) (.cons (.var 1) .nil)))) (.cons (.expr (.call 67 false (.cons (.var 2) .nil))) (.cons (.asg false 4 (.meth 4 "size" (.var 0) .nil)) (.cons (.ife (.or (.not (.isi (.var 3) .tuple)) (.or (.cmp .NotEq (.blt .len (.cons (.var 3) .nil)) (.lit (.int 3))) (.not (.call 0 false (.cons (.idx (.var 3) (.lit (.int 0))) .nil))))) (.cons (.raise 0 .nil) .nil) .nil) (.cons (.asgT [5, 6, 7] (.var 3)) (.cons (.ife (.not (.blt .all (.cons (.comp (.and (.isi (.var 8) .list) (.cmp .Eq (.blt .len (.cons (.var 8) .nil)) (.var 4))) [8] (.name 8) (.val (.tupD (.cons (.var 6) (.cons (.var 7) .nil)))) .nil) .nil))) (.cons (.raise 0 .nil) .nil) .nil) (.cons (.for (.tup [9, 10]) (.enum (.var 6)) (.cons (.ife (.or (.not (.call 0 false (.cons (.var 10) .nil))) (.cmp .Lt (.var 10) (.lit (.int 0)))) (.cons (.raise 0 .nil) .nil) .nil) .nil)) (.cons (.for (.tup [11, 12]) (.enum (.var 7)) (.cons (.ife (.or (.not (.call 0 false (.cons (.var 12) .nil))) (.or (.not (.chain .LtE .LtE (.lit (.int 0)) (.var 12) (.idx (.var 1) (.var 11)))) (.and (.cmp .Gt (.var 11) (.lit (.int 0))) (.cmp .Gt (.var 12) (.idx (.var 7) (.idx (.fld (.var 0) "parents") (.var 11))))))) (.cons (.raise 0 .nil) .nil) .nil) .nil)) (.cons (.asg true 13 (.lstD (.cons (.cmp .LtE (.idx (.call 65 false (.cons (.var 0) (.cons (.var 6) .nil))) (.lit (.int 0))) (.var 2)) (.cons (.cmp .Eq (.call 71 false (.cons (.var 1) (.cons (.var 6) .nil))) (.var 5)) .nil)))) (.cons (.expr (.mth .append (.var 13) (.cons (.cmp .Eq (.call 72 false (.cons (.var 0) (.cons (.var 7) (.cons (.var 2) .nil)))) (.var 5)) .nil))) (.cons (.ife (.cmp .In (.lit (.bl false)) (.var 13)) (.cons (.raise 0 .nil) .nil) .nil) (.cons (.ret (.var 5)) .nil))))))))))))⟩
/-- price_list(setup, prices): slots 0=setup 1=prices 2=most -/
def F74 : FDef := ⟨[false, false], 3, (.cons (.expr (.call 64 false (.cons (.var 0) (.cons (.var 1) .nil)))) (.cons (.ret (.comp (.idx (.call 70 false (.cons (.var 0) (.cons (.var 1) (.cons (.var 2) .nil)))) (.lit (.int 0))) [2] (.name 2) (.rng1 (.bin .Add (.idx (.call 65 false (.cons (.var 0) (.cons (.bin .Mult (.lstD (.cons (.lit (.int 0)) .nil)) (.meth 4 "size" (.var 0) .nil)) .nil))) (.lit (.int 0))) (.lit (.int 1)))) .nil)) .nil))⟩
/-- fewest_refused(setup, prices, budget): slots 0=setup 1=prices 2=budget 3=some 4=most 5=number 6=price -/
def F75 : FDef := ⟨[false, false, false], 7, (.cons (.expr (.call 64 false (.cons (.var 0) (.cons (.var 1) .nil)))) (.cons (.expr (.call 67 false (.cons (.var 2) .nil))) (.cons (.asg false 3 (.call 74 false (.cons (.var 0) (.cons (.var 1) .nil)))) (.cons (.asg false 4 (.idx (.comp (.var 5) [5, 6] (.tup [5, 6]) (.enum (.var 3)) (.cons (.cmp .LtE (.var 6) (.var 2)) .nil)) (.lit (.int 0)))) (.cons (.ret (.tupD (.cons (.var 4) (.cons (.idx (.call 70 false (.cons (.var 0) (.cons (.var 1) (.cons (.var 4) .nil)))) (.lit (.int 1))) .nil)))) .nil)))))⟩
/-- _wall(k): slots 0=k -/
def F76 : FDef := ⟨[false], 1, (.cons (.whl (.lit (.bl true)) (.cons .pass .nil)) .nil)⟩
/-- Setup.way(self, pool): slots 0=self 1=pool -/
def F77 : FDef := ⟨[false, false], 2, (.cons (.expr (.call 76 false (.cons (.lit (.int 0)) .nil))) .nil)⟩
/-- check_capacity(capacity, index): slots 0=capacity 1=index -/
def F78 : FDef := ⟨[false, false], 2, (.cons (.ife (.not (.call 1 false (.cons (.var 0) (.cons (.lit (.int 0)) (.cons (.glb "MAX_SIZE" 60) .nil))))) (.cons (.raise 0 .nil) .nil) .nil) .nil)⟩
/-- grown(setup, parent, capacity): slots 0=setup 1=parent 2=capacity -/
def F79 : FDef := ⟨[false, false, false], 3, (.cons (.expr (.meth 10 "check_pool" (.var 0) (.cons (.var 1) .nil))) (.cons (.ife (.cmp .Eq (.meth 4 "size" (.var 0) .nil) (.glb "MAX_SIZE" 60)) (.cons (.raise 0 .nil) .nil) .nil) (.cons (.expr (.call 78 false (.cons (.var 2) (.cons (.meth 4 "size" (.var 0) .nil) .nil)))) (.cons (.ret (.make 0 (.cons (.bin .Add (.blt .list (.cons (.fld (.var 0) "parents") .nil)) (.lstD (.cons (.var 1) .nil))) (.cons (.bin .Add (.blt .list (.cons (.fld (.var 0) "capacities") .nil)) (.lstD (.cons (.var 2) .nil))) (.cons (.blt .list (.cons (.fld (.var 0) "homes") .nil)) .nil))))) .nil))))⟩
/-- with_capacity(setup, pool, capacity): slots 0=setup 1=pool 2=capacity 3=some -/
def F80 : FDef := ⟨[false, false, false], 4, (.cons (.expr (.meth 10 "check_pool" (.var 0) (.cons (.var 1) .nil))) (.cons (.expr (.call 78 false (.cons (.var 2) (.cons (.var 1) .nil)))) (.cons (.asg true 3 (.blt .list (.cons (.fld (.var 0) "capacities") .nil))) (.cons (.setI 3 (.var 1) (.var 2)) (.cons (.ret (.make 0 (.cons (.blt .list (.cons (.fld (.var 0) "parents") .nil)) (.cons (.var 3) (.cons (.blt .list (.cons (.fld (.var 0) "homes") .nil)) .nil))))) .nil)))))⟩
/-- with_requests(setup, homes): slots 0=setup 1=homes -/
def F81 : FDef := ⟨[false, false], 2, (.cons (.ife (.or (.not (.isi (.var 1) .list)) (.cmp .Gt (.bin .Add (.blt .len (.cons (.var 0) .nil)) (.blt .len (.cons (.var 1) .nil))) (.glb "MAX_SIZE" 60))) (.cons (.raise 0 .nil) .nil) .nil) (.cons (.ret (.make 0 (.cons (.blt .list (.cons (.fld (.var 0) "parents") .nil)) (.cons (.blt .list (.cons (.fld (.var 0) "capacities") .nil)) (.cons (.bin .Add (.blt .list (.cons (.fld (.var 0) "homes") .nil)) (.var 1)) .nil))))) .nil))⟩
/-- without_pool(setup, pool): slots 0=setup 1=pool 2=upper 3=parents 4=one 5=homes 6=some -/
def F82 : FDef := ⟨[false, false], 7, (.cons (.expr (.call 46 false (.cons (.var 0) (.cons (.var 1) .nil)))) (.cons (.asg false 2 (.idx (.fld (.var 0) "parents") (.var 1))) (.cons (.asg false 3 (.comp (.call 47 false (.cons (.ife (.cmp .Eq (.var 4) (.var 1)) (.var 2) (.var 4)) (.cons (.var 1) .nil))) [4] (.name 4) (.val (.fld (.var 0) "parents")) .nil)) (.cons (.asg false 5 (.comp (.call 47 false (.cons (.ife (.cmp .Eq (.var 4) (.var 1)) (.var 2) (.var 4)) (.cons (.var 1) .nil))) [4] (.name 4) (.val (.fld (.var 0) "homes")) .nil)) (.cons (.asg false 6 (.blt .list (.cons (.fld (.var 0) "capacities") .nil))) (.cons (.ret (.make 0 (.cons (.bin .Add (.slc (.var 3) .none (.some (.var 1))) (.slc (.var 3) (.some (.bin .Add (.var 1) (.lit (.int 1)))) .none)) (.cons (.bin .Add (.slc (.var 6) .none (.some (.var 1))) (.slc (.var 6) (.some (.bin .Add (.var 1) (.lit (.int 1)))) .none)) (.cons (.var 5) .nil))))) .nil))))))⟩
/-- joined(one, other, capacity): slots 0=one 1=other 2=capacity 3=parents 4=homes 5=part 6=shift 7=above 8=home -/
def F83 : FDef := ⟨[false, false, false], 9, .nil⟩
/-- order_key(placement): slots 0=placement 1=pool -/
def F84 : FDef := ⟨[false], 2, (.cons (.ret (.blt .tuple (.cons (.comp (.ife (.cmp .Is (.var 1) (.lit .non)) (.neg (.lit (.int 1))) (.var 1)) [1] (.name 1) (.val (.var 0)) .nil) .nil))) .nil)⟩
/-- all_arising(setup): slots 0=setup -/
def F85 : FDef := ⟨[false], 1, .nil⟩
/-- refusable(setup): slots 0=setup 1=found 2=placement 3=room 4=request 5=pool -/
def F86 : FDef := ⟨[false], 6, .nil⟩
def progF : List FDef := [F0, F1, F2, F3, F4, F5, F6, F7, F8, F9, F10, F11, F12, F13, F14, F15, F16, F17, F18, F19, F20, F21, F22, F23, F24, F25, F26, F27, F28, F29, F30, F31, F32, F33, F34, F35, F36, F37, F38, F39, F40, F41, F42, F43, F44, F45, F46, F47, F48, F49, F50, F51, F52, F53, F54, F55, F56, F57, F58, F59, F60, F61, F62, F63, F64, F65, F66, F67, F68, F69, F70, F71, F72, F73, F74, F75, F76, F77, F78, F79, F80, F81, F82, F83, F84, F85, F86]
def tabG (lt : List FDef) (f : Nat) : Option FDef := if f < 100 then progF[f]? else lt[f - 100]?
def cfgG (lt : List FDef) : Cfg where
  raws := fun f => (tabG lt f).map (·.raw)
  init := fun c => if c = 0 then some 2 else none
  fields := fun _ => none
  lenF := fun c => if c = 0 then some 5 else none
  fuel := 1000000
end FB

set_option Elab.async false
set_option linter.all false
namespace FB
/-! ### trees and flows: plain mathematics -/
abbrev Par := List (Option Nat)
structure Tree (par : Par) : Prop where
  pos : 0 < par.length
  root : par[0]? = some none
  ups : ∀ p, 0 < p → p < par.length → ∃ q, par[p]? = some (some q) ∧ q < p
def up (par : Par) (p : Nat) : Option Nat := par.getD p none
theorem Tree.up0 {par : Par} (T : Tree par) : up par 0 = none := by
  unfold FB.up; rw [List.getD_eq_getElem?_getD, T.root]; rfl
theorem Tree.upS {par : Par} (T : Tree par) {p : Nat} (h : 0 < p) (hp : p < par.length) : ∃ q, up par p = some q ∧ q < p := by
  obtain ⟨q, h1, h2⟩ := T.ups p h hp
  exact ⟨q, by unfold FB.up; rw [List.getD_eq_getElem?_getD, h1]; rfl, h2⟩
theorem up_out {par : Par} {p : Nat} (h : par.length ≤ p) : up par p = none := by
  unfold up; rw [List.getD_eq_getElem?_getD, List.getElem?_eq_none h]; rfl
theorem Tree.lt {par : Par} (T : Tree par) {p q : Nat} (h : up par p = some q) : q < p ∧ p < par.length ∧ 0 < p := by
  have hp : p < par.length := by
    by_cases h' : p < par.length
    · exact h'
    · rw [up_out (by omega)] at h; cases h
  have h0 : 0 < p := by
    rcases Nat.eq_zero_or_pos p with e | e
    · subst e; rw [T.up0] at h; cases h
    · exact e
  obtain ⟨q', h1, h2⟩ := T.upS h0 hp
  rw [h] at h1; cases h1
  exact ⟨h2, hp, h0⟩
/-- the way up -/
def way (par : Par) (p : Nat) : List Nat := p :: (match up par p with
  | some q => if q < p then way par q else []
  | none => [])
termination_by p
theorem way_none {par : Par} {p : Nat} (h : up par p = none) : way par p = [p] := by rw [way, h]
theorem way_some {par : Par} {p q : Nat} (h : up par p = some q) (hq : q < p) : way par p = p :: way par q := by rw [way, h]; simp [hq]
theorem Tree.way_up {par : Par} (T : Tree par) {p q : Nat} (h : up par p = some q) : way par p = p :: way par q := way_some h (T.lt h).1
theorem way_le {par : Par} : ∀ {p x : Nat}, x ∈ way par p → x ≤ p := by
  intro p
  induction p using Nat.strongRecOn with
  | _ p ih =>
    intro x hx
    rw [way] at hx
    rcases List.mem_cons.mp hx with e | hx
    · omega
    · cases hu : up par p with
      | none => rw [hu] at hx; cases hx
      | some q =>
        rw [hu] at hx
        dsimp only at hx
        split at hx
        · have := ih q ‹_› hx; omega
        · cases hx
theorem way_self {par : Par} (p : Nat) : p ∈ way par p := by rw [way]; exact List.mem_cons_self
theorem Tree.root_mem {par : Par} (T : Tree par) : ∀ {p : Nat}, p < par.length → 0 ∈ way par p := by
  intro p
  induction p using Nat.strongRecOn with
  | _ p ih =>
    intro hp
    rcases Nat.eq_zero_or_pos p with h0 | h0
    · subst h0; exact way_self 0
    · obtain ⟨q, hq, hlt⟩ := T.upS h0 hp
      rw [T.way_up hq]
      exact List.mem_cons_of_mem _ (ih q hlt (by omega))
theorem way_len (par : Par) : ∀ p, (way par p).length ≤ p + 1 := by
  intro p
  induction p using Nat.strongRecOn with
  | _ p ih =>
    rw [way]
    cases up par p with
    | none => simp
    | some q =>
      dsimp only
      split
      · rename_i h
        have := ih q h
        simp only [List.length_cons]
        omega
      · simp
theorem way_nodup (par : Par) : ∀ p, (way par p).Nodup := by
  intro p
  induction p using Nat.strongRecOn with
  | _ p ih =>
    rw [way]
    cases up par p with
    | none => simp
    | some q =>
      dsimp only
      split
      · rename_i h
        refine List.nodup_cons.mpr ⟨fun hm => ?_, ih q h⟩
        have := way_le hm
        omega
      · simp
theorem Tree.way_mem {par : Par} (T : Tree par) : ∀ {p x : Nat}, x ∈ way par p → p < par.length → x < par.length := fun hx hp => Nat.lt_of_le_of_lt (way_le hx) hp
/-- the way is closed upwards -/
theorem Tree.way_closed {par : Par} (T : Tree par) : ∀ {p x q : Nat}, x ∈ way par p → up par x = some q → q ∈ way par p := by
  intro p
  induction p using Nat.strongRecOn with
  | _ p ih =>
    intro x q hx hu
    cases hp : up par p with
    | none =>
      rw [way_none hp] at hx
      cases List.mem_singleton.mp hx
      rw [hp] at hu; cases hu
    | some r =>
      rw [T.way_up hp] at hx ⊢
      rcases List.mem_cons.mp hx with e | hx
      · subst e; rw [hp] at hu; cases hu
        exact List.mem_cons_of_mem _ (way_self _)
      · exact List.mem_cons_of_mem _ (ih r (T.lt hp).1 hx hu)
/-- the way of a pool of a way is its rest -/
theorem Tree.way_suffix {par : Par} (T : Tree par) : ∀ {p x : Nat}, x ∈ way par p → way par x <:+ way par p := by
  intro p
  induction p using Nat.strongRecOn with
  | _ p ih =>
    intro x hx
    cases hp : up par p with
    | none =>
      rw [way_none hp] at hx
      cases List.mem_singleton.mp hx
      exact List.suffix_refl _
    | some r =>
      rw [T.way_up hp] at hx
      rcases List.mem_cons.mp hx with e | hx
      · subst e; exact List.suffix_refl _
      · rw [T.way_up hp]
        exact (ih r (T.lt hp).1 hx).trans (List.suffix_cons _ _)
theorem Tree.way_trans {par : Par} (T : Tree par) {p x y : Nat} (hx : x ∈ way par p) (hy : y ∈ way par x) : y ∈ way par p := (T.way_suffix hx).subset hy

theorem way_desc (par : Par) : ∀ p, (way par p).Pairwise (· > ·) := by
  intro p
  induction p using Nat.strongRecOn with
  | _ p ih =>
    rw [way]
    cases up par p with
    | none => simp
    | some q =>
      dsimp only
      split
      · rename_i h
        refine List.pairwise_cons.mpr ⟨fun x hm => ?_, ih q h⟩
        have := way_le hm
        omega
      · simp
/-- the sum over the children of p below n -/
def kids (par : Par) (p : Nat) (f : Nat → Int) : Nat → Int
  | 0 => 0
  | n + 1 => kids par p f n + (if up par n = some p then f n else 0)
theorem kids_congr {par : Par} {p : Nat} {f g : Nat → Int} : ∀ {n : Nat}, (∀ c, c < n → up par c = some p → f c = g c) → kids par p f n = kids par p g n
  | 0, _ => rfl
  | n + 1, h => by
    unfold kids
    rw [kids_congr fun c hc => h c (by omega)]
    split
    · rw [h n (by omega) ‹_›]
    · rfl
theorem kids_succ {par : Par} {p n : Nat} {f : Nat → Int} : kids par p f (n + 1) = kids par p f n + (if up par n = some p then f n else 0) := rfl
theorem kids_sub_congr {par : Par} {p : Nat} {f g : Nat → Int} {a : Nat} : ∀ {b : Nat}, a ≤ b → (∀ c, a ≤ c → c < b → up par c = some p → f c = g c) → kids par p f b - kids par p f a = kids par p g b - kids par p g a
  | 0, ha, _ => by obtain rfl : a = 0 := by omega
                   rfl
  | b + 1, ha, h => by
    rcases Nat.eq_or_lt_of_le ha with e | e
    · subst e; omega
    · have := kids_sub_congr (par := par) (p := p) (f := f) (g := g) (a := a) (b := b) (by omega) fun c h1 h2 => h c h1 (by omega)
      rw [kids_succ, kids_succ]
      have e2 : (if up par b = some p then f b else 0) = (if up par b = some p then g b else 0) := by
        split
        · exact h b (by omega) (by omega) ‹_›
        · rfl
      omega
theorem kids_add {par : Par} {p : Nat} {f g : Nat → Int} : ∀ {n : Nat}, kids par p (fun c => f c + g c) n = kids par p f n + kids par p g n
  | 0 => rfl
  | n + 1 => by
    unfold kids
    rw [kids_add]
    split <;> omega
theorem kids_zero {par : Par} {p : Nat} : ∀ {n : Nat}, kids par p (fun _ => 0) n = 0
  | 0 => rfl
  | n + 1 => by unfold kids; rw [kids_zero]; split <;> rfl
theorem kids_zero' {par : Par} {p : Nat} {f : Nat → Int} {n : Nat} (h : ∀ c, c < n → up par c = some p → f c = 0) : kids par p f n = 0 := (kids_congr h).trans kids_zero
theorem kids_le {par : Par} {p : Nat} {f g : Nat → Int} : ∀ {n : Nat}, (∀ c, c < n → up par c = some p → f c ≤ g c) → kids par p f n ≤ kids par p g n
  | 0, _ => Int.le_refl _
  | n + 1, h => by
    unfold kids
    have := kids_le (par := par) (p := p) (f := f) (g := g) (n := n) fun c hc => h c (by omega)
    split
    · have := h n (by omega) ‹_›; omega
    · omega
theorem kids_nonneg {par : Par} {p : Nat} {f : Nat → Int} {n : Nat} (h : ∀ c, c < n → up par c = some p → 0 ≤ f c) : 0 ≤ kids par p f n := by
  have := kids_le (par := par) (p := p) (f := fun _ => 0) (g := f) (n := n) h
  rw [kids_zero] at this; exact this
/-- one more at h -/
def ind (h : Nat) : Nat → Int := fun p => if p = h then 1 else 0
theorem ind_self (h : Nat) : ind h h = 1 := by simp [ind]
theorem ind_ne {h p : Nat} (e : p ≠ h) : ind h p = 0 := by simp [ind, e]
theorem kids_ind {par : Par} {p h : Nat} : ∀ {n : Nat}, h < n → kids par p (ind h) n = if up par h = some p then 1 else 0
  | 0, hn => by omega
  | n + 1, hn => by
    unfold kids
    rcases Nat.lt_or_ge h n with e | e
    · rw [kids_ind e, ind_ne (by omega)]
      split <;> split <;> omega
    · obtain rfl : h = n := by omega
      rw [kids_zero' fun c hc _ => ind_ne (by omega), ind_self]
      split <;> rfl
/-- flows: what passes each pool -/
def IsFlow (par : Par) (net f : Nat → Int) : Prop := ∀ p, p < par.length → f p = max 0 (net p + kids par p f par.length)
theorem IsFlow.nonneg {par : Par} {net f : Nat → Int} (h : IsFlow par net f) {p : Nat} (hp : p < par.length) : 0 ≤ f p := by rw [h p hp]; omega
theorem IsFlow.congr {par : Par} {net net' f f' : Nat → Int} (h : IsFlow par net f) (h1 : ∀ p, p < par.length → net p = net' p) (h2 : ∀ p, p < par.length → f p = f' p) : IsFlow par net' f' := by
  intro p hp
  rw [← h2 p hp, h p hp, h1 p hp]
  rw [kids_congr fun c hc _ => h2 c hc]
/-- downwards from the last pool -/
theorem down_induct {P : Nat → Prop} (n : Nat) (h : ∀ p, p < n → (∀ c, p < c → c < n → P c) → P p) : ∀ p, p < n → P p := by
  have : ∀ k p, p < n → n - p ≤ k → P p := by
    intro k
    induction k with
    | zero => intro p hp hk; omega
    | succ k ih => intro p hp hk; exact h p hp fun c h1 h2 => ih c h2 (by omega)
  exact fun p hp => this (n - p) p hp (Nat.le_refl _)
theorem IsFlow.mono {par : Par} (T : Tree par) {net net' f f' : Nat → Int} (h : IsFlow par net f) (h' : IsFlow par net' f') (hn : ∀ p, p < par.length → net p ≤ net' p) : ∀ p, p < par.length → f p ≤ f' p := by
  refine down_induct _ fun p hp ih => ?_
  have := kids_le (par := par) (p := p) (f := f) (g := f') (n := par.length) fun c hc hu => ih c (T.lt hu).1 hc
  have := hn p hp
  rw [h p hp, h' p hp]
  omega
theorem IsFlow.unique {par : Par} (T : Tree par) {net f f' : Nat → Int} (h : IsFlow par net f) (h' : IsFlow par net f') : ∀ p, p < par.length → f p = f' p := fun p hp =>
  Int.le_antisymm (h.mono T h' (fun _ _ => Int.le_refl _) p hp) (h'.mono T h (fun _ _ => Int.le_refl _) p hp)
/-- what comes to a pool beyond its room -/
def xs (par : Par) (net f : Nat → Int) (p : Nat) : Int := net p + kids par p f par.length
def fullB (par : Par) (net f : Nat → Int) (p : Nat) : Bool := decide (0 ≤ xs par net f p)
/-- the pools that a further request at h passes -/
def pass (par : Par) (net f : Nat → Int) (h : Nat) : List Nat := (way par h).takeWhile (fullB par net f)
def inds (l : List Nat) : Nat → Int := fun p => if p ∈ l then 1 else 0
theorem IsFlow.insert {par : Par} (T : Tree par) : ∀ {h : Nat}, h < par.length → ∀ {net f : Nat → Int}, IsFlow par net f → IsFlow par (fun p => net p + ind h p) (fun p => f p + inds (pass par net f h) p) := by
  intro h
  induction h using Nat.strongRecOn with
  | _ h ih =>
    intro hh net f F
    by_cases hx : 0 ≤ xs par net f h
    · -- full
      have hF : IsFlow par (fun p => net p + ind h p - (match up par h with | some q => ind q p | none => 0)) (fun p => f p + ind h p) := by
        intro p hp
        rw [kids_add, kids_ind hh]
        have h0 := F p hp
        dsimp only
        unfold xs at hx
        by_cases e : p = h
        · subst e
          have e2 : (match up par p with | some q => ind q p | none => 0) = 0 := by
            cases hu : up par p with
            | none => rfl
            | some q => exact ind_ne (by have := (T.lt hu).1; omega)
          have e3 : ¬ up par p = some p := fun hu => by have := (T.lt hu).1; omega
          rw [e2, ind_self, if_neg e3, h0]; omega
        · rw [ind_ne e]
          by_cases hu : up par h = some p
          · rw [hu, if_pos rfl]
            show f p + 0 = max 0 ((net p + 0 - ind p p) + _)
            rw [ind_self, h0]; omega
          · rw [if_neg hu]
            have e2 : (match up par h with | some q => ind q p | none => 0) = 0 := by
              cases hu' : up par h with
              | none => rfl
              | some q => exact ind_ne fun e => hu (by rw [hu', e])
            rw [e2, h0]; omega
      have hfull : fullB par net f h = true := by simp [fullB, hx]
      cases hu : up par h with
      | none =>
        have e1 : pass par net f h = [h] := by unfold pass; rw [way_none hu, List.takeWhile_cons, hfull]; rfl
        rw [e1]
        refine hF.congr (fun p hp => by rw [hu]; dsimp only; omega) (fun p hp => ?_)
        unfold inds ind; simp
      | some q =>
        have hlt := (T.lt hu).1
        rw [hu] at hF
        dsimp only at hF
        have hk : ∀ p, p ≤ q → xs par (fun p => net p + ind h p - ind q p) (fun p => f p + ind h p) p = xs par net f p := by
          intro p hp
          unfold xs
          rw [kids_add, kids_ind hh, hu]
          dsimp only
          rw [ind_ne (show p ≠ h by omega)]
          by_cases e : p = q
          · subst e; rw [ind_self, if_pos rfl]; omega
          · rw [ind_ne e, if_neg (fun e' => e (Option.some.inj e').symm)]; omega
        have e1 : pass par (fun p => net p + ind h p - ind q p) (fun p => f p + ind h p) q = pass par net f q := by
          have key : ∀ l : List Nat, (∀ p ∈ l, p ≤ q) → l.takeWhile (fullB par (fun p => net p + ind h p - ind q p) (fun p => f p + ind h p)) = l.takeWhile (fullB par net f) := by
            intro l
            induction l with
            | nil => intro _; rfl
            | cons a l ih =>
              intro hl
              have ea : fullB par (fun p => net p + ind h p - ind q p) (fun p => f p + ind h p) a = fullB par net f a := by
                unfold fullB; rw [hk a (hl a List.mem_cons_self)]
              rw [List.takeWhile_cons, List.takeWhile_cons, ea, ih fun p hp => hl p (List.mem_cons_of_mem _ hp)]
          exact key _ fun p hp => way_le hp
        have h2 := ih q hlt (by omega) hF
        rw [e1] at h2
        have e3 : pass par net f h = h :: pass par net f q := by unfold pass; rw [T.way_up hu, List.takeWhile_cons, hfull]; rfl
        refine h2.congr (fun p hp => by omega) (fun p hp => ?_)
        rw [e3]
        have hnm : h ∉ pass par net f q := fun hm => by
          have := way_le ((List.takeWhile_sublist _).subset hm); omega
        unfold inds ind
        by_cases e : p = h
        · subst e; simp [hnm]
        · simp [e]
    · -- room
      have hfull : fullB par net f h = false := by simp [fullB, hx]
      have e1 : pass par net f h = [] := by
        unfold pass
        rw [way, List.takeWhile_cons, hfull]; rfl
      rw [e1]
      intro p hp
      have h0 := F p hp
      dsimp only
      have e2 : kids par p (fun c => f c + inds [] c) par.length = kids par p f par.length := kids_congr fun c _ _ => by simp [inds]
      rw [e2]
      unfold xs at hx
      by_cases e : p = h
      · subst e; rw [ind_self, h0]; simp only [inds, List.not_mem_nil, if_false]; omega
      · rw [ind_ne e, h0]; simp only [inds, List.not_mem_nil, if_false]; omega

/-! ### the loop that computes a flow -/
def gI (l : List Int) (p : Nat) : Int := l.getD p 0
theorem gI_set {l : List Int} {p q : Nat} {v : Int} (h : p < l.length) : gI (l.set p v) q = if q = p then v else gI l q := by
  unfold gI
  rw [List.getD_eq_getElem?_getD, List.getD_eq_getElem?_getD, List.getElem?_set]
  by_cases e : p = q
  · subst e; simp [h]
  · simp [e, Ne.symm e]
def upTo (par : Par) (p : Nat) (f : List Int) (v : Int) : List Int := match up par p with
  | some q => f.set q (gI f q + v)
  | none => f
def passStep (par : Par) (room : Nat → Int) (f : List Int) (p : Nat) : List Int := upTo par p (f.set p (max 0 (gI f p - room p))) (max 0 (gI f p - room p))
def passAll (par : Par) (room : Nat → Int) (f : List Int) : List Int := (List.range par.length).reverse.foldl (passStep par room) f
theorem upTo_len (par : Par) (p : Nat) (f : List Int) (v : Int) : (upTo par p f v).length = f.length := by unfold upTo; split <;> simp
theorem passStep_len (par : Par) (room : Nat → Int) (f : List Int) (p : Nat) : (passStep par room f p).length = f.length := by simp [passStep, upTo_len]
theorem passStep_at {par : Par} (T : Tree par) {room : Nat → Int} {f : List Int} {p : Nat} (hp : p < f.length) (hl : f.length = par.length) (q : Nat) :
    gI (passStep par room f p) q = if q = p then max 0 (gI f p - room p) else gI f q + (if up par p = some q then max 0 (gI f p - room p) else 0) := by
  unfold passStep upTo
  generalize max 0 (gI f p - room p) = v
  cases hu : up par p with
  | none =>
    dsimp only
    rw [gI_set hp]
    simp
  | some r =>
    have hr := T.lt hu
    dsimp only
    rw [gI_set (by simp; omega), gI_set hp, gI_set hp]
    by_cases e : q = r
    · subst e
      rw [if_pos rfl, if_neg (by omega), if_neg (by omega), if_pos rfl]
    · rw [if_neg e]
      by_cases e2 : q = p
      · rw [if_pos e2, if_pos e2]
      · rw [if_neg e2, if_neg e2, if_neg (fun h => e (Option.some.inj h).symm)]; omega
structure PInv (par : Par) (room : Nat → Int) (f0 : Nat → Int) (m : Nat) (f : List Int) : Prop where
  len : f.length = par.length
  hi : ∀ p, m ≤ p → p < par.length → gI f p = max 0 (f0 p - room p + kids par p (gI f) par.length)
  lo : ∀ p, p < m → gI f p = f0 p + (kids par p (gI f) par.length - kids par p (gI f) m)
theorem Tree.kids_low {par : Par} (T : Tree par) {p m : Nat} (h : m ≤ p + 1) (f : Nat → Int) : kids par p f m = 0 :=
  (kids_congr (g := fun _ => 0) fun c hc hu => by have := (T.lt hu).1; omega).trans kids_zero
theorem PInv.step {par : Par} (T : Tree par) {room f0 : Nat → Int} {m : Nat} {f : List Int} (hm : m < par.length) (I : PInv par room f0 (m + 1) f) : PInv par room f0 m (passStep par room f m) := by
  have hl := I.len
  have at' := fun q => passStep_at T (room := room) (f := f) (p := m) (by omega) hl q
  have hne : ∀ c, c ≠ m → up par m ≠ some c → gI (passStep par room f m) c = gI f c := fun c h1 h2 => by rw [at', if_neg h1, if_neg h2]; omega
  have hgt : ∀ c, m < c → gI (passStep par room f m) c = gI f c := fun c h1 => hne c (by omega) fun hu => by have := (T.lt hu).1; omega
  refine ⟨by rw [passStep_len]; exact hl, fun p h1 h2 => ?_, fun p h1 => ?_⟩
  · have ek : kids par p (gI (passStep par room f m)) par.length = kids par p (gI f) par.length := kids_congr fun c hc hu => hgt c (by have := (T.lt hu).1; omega)
    rw [ek]
    rcases Nat.eq_or_lt_of_le h1 with e | e
    · subst e
      rw [at', if_pos rfl]
      have := I.lo m (by omega)
      rw [T.kids_low (Nat.le_refl _)] at this
      rw [this]
      congr 1; omega
    · rw [hgt p e]; exact I.hi p (by omega) h2
  · have h3 := I.lo p (by omega)
    have ek := kids_sub_congr (par := par) (p := p) (f := gI (passStep par room f m)) (g := gI f) (a := m + 1) (b := par.length) hm fun c h1 h2 _ => hgt c (by omega)
    rw [kids_succ (n := m)] at ek
    rw [at' p, if_neg (by omega), h3]
    rw [at' m, if_pos rfl] at ek
    omega
theorem pass_flow {par : Par} (T : Tree par) {room : Nat → Int} {f : List Int} (hl : f.length = par.length) : (passAll par room f).length = par.length ∧ IsFlow par (fun p => gI f p - room p) (gI (passAll par room f)) := by
  have key : ∀ m g, m ≤ par.length → PInv par room (gI f) m g → PInv par room (gI f) 0 ((List.range m).foldr (fun p f => passStep par room f p) g) := by
    intro m
    induction m with
    | zero => intro g _ h; exact h
    | succ m ih =>
      intro g hm h
      rw [List.range_succ, List.foldr_append]
      exact ih _ (by omega) (h.step T (by omega))
  have h := key par.length f (Nat.le_refl _) ⟨hl, fun p h1 h2 => by omega, fun p _ => by omega⟩
  have e : passAll par room f = (List.range par.length).foldr (fun p f => passStep par room f p) f := by
    unfold passAll; rw [List.foldl_reverse]
  rw [e]
  exact ⟨h.len, fun p hp => h.hi p (by omega) hp⟩
/-! ### one after the other -/
def upto (b : Nat → Bool) : List Nat → List Nat
  | [] => []
  | a :: l => if b a then a :: upto b l else [a]
theorem upto_sub {b : Nat → Bool} : ∀ {l : List Nat} {x : Nat}, x ∈ upto b l → x ∈ l
  | [], _, h => nomatch h
  | a :: l, x, h => by
    unfold upto at h
    split at h
    · rcases List.mem_cons.mp h with e | h
      · exact e ▸ List.mem_cons_self
      · exact List.mem_cons_of_mem _ (upto_sub h)
    · exact (List.mem_singleton.mp h) ▸ List.mem_cons_self
theorem inds_cons {a : Nat} {l : List Nat} (h : a ∉ l) (p : Nat) : inds (a :: l) p = ind a p + inds l p := by
  unfold inds ind
  by_cases e : p = a
  · subst e; simp [h]
  · simp [e]
theorem Tree.kids_while {par : Par} (T : Tree par) (b : Nat → Bool) : ∀ {h : Nat}, h < par.length → ∀ p, ind h p + kids par p (inds ((way par h).takeWhile b)) par.length = inds (upto b (way par h)) p := by
  intro h
  induction h using Nat.strongRecOn with
  | _ h ih =>
    intro hh p
    cases hb : b h with
    | false =>
      have e1 : (way par h).takeWhile b = [] := by rw [way, List.takeWhile_cons, hb]; rfl
      have e2 : upto b (way par h) = [h] := by rw [way]; simp [upto, hb]
      rw [e1, e2, kids_zero' fun c _ _ => by simp [inds]]
      unfold ind inds; simp
    | true =>
      cases hu : up par h with
      | none =>
        have e1 : (way par h).takeWhile b = [h] := by rw [way_none hu, List.takeWhile_cons, hb]; rfl
        have e2 : upto b (way par h) = [h] := by rw [way_none hu]; simp [upto, hb]
        rw [e1, e2]
        have e3 : inds [h] = ind h := by funext p; unfold ind inds; simp
        rw [e3, kids_ind hh, hu]; simp
      | some q =>
        have hlt := (T.lt hu).1
        have e1 : (way par h).takeWhile b = h :: (way par q).takeWhile b := by rw [T.way_up hu, List.takeWhile_cons, hb]; rfl
        have e2 : upto b (way par h) = h :: upto b (way par q) := by rw [T.way_up hu]; simp [upto, hb]
        have n1 : h ∉ (way par q).takeWhile b := fun hm => by have := way_le ((List.takeWhile_sublist _).subset hm); omega
        have n2 : h ∉ upto b (way par q) := fun hm => by have := way_le (upto_sub hm); omega
        rw [e1, e2, inds_cons n2]
        have e3 : inds (h :: (way par q).takeWhile b) = fun p => ind h p + inds ((way par q).takeWhile b) p := funext fun p => inds_cons n1 p
        rw [e3, kids_add, kids_ind hh, hu]
        have := ih q hlt (by omega) p
        unfold ind at this ⊢
        by_cases e : p = q
        · subst e; simp at this ⊢; omega
        · have e' : ¬ (some q = some p) := fun h => e (Option.some.inj h).symm
          simp [e, e'] at this ⊢; omega
theorem Tree.xs_insert {par : Par} (T : Tree par) {net f : Nat → Int} {h : Nat} (hh : h < par.length) (p : Nat) :
    xs par (fun p => net p + ind h p) (fun p => f p + inds (pass par net f h) p) p = xs par net f p + inds (upto (fullB par net f) (way par h)) p := by
  unfold xs
  rw [kids_add]
  have := T.kids_while (fullB par net f) hh p
  unfold pass
  dsimp only
  omega
/-- some requests have begun one after the other: what is left, how many were refused -/
structure Sq (par : Par) (room cnt left : Nat → Int) (ref : Int) (f : Nat → Int) : Prop where
  flow : IsFlow par (fun p => cnt p - room p) f
  left : ∀ p, p < par.length → left p = max 0 (- xs par (fun p => cnt p - room p) f p)
  ref : ref = f 0
theorem Sq.init {par : Par} {room : Nat → Int} (h : ∀ p, p < par.length → 0 ≤ room p) : Sq par room (fun _ => 0) room 0 (fun _ => 0) := by
  refine ⟨fun p hp => ?_, fun p hp => ?_, rfl⟩
  · rw [kids_zero]; have := h p hp; dsimp only; omega
  · unfold xs; rw [kids_zero]; have := h p hp; dsimp only; omega
theorem mem_takeWhile {b : Nat → Bool} : ∀ {l : List Nat} {x : Nat}, x ∈ l.takeWhile b → b x = true
  | a :: l, x, h => by
    rw [List.takeWhile_cons] at h
    split at h
    · rcases List.mem_cons.mp h with e | h
      · subst e; assumption
      · exact mem_takeWhile h
    · cases h
theorem find_while {b c : Nat → Bool} : ∀ {l : List Nat}, (∀ p ∈ l, c p = !b p) → (∀ q : Nat, l.find? c = some q → upto b l = l.takeWhile b ++ [q]) ∧ (l.find? c = none → upto b l = l.takeWhile b ∧ l.takeWhile b = l)
  | [], _ => ⟨(fun _ h => nomatch (show (none : Option Nat) = some _ from h)), fun _ => ⟨rfl, rfl⟩⟩
  | a :: l, h => by
    have ih := find_while (b := b) (c := c) (l := l) fun p hp => h p (List.mem_cons_of_mem _ hp)
    have ha := h a List.mem_cons_self
    cases hb : b a with
    | true =>
      rw [hb] at ha
      simp only [List.find?_cons, ha, Bool.not_true, upto, hb, if_true, List.takeWhile_cons, List.cons_append, List.cons.injEq, true_and]
      exact ih
    | false =>
      rw [hb] at ha
      simp [List.find?_cons, ha, upto, hb, List.takeWhile_cons]
theorem Sq.step {par : Par} (T : Tree par) {room cnt left : Nat → Int} {ref : Int} {f : Nat → Int} (S : Sq par room cnt left ref f) {h : Nat} (hh : h < par.length) :
    (∀ q, (way par h).find? (fun p => decide (0 < left p)) = some q → ∃ f', Sq par room (fun p => cnt p + ind h p) (fun p => left p - ind q p) ref f' ∧ ∀ p, f' p = f p + inds (pass par (fun p => cnt p - room p) f h) p) ∧
    ((way par h).find? (fun p => decide (0 < left p)) = none → ∃ f', Sq par room (fun p => cnt p + ind h p) left (ref + 1) f' ∧ ∀ p, f' p = f p + inds (pass par (fun p => cnt p - room p) f h) p) := by
  have hc : ∀ p ∈ way par h, decide (0 < left p) = !fullB par (fun p => cnt p - room p) f p := by
    intro p hp
    have := S.left p (T.way_mem hp hh)
    unfold fullB
    by_cases e : 0 ≤ xs par (fun p => cnt p - room p) f p
    · simp [e]; omega
    · simp [e]; omega
  have hw := find_while hc
  have F := (S.flow.insert T hh).congr (net' := fun p => cnt p + ind h p - room p) (f' := fun p => f p + inds (pass par (fun p => cnt p - room p) f h) p) (fun p _ => by omega) fun p _ => rfl
  have X : ∀ p, xs par (fun p => cnt p + ind h p - room p) (fun p => f p + inds (pass par (fun p => cnt p - room p) f h) p) p = xs par (fun p => cnt p - room p) f p + inds (upto (fullB par (fun p => cnt p - room p) f) (way par h)) p := by
    intro p
    rw [← T.xs_insert hh p]
    congr 1; funext p; omega
  have L0 : ∀ p, p < par.length → inds (pass par (fun p => cnt p - room p) f h) p = 1 → 0 ≤ xs par (fun p => cnt p - room p) f p := by
    intro p hp h1
    unfold inds at h1
    split at h1
    · rename_i hm
      have := mem_takeWhile hm
      unfold fullB at this
      simpa using this
    · omega
  have i01 : ∀ (l : List Nat) (p : Nat), inds l p = 0 ∨ inds l p = 1 := fun l p => by unfold inds; split <;> simp
  constructor
  · intro q hq
    have hu := hw.1 q hq
    have hqm := List.mem_of_find?_eq_some hq
    have hq1 : ¬ 0 ≤ xs par (fun p => cnt p - room p) f q := by
      have := hc q hqm
      have hq2 := List.find?_some hq
      rw [this] at hq2
      unfold fullB at hq2
      simpa using hq2
    refine ⟨_, ⟨F, fun p hp => ?_, ?_⟩, fun p => rfl⟩
    · rw [X p, hu, S.left p hp]
      have e1 : inds ((way par h).takeWhile (fullB par (fun p => cnt p - room p) f) ++ [q]) p = inds (pass par (fun p => cnt p - room p) f h) p + ind q p := by
        have hn : q ∉ (way par h).takeWhile (fullB par (fun p => cnt p - room p) f) := fun hm => by
          have := mem_takeWhile hm
          unfold fullB at this
          simp at this; omega
        unfold pass inds ind
        by_cases e : p = q
        · subst e; simp [hn]
        · simp [e]
      rw [e1]
      rcases i01 (pass par (fun p => cnt p - room p) f h) p with e | e
      · rw [e]
        unfold ind
        split
        · rename_i e2; subst e2; omega
        · omega
      · have := L0 p hp e
        rw [e]
        have e2 : ind q p = 0 := ind_ne fun e3 => by subst e3; omega
        rw [e2]; omega
    · have h0 : inds (pass par (fun p => cnt p - room p) f h) 0 = 0 := by
        rcases i01 (pass par (fun p => cnt p - room p) f h) 0 with e | e
        · exact e
        · exfalso
          unfold inds at e
          split at e
          · rename_i hm
            unfold pass at hm
            -- 0 passes: all pass
            have hq3 : ∀ l : List Nat, (∀ x ∈ l, x ≠ 0 → True) → l.find? (fun p => decide (0 < left p)) = some q → (∀ p ∈ l, decide (0 < left p) = !fullB par (fun p => cnt p - room p) f p) → 0 ∈ l.takeWhile (fullB par (fun p => cnt p - room p) f) → l.Pairwise (· > ·) → False := by
              intro l
              induction l with
              | nil => intro _ h; cases h
              | cons a l ih =>
                intro _ h1 h2 h3 h4
                have ha := h2 a List.mem_cons_self
                rw [List.takeWhile_cons] at h3
                cases hb : fullB par (fun p => cnt p - room p) f a with
                | false => rw [hb] at h3; simp at h3
                | true =>
                  rw [hb] at h3 ha
                  rw [List.find?_cons, ha] at h1
                  simp only [Bool.not_true] at h1
                  rw [if_pos rfl] at h3
                  have h5 := (List.pairwise_cons.mp h4)
                  rcases List.mem_cons.mp h3 with e | h3
                  · subst e
                    have := h5.1 q (List.mem_of_find?_eq_some h1)
                    omega
                  · exact ih (fun _ _ _ => trivial) h1 (fun p hp => h2 p (List.mem_cons_of_mem _ hp)) h3 h5.2
            exact hq3 _ (fun _ _ _ => trivial) hq hc hm (way_desc par h)
          · omega
      rw [h0, S.ref]; omega
  · intro hn
    obtain ⟨hu1, hu2⟩ := hw.2 hn
    refine ⟨_, ⟨F, fun p hp => ?_, ?_⟩, fun p => rfl⟩
    · rw [X p, hu1, S.left p hp]
      rcases i01 (pass par (fun p => cnt p - room p) f h) p with e | e
      · unfold pass at e; rw [e]; omega
      · have := L0 p hp e
        unfold pass at e; rw [e]; omega
    · have h0 : inds (pass par (fun p => cnt p - room p) f h) 0 = 1 := by
        unfold pass inds
        rw [hu2, if_pos (T.root_mem hh)]
      rw [h0, S.ref]
end FB

set_option Elab.async false
set_option linter.all false
set_option maxRecDepth 100000
set_option maxHeartbeats 400000
namespace FB
open PySem
/-! ### the tables run without a heap -/
def PH (lt : List FDef) (n : Nat) : Oracle := Phi (cfgG lt) (tabG lt) n
def iteB {α : Type} : Bool → (Unit → α) → (Unit → α) → α
  | true, f, _ => f ()
  | false, _, g => g ()
def asB : Val → Env → R Bool
  | .imm (.bl b), ρ => .ok b ρ
  | _, _ => .stuck
def callB (r : FR) (as : List AV) (ρ : Env) : R Val := match r with
  | .ok fr d outs => opt (putOuts as outs ρ) fun ρ' => .ok (mkV (fr, d)) ρ'
  | .exc c fs outs => opt (putOuts as outs ρ) fun ρ' => .exc c fs ρ'
  | .stuck => .stuck
def bodyOf (C : Cfg) (Φ : Oracle) (tg : Tg) (b : Stms) : D → Env → SR := fun d ρ => optS (setTg ρ tg d) fun ρ => exSs C Φ b ρ
def compT (C : Cfg) (Φ : Oracle) (elt : Ex) (vs : List Nat) (b : Bool) (ρ : Env) : R (Option D) := iteB b (fun _ => (evE C Φ elt ρ).bind fun v ρ => opt (fz ρ v) fun p => .ok (some p.1) (wipeE p.2 vs)) fun _ => .ok none (wipeE ρ vs)
def turnOf (C : Cfg) (Φ : Oracle) (elt : Ex) (vs : List Nat) (tg : Tg) (ifs : Exs) : D → Env → R (Option D) := fun d ρ => opt (setTg ρ tg d) fun ρ => (evTs C Φ ifs ρ).bind fun b ρ => compT C Φ elt vs b ρ
def compE (ρ1 : Env) (vs : List Nat) (ys : List D) (ρ2 : Env) : R Val := iteB (decide (ys.length ≤ SZ)) (fun _ => .ok (.frs (.lst ys)) (backE ρ1 ρ2 vs)) fun _ => .stuck
def snapB (r : FR) (ρ : Env) : R Val := match r with
  | .ok fr d [] => if d.flat then .ok (.imm d) ρ else if fr && d.flats then .ok (.frs d) ρ else .stuck
  | _ => .stuck
def makeB (r : FR) (ρ : Env) : R Val := match r with
  | .ok false .non [o] => .ok (.imm o) ρ
  | .exc c' fs [_] => .exc c' fs ρ
  | _ => .stuck
def lenB (r : FR) (ρ : Env) : R Val := match r with
  | .ok _ (.int i) [] => if 0 ≤ i ∧ i < 1000000 then .ok (.imm (.int i)) ρ else .stuck
  | _ => .stuck
section
variable {α β γ : Type} {lt : List FDef} {n : Nat} {C : Cfg} {Φ : Oracle} {ρ ρ1 : Env}
theorem a0 {f g : Unit → α} : iteB true f g = f () := rfl
theorem a1 {f g : Unit → α} : iteB false f g = g () := rfl
-- binds
theorem b0 {a : α} {f : α → Env → R β} : (R.ok a ρ).bind f = f a ρ := rfl
theorem b1 {a : α} {f : α → Env → SR} : (R.ok a ρ).thn f = f a ρ := rfl
theorem b2 {a : α} {f : α → R β} : opt (some a) f = f a := rfl
theorem b3 {a : α} {f : α → SR} : optS (some a) f = f a := rfl
theorem b4 {a : α} {f : α → FR} : optF (some a) f = f a := rfl
theorem b5 {f : Env → SR} : (SR.next ρ).thn f = f ρ := rfl
theorem b6 {fr d} {f : Env → SR} : (SR.ret fr d ρ).thn f = .ret fr d ρ := rfl
theorem b7 {f : Env → SR} : (SR.brk ρ).thn f = .brk ρ := rfl
theorem b8 {f : Env → SR} : (SR.cont ρ).thn f = .cont ρ := rfl
theorem b9 {c fs} {f : Env → SR} : (SR.exc c fs ρ).thn f = .exc c fs ρ := rfl
theorem b10 {c fs} {f : α → Env → SR} : (R.exc c fs ρ).thn f = .exc c fs ρ := rfl
theorem b11 {c fs} {f : α → Env → R β} : (R.exc c fs ρ).bind f = .exc c fs ρ := rfl
-- nested
theorem c0 {r : R α} {f : α → Env → R β} {g : β → Env → R γ} : (r.bind f).bind g = r.bind fun a ρ => (f a ρ).bind g := by cases r <;> rfl
theorem c1 {r : R α} {f : α → Env → R β} {g : β → Env → SR} : (r.bind f).thn g = r.thn fun a ρ => (f a ρ).thn g := by cases r <;> rfl
theorem c2 {r : R α} {f : α → Env → SR} {g : Env → SR} : (r.thn f).thn g = r.thn fun a ρ => (f a ρ).thn g := by cases r <;> rfl
theorem c3 {r : SR} {f g : Env → SR} : (r.thn f).thn g = r.thn fun ρ => (f ρ).thn g := by cases r <;> rfl
theorem c4 {o : Option α} {f : α → R β} {g : β → Env → R γ} : (opt o f).bind g = opt o fun a => (f a).bind g := by cases o <;> rfl
theorem c5 {o : Option α} {f : α → R β} {g : β → Env → SR} : (opt o f).thn g = optS o fun a => (f a).thn g := by cases o <;> rfl
theorem c6 {o : Option α} {f : α → SR} {g : Env → SR} : (optS o f).thn g = optS o fun a => (f a).thn g := by cases o <;> rfl
theorem c7 {b : Bool} {f g : Unit → R α} {k : α → Env → R β} : (iteB b f g).bind k = iteB b (fun _ => (f ()).bind k) fun _ => (g ()).bind k := by cases b <;> rfl
theorem c8 {b : Bool} {f g : Unit → R α} {k : α → Env → SR} : (iteB b f g).thn k = iteB b (fun _ => (f ()).thn k) fun _ => (g ()).thn k := by cases b <;> rfl
theorem c9 {b : Bool} {f g : Unit → SR} {k : Env → SR} : (iteB b f g).thn k = iteB b (fun _ => (f ()).thn k) fun _ => (g ()).thn k := by cases b <;> rfl
-- expressions
theorem e0 {i} : evE C Φ (.var i) ρ = opt (varV ρ i) fun v => .ok v ρ := rfl
theorem e1 {d} : evE C Φ (.lit d) ρ = .ok (.imm d) ρ := rfl
theorem e2 {x i} : evE C Φ (.glb x i) ρ = .ok (.imm (.int i)) ρ := rfl
theorem e3 {op a b} : evE C Φ (.bin op a b) ρ = (evE C Φ a ρ).bind fun va ρ1 => (evE C Φ b ρ1).bind fun vb ρ2 =>
      opt (rd ρ2 va) fun x => opt (rd ρ2 vb) fun y => opt (binop op x y) fun r => .ok (mkV r) ρ2 := rfl
def negV (o : Option D) (ρ1 : Env) : R Val := match o with
      | some (.int i) => .ok (.imm (.int (-i))) ρ1
      | _ => .stuck
theorem e4 {a} : evE C Φ (.neg a) ρ = (evE C Φ a ρ).bind fun va ρ1 => negV (rd ρ1 va) ρ1 := rfl
theorem e4' {i} : negV (some (.int i)) ρ = .ok (.imm (.int (-i))) ρ := rfl
theorem e5 {op a b} : evE C Φ (.cmp op a b) ρ = (evE C Φ a ρ).bind fun va ρ1 => (evE C Φ b ρ1).bind fun vb ρ2 =>
      opt (rd ρ2 va) fun x => opt (rd ρ2 vb) fun y => opt (cmpop op x y) fun r => .ok (.imm (.bl r)) ρ2 := rfl
theorem e6 {op op' a b c} : evE C Φ (.chain op op' a b c) ρ = (evE C Φ a ρ).bind fun va ρ1 => (evE C Φ b ρ1).bind fun vb ρ2 =>
      opt (rd ρ2 va) fun x => opt (rd ρ2 vb) fun y => opt (cmpop op x y) fun r =>
        iteB r (fun _ => (evE C Φ c ρ2).bind fun vc ρ3 => opt (rd ρ3 vb) fun y => opt (rd ρ3 vc) fun z => opt (cmpop op' y z) fun r' => .ok (.imm (.bl r')) ρ3) fun _ => .ok (.imm (.bl false)) ρ2 := by
  show (evE C Φ a ρ).bind _ = _
  congr 1; funext va ρ1; congr 1; funext vb ρ2; congr 1; funext x; congr 1; funext y; congr 1; funext r; cases r <;> rfl
theorem e7 {a} : evE C Φ (.not a) ρ = (evE C Φ a ρ).bind fun va ρ1 => (asB va ρ1).bind fun b ρ1 => .ok (.imm (.bl (!b))) ρ1 := by
  show (evE C Φ a ρ).bind _ = _
  congr 1; funext va ρ1
  cases va with
  | imm d => cases d <;> rfl
  | frs d => rfl
  | vr i => rfl
theorem e8 {a b} : evE C Φ (.and a b) ρ = (evE C Φ a ρ).bind fun va ρ1 => (asB va ρ1).bind fun t ρ1 => iteB t (fun _ => evE C Φ b ρ1) fun _ => .ok (.imm (.bl false)) ρ1 := by
  show (evE C Φ a ρ).bind _ = _
  congr 1; funext va ρ1
  cases va with
  | imm d => cases d <;> first | rfl | (rename_i t; cases t <;> rfl)
  | frs d => rfl
  | vr i => rfl
theorem e9 {a b} : evE C Φ (.or a b) ρ = (evE C Φ a ρ).bind fun va ρ1 => (asB va ρ1).bind fun t ρ1 => iteB t (fun _ => .ok (.imm (.bl true)) ρ1) fun _ => evE C Φ b ρ1 := by
  show (evE C Φ a ρ).bind _ = _
  congr 1; funext va ρ1
  cases va with
  | imm d => cases d <;> first | rfl | (rename_i t; cases t <;> rfl)
  | frs d => rfl
  | vr i => rfl
theorem e10 {t a b} : evE C Φ (.ife t a b) ρ = (evE C Φ t ρ).bind fun va ρ1 => (asB va ρ1).bind fun t ρ1 => iteB t (fun _ => evE C Φ a ρ1) fun _ => evE C Φ b ρ1 := by
  show (evE C Φ t ρ).bind _ = _
  congr 1; funext va ρ1
  cases va with
  | imm d => cases d <;> first | rfl | (rename_i t; cases t <;> rfl)
  | frs d => rfl
  | vr i => rfl
theorem e11 {es} : evE C Φ (.lstD es) ρ = (evL C Φ es ρ).bind fun ds ρ1 => .ok (.frs (.lst ds)) ρ1 := rfl
theorem e12 {es} : evE C Φ (.tupD es) ρ = (evL C Φ es ρ).bind fun ds ρ1 => .ok (.imm (.tup ds)) ρ1 := rfl
theorem e13 {a b} : evE C Φ (.idx a b) ρ = (evE C Φ a ρ).bind fun va ρ1 => (evE C Φ b ρ1).bind fun vb ρ2 =>
      opt (rd ρ2 va) fun x => opt (rd ρ2 vb) fun y => opt (idxD x y) fun r => .ok (.imm r) ρ2 := rfl
theorem e14 {a lo hi} : evE C Φ (.slc a lo hi) ρ = (evE C Φ a ρ).bind fun va ρ1 => (evO C Φ lo ρ1).bind fun l ρ2 => (evO C Φ hi ρ2).bind fun h ρ3 =>
      opt (rd ρ3 va) fun x => opt (slcD x l h) fun r => .ok (mkV r) ρ3 := rfl
theorem e15 {a} : evE C Φ (.rev a) ρ = (evE C Φ a ρ).bind fun va ρ1 => opt (rd ρ1 va) fun x => opt (revD x) fun r => .ok (mkV r) ρ1 := rfl
theorem e16 {a f} : evE C Φ (.fld a f) ρ = (evE C Φ a ρ).bind fun va ρ1 => opt (rd ρ1 va) fun x => opt (fldD f x) fun r => .ok (.imm r) ρ1 := rfl
def bltV (C : Cfg) (Φ : Oracle) (b : Blt) (vs : List Val) (ρ1 : Env) : R Val := match lenO b vs with
      | some (c, fs) => opt (C.lenF c) fun f => lenB (Φ f [.obj c fs]) ρ1
      | none => opt (vs.mapM (rd ρ1)) fun ds => opt (bltD b ds) fun r => .ok (mkV r) ρ1
theorem e17 {b es} : evE C Φ (.blt b es) ρ = (evV C Φ es ρ).bind fun vs ρ1 => bltV C Φ b vs ρ1 := rfl
theorem e17a {b} {vs : List Val} (h : lenO b vs = none) : bltV C Φ b vs ρ = opt (vs.mapM (rd ρ)) fun ds => opt (bltD b ds) fun r => .ok (mkV r) ρ := by unfold bltV; rw [h]
theorem e17b {c fs} : bltV C Φ .len [.imm (.obj c fs)] ρ = opt (C.lenF c) fun f => lenB (Φ f [.obj c fs]) ρ := rfl
theorem v0 {b xs} : bltV C Φ b [.imm (.tup xs)] ρ = opt (bltD b [.tup xs]) fun r => .ok (mkV r) ρ := by cases b <;> rfl
theorem v1 {b xs} : bltV C Φ b [.imm (.lst xs)] ρ = opt (bltD b [.lst xs]) fun r => .ok (mkV r) ρ := by cases b <;> rfl
theorem v2 {b i} : bltV C Φ b [.imm (.int i)] ρ = opt (bltD b [.int i]) fun r => .ok (mkV r) ρ := by cases b <;> rfl
theorem v3 {b i} : bltV C Φ b [.imm (.bl i)] ρ = opt (bltD b [.bl i]) fun r => .ok (mkV r) ρ := by cases b <;> rfl
theorem v4 {b i} : bltV C Φ b [.vr i] ρ = opt (slotD ρ i) fun x => opt (bltD b [x]) fun r => .ok (mkV r) ρ := by cases b <;> (unfold bltV; simp only [lenO, List.mapM_cons, rd, List.mapM_nil]; cases slotD ρ i <;> rfl)
theorem v5 {b x y} : bltV C Φ b [.imm x, .imm y] ρ = opt (bltD b [x, y]) fun r => .ok (mkV r) ρ := by cases b <;> (unfold bltV; simp only [lenO]; rfl)
theorem e18 {a t} : evE C Φ (.isi a t) ρ = (evE C Φ a ρ).bind fun va ρ1 => opt (rd ρ1 va) fun x => opt (isiT x t) fun r => .ok (.imm (.bl r)) ρ1 := rfl
theorem e19 {it} : evE C Φ (.listR it) ρ = (evI C Φ it ρ).bind fun ds ρ1 => iteB (decide (ds.length ≤ SZ)) (fun _ => .ok (.frs (.lst ds)) ρ1) fun _ => .stuck := by
  show (evI C Φ it ρ).bind _ = _
  congr 1; funext ds ρ1
  by_cases h : ds.length ≤ SZ <;> simp [h, iteB]
theorem e20 {f es} : evE C Φ (.call f false es) ρ = opt (C.raws f) fun ms => (evA C Φ ms es ρ).bind fun as ρ1 => callA Φ f as ρ1 := rfl
theorem e21 {f es} : evE C Φ (.call f true es) ρ = opt (C.raws f) fun ms => (evV C Φ es ρ).bind fun vs ρ1 => opt (vs.mapM (rd ρ1)) fun ds => iteB (decide (ms = List.replicate ds.length false)) (fun _ => snapB (Φ f ds) ρ1) fun _ => .stuck := by
  show opt _ _ = _
  congr 1; funext ms
  simp only [if_true]
  congr 1; funext vs ρ1
  congr 1; funext ds
  by_cases h : ms = List.replicate ds.length false
  · rw [if_pos h, decide_eq_true h]; rfl
  · rw [if_neg h, decide_eq_false h]; rfl
theorem e22 {f m o es} : evE C Φ (.meth f m o es) ρ = opt (C.raws f) fun ms => (evE C Φ o ρ).bind fun vo ρ1 => opt (fz ρ1 vo) fun p => iteB (methOk m p.1) (fun _ => (evL C Φ es p.2).bind fun ds ρ2 =>
      iteB (decide (ms = List.replicate (ds.length + 1) false)) (fun _ => callA Φ f (.plain p.1 :: ds.map .plain) ρ2) fun _ => .stuck) fun _ => .stuck := by
  show opt _ _ = _
  congr 1; funext ms
  congr 1; funext vo ρ1
  congr 1; funext ⟨dO, ρ1⟩
  dsimp only
  cases methOk m dO
  · rfl
  · show (evL C Φ es ρ1).bind _ = (evL C Φ es ρ1).bind _
    congr 1; funext ds ρ2
    by_cases h : ms = List.replicate (ds.length + 1) false <;> simp [h, iteB]
theorem e23 {c es} : evE C Φ (.make c es) ρ = opt (C.init c) fun f => opt (C.raws f) fun ms => (evL C Φ es ρ).bind fun ds ρ1 => iteB (decide (ms = true :: List.replicate ds.length false)) (fun _ => makeB (Φ f (.obj c [] :: ds)) ρ1) fun _ => .stuck := by
  show opt _ _ = _
  congr 1; funext f
  congr 1; funext ms
  congr 1; funext ds ρ1
  by_cases h : ms = true :: List.replicate ds.length false <;> simp [h, iteB]
  rfl
def mthV (m : Mth) (vo : Val) (ds : List D) (ρ2 : Env) : R Val := if m.look then
        opt (rd ρ2 vo) fun x => opt (mthR m x ds) fun r => .ok (.imm r) ρ2
      else (match vo with
        | .vr i => (match ownD ρ2 i with
          | some (.lst xs) => opt (mthD m xs ds) fun (r, ys) => .ok (.imm r) (ρ2.set i (some ⟨true, .lst ys⟩))
          | _ => .stuck)
        | .frs (.lst xs) => opt (mthD m xs ds) fun (r, _) => .ok (.imm r) ρ2
        | _ => .stuck)
theorem e24 {m o es} : evE C Φ (.mth m o es) ρ = (evE C Φ o ρ).bind fun vo ρ1 => iteB (isL (rd ρ1 vo)) (fun _ => (evL C Φ es ρ1).bind fun ds ρ2 => mthV m vo ds ρ2) fun _ => .stuck := by
  show (evE C Φ o ρ).bind _ = _
  congr 1; funext vo ρ1
  cases isL (rd ρ1 vo) <;> rfl
def mthO (m : Mth) (i : Nat) (ds : List D) (ρ : Env) : Option D → R Val
  | some (.lst xs) => opt (mthD m xs ds) fun p => .ok (.imm p.1) (ρ.set i (some ⟨true, .lst p.2⟩))
  | _ => .stuck
theorem mo0 {i ds} : mthV .append (.vr i) ds ρ = mthO .append i ds ρ (ownD ρ i) := by
  unfold mthV mthO
  simp only [Mth.look, Bool.false_eq_true, if_false]
theorem mo1 {i ds} : mthV .pop0 (.vr i) ds ρ = mthO .pop0 i ds ρ (ownD ρ i) := by
  unfold mthV mthO
  simp only [Mth.look, Bool.false_eq_true, if_false]
theorem mo2 {i ds} : mthV .pop1 (.vr i) ds ρ = mthO .pop1 i ds ρ (ownD ρ i) := by
  unfold mthV mthO
  simp only [Mth.look, Bool.false_eq_true, if_false]
theorem mo3 {i ds} : mthV .clear (.vr i) ds ρ = mthO .clear i ds ρ (ownD ρ i) := by
  unfold mthV mthO
  simp only [Mth.look, Bool.false_eq_true, if_false]
theorem mo4 {i ds} : mthV .extend (.vr i) ds ρ = mthO .extend i ds ρ (ownD ρ i) := by
  unfold mthV mthO
  simp only [Mth.look, Bool.false_eq_true, if_false]
theorem mo5 {m i ds xs} : mthO m i ds ρ (some (.lst xs)) = opt (mthD m xs ds) fun p => .ok (.imm p.1) (ρ.set i (some ⟨true, .lst p.2⟩)) := rfl
theorem mo7 {ds xs} : mthV .append (.frs (.lst xs)) ds ρ = opt (mthD .append xs ds) fun p => .ok (.imm p.1) ρ := rfl
theorem mo8 {ds xs} : mthV .clear (.frs (.lst xs)) ds ρ = opt (mthD .clear xs ds) fun p => .ok (.imm p.1) ρ := rfl
theorem mo9 {xs} : mthD .clear xs [] = some (.non, []) := rfl
theorem mo6 {v ds} : mthV .index v ds ρ = opt (rd ρ v) fun x => opt (mthR .index x ds) fun r => .ok (.imm r) ρ := rfl
theorem e25 {elt vs tg it ifs} : evE C Φ (.comp elt vs tg it ifs) ρ = (evI C Φ it ρ).bind fun ds ρ1 => (compLoop (turnOf C Φ elt vs tg ifs) ds (wipeE ρ1 vs)).bind fun ys ρ2 => compE ρ1 vs ys ρ2 := by
  show (evI C Φ it ρ).bind _ = _
  congr 1; funext ds ρ1
  have h1 : (fun d ρ => opt (setTg ρ tg d) fun ρ => (evTs C Φ ifs ρ).bind fun b ρ =>
        if b then (evE C Φ elt ρ).bind fun v ρ => opt (fz ρ v) fun (y, ρ) => .ok (some y) (wipeE ρ vs) else .ok none (wipeE ρ vs)) = turnOf C Φ elt vs tg ifs := by
    funext d ρ
    unfold turnOf
    congr 1; funext ρ
    congr 1; funext b ρ
    unfold compT
    cases b <;> rfl
  rw [h1]
  congr 1; funext ys ρ2
  unfold compE
  by_cases h : ys.length ≤ SZ <;> simp [h, iteB]
theorem ct0 {elt vs b} : compT C Φ elt vs b ρ = iteB b (fun _ => (evE C Φ elt ρ).bind fun v ρ => opt (fz ρ v) fun p => .ok (some p.1) (wipeE p.2 vs)) fun _ => .ok none (wipeE ρ vs) := rfl
theorem ct1 {elt vs tg ifs d} : turnOf C Φ elt vs tg ifs d ρ = opt (setTg ρ tg d) fun ρ => (evTs C Φ ifs ρ).bind fun b ρ => compT C Φ elt vs b ρ := rfl
theorem mem_snoc {l : List α} {x : α} {P : α → Prop} (h : ∀ d ∈ l, P d) (hx : P x) : ∀ d ∈ l ++ [x], P d := fun d hd => by
  rcases List.mem_append.mp hd with h1 | h1
  · exact h d h1
  · rw [List.mem_singleton.mp h1]; exact hx
theorem compE_ok {vs : List Nat} {ys : List D} {ρ2 : Env} (h : ys.length ≤ SZ) : compE ρ1 vs ys ρ2 = .ok (.frs (.lst ys)) (backE ρ1 ρ2 vs) := by unfold compE; simp [h, iteB]
-- tests, lists
theorem t0 : evTs C Φ .nil ρ = .ok true ρ := rfl
theorem t1 {e es} : evTs C Φ (.cons e es) ρ = (evE C Φ e ρ).bind fun v ρ1 => (asB v ρ1).bind fun t ρ1 => iteB t (fun _ => evTs C Φ es ρ1) fun _ => .ok false ρ1 := by
  show (evE C Φ e ρ).bind _ = _
  congr 1; funext va ρ1
  cases va with
  | imm d => cases d <;> first | rfl | (rename_i t; cases t <;> rfl)
  | frs d => rfl
  | vr i => rfl
theorem t2 {e} : evT C Φ e ρ = (evE C Φ e ρ).bind asB := by
  show (evE C Φ e ρ).bind _ = _
  congr 1; funext va ρ1
  cases va with
  | imm d => cases d <;> rfl
  | frs d => rfl
  | vr i => rfl
theorem t3 {b} : asB (.imm (.bl b)) ρ = .ok b ρ := rfl
theorem l0 : evL C Φ .nil ρ = .ok [] ρ := rfl
theorem l1 {e es} : evL C Φ (.cons e es) ρ = (evE C Φ e ρ).bind fun v ρ1 => opt (fz ρ1 v) fun p => (evL C Φ es p.2).bind fun ds ρ3 => .ok (p.1 :: ds) ρ3 := rfl
theorem l2 : evV C Φ .nil ρ = .ok [] ρ := rfl
theorem l3 {e es} : evV C Φ (.cons e es) ρ = (evE C Φ e ρ).bind fun v ρ1 => (evV C Φ es ρ1).bind fun vs ρ2 => .ok (stl v :: vs) ρ2 := rfl
theorem l4 : evA C Φ [] .nil ρ = .ok [] ρ := rfl
def avV (v : Val) (k : R (List AV)) (ρ1 : Env) : R (List AV) := match v with
      | .vr i => k.bind fun as ρ2 => opt (ownD ρ2 i) fun d => .ok (.slot i d :: as) ρ2
      | .frs d => k.bind fun as ρ2 => .ok (.temp d :: as) ρ2
      | .imm _ => .stuck
theorem l5 {e es ms} : evA C Φ (true :: ms) (.cons e es) ρ = (evE C Φ e ρ).bind fun v ρ1 => avV v (evA C Φ ms es ρ1) ρ1 := rfl
theorem l5a {i} {k : R (List AV)} : avV (.vr i) k ρ = k.bind fun as ρ2 => opt (ownD ρ2 i) fun d => .ok (.slot i d :: as) ρ2 := rfl
theorem l5b {d} {k : R (List AV)} : avV (.frs d) k ρ = k.bind fun as ρ2 => .ok (.temp d :: as) ρ2 := rfl
theorem l6 {e es ms} : evA C Φ (false :: ms) (.cons e es) ρ = (evE C Φ e ρ).bind fun v ρ1 => opt (fz ρ1 v) fun p => (evA C Φ ms es p.2).bind fun as ρ3 => .ok (.plain p.1 :: as) ρ3 := rfl
theorem o0 : evO C Φ .none ρ = .ok none ρ := rfl
def asI (v : Val) (ρ1 : Env) : R (Option Int) := match v with
      | .imm (.int i) => .ok (some i) ρ1
      | _ => .stuck
theorem o1 {e} : evO C Φ (.some e) ρ = (evE C Φ e ρ).bind asI := rfl
theorem o2 {i} : asI (.imm (.int i)) ρ = .ok (some i) ρ := rfl
-- what is walked
theorem i0 {e} : evI C Φ (.val e) ρ = (evE C Φ e ρ).bind fun v ρ1 => opt (fz ρ1 v) fun p => opt (items p.1) fun ds => .ok ds p.2 := rfl
def rngV (i j : Int) (ρ1 : Env) : R (List D) := iteB (small i && small j) (fun _ => .ok (rangeL i (j - i).toNat) ρ1) fun _ => .stuck
def asI1 (v : Val) (ρ1 : Env) : R Int := match v with
      | .imm (.int i) => .ok i ρ1
      | _ => .stuck
theorem i1 {a} : evI C Φ (.rng1 a) ρ = (evE C Φ a ρ).bind fun v ρ1 => (asI1 v ρ1).bind fun j ρ1 => rngV 0 j ρ1 := by
  show (evE C Φ a ρ).bind _ = _
  congr 1; funext v ρ1
  cases v with
  | imm d =>
    cases d <;> try rfl
    rename_i j
    show (if small j = true then _ else _) = rngV 0 j ρ1
    unfold rngV
    have : small 0 = true := rfl
    rw [this, Bool.true_and, Int.sub_zero]
    cases small j <;> rfl
  | frs d => rfl
  | vr i => rfl
theorem i1' {i} : asI1 (.imm (.int i)) ρ = .ok i ρ := rfl
theorem i2 {a b} : evI C Φ (.rng2 a b) ρ = (evE C Φ a ρ).bind fun v ρ1 => (evE C Φ b ρ1).bind fun w ρ2 => (asI1 v ρ2).bind fun i _ => (asI1 w ρ2).bind fun j _ => rngV i j ρ2 := by
  show (evE C Φ a ρ).bind _ = _
  congr 1; funext v ρ1; congr 1; funext w ρ2
  cases v with
  | imm d =>
    cases d <;> try rfl
    cases w with
    | imm d' =>
      cases d' <;> try rfl
      rename_i i j
      show (if (small i && small j) = true then _ else _) = rngV i j ρ2
      unfold rngV
      cases (small i && small j) <;> rfl
    | frs d => rfl
    | vr i => rfl
  | frs d => rfl
  | vr i => rfl
def rngC (i j : Int) (ρ1 : Env) : R (List D) := iteB (small i && small j) (fun _ => .ok (rangeC i (-1) (i - j).toNat) ρ1) fun _ => .stuck
theorem i3 {a b} : evI C Φ (.rng3 a b (.neg (.lit (.int 1)))) ρ = (evE C Φ a ρ).bind fun v ρ1 => (evE C Φ b ρ1).bind fun w ρ2 => (asI1 v ρ2).bind fun i _ => (asI1 w ρ2).bind fun j _ => rngC i j ρ2 := by
  show (evE C Φ a ρ).bind _ = _
  congr 1; funext v ρ1; congr 1; funext w ρ2
  cases v with
  | imm d =>
    cases d <;> try rfl
    cases w with
    | imm d' =>
      cases d' <;> try rfl
      rename_i i j
      show (if (small i && small j && true) = true then _ else _) = rngC i j ρ2
      unfold rngC
      rw [Bool.and_true]
      cases (small i && small j) <;> rfl
    | frs d => rfl
    | vr i => rfl
  | frs d => rfl
  | vr i => rfl
theorem i4 {a} : evI C Φ (.enum a) ρ = (evE C Φ a ρ).bind fun v ρ1 => opt (fz ρ1 v) fun p => opt (items p.1) fun ds => .ok (enumL 0 ds) p.2 := rfl
theorem i5 {a b} : evI C Φ (.zip a b) ρ = (evE C Φ a ρ).bind fun v ρ1 => opt (fz ρ1 v) fun p => (evE C Φ b p.2).bind fun w ρ3 => opt (fz ρ3 w) fun q =>
      opt (items p.1) fun ds => opt (items q.1) fun es => .ok (zipL ds es) q.2 := rfl
-- statements
theorem s0 : exSs C Φ .nil ρ = .next ρ := rfl
theorem s1 {s ss} : exSs C Φ (.cons s ss) ρ = (exS C Φ s ρ).thn fun ρ1 => exSs C Φ ss ρ1 := rfl
theorem s2 {e} : exS C Φ (.expr e) ρ = (evE C Φ e ρ).thn fun _ ρ1 => .next ρ1 := rfl
def asgO (i : Nat) (v : Val) (ρ1 : Env) : SR := match v with
      | .frs d => .next (ρ1.set i (some ⟨true, d⟩))
      | _ => .stuck
theorem s3 {i e} : exS C Φ (.asg true i e) ρ = (evE C Φ e ρ).thn fun v ρ1 => asgO i v ρ1 := rfl
theorem s3' {i d} : asgO i (.frs d) ρ = .next (ρ.set i (some ⟨true, d⟩)) := rfl
theorem s4 {i e} : exS C Φ (.asg false i e) ρ = (evE C Φ e ρ).thn fun v ρ1 => optS (fz ρ1 v) fun p => .next (p.2.set i (some ⟨false, p.1⟩)) := rfl
theorem s5 {is e} : exS C Φ (.asgT is e) ρ = (evE C Φ e ρ).thn fun v ρ1 => optS (fz ρ1 v) fun p => optS (setTg p.2 (.tup is) p.1) fun ρ3 => .next ρ3 := rfl
theorem s6 {i j oi oj a b} : exS C Φ (.par i j oi oj a b) ρ = iteB (decide (i = j)) (fun _ => .stuck) fun _ => (evE C Φ a ρ).thn fun v ρ1 => optS (parV oi ρ1 v) fun p => (evE C Φ b p.2).thn fun w ρ3 => optS (parV oj ρ3 w) fun q =>
      .next ((q.2.set i (some ⟨oi, p.1⟩)).set j (some ⟨oj, q.1⟩)) := by
  show (if i = j then _ else _) = _
  by_cases h : i = j <;> simp [h, iteB]
theorem s7 {o ie e} : exS C Φ (.setI o ie e) ρ = (evE C Φ e ρ).thn fun v ρ1 => optS (fz ρ1 v) fun p => optS (ownD p.2 o) fun _ => (evE C Φ ie p.2).thn fun vi ρ3 =>
      optS (rd ρ3 vi) fun k => optS (ownD ρ3 o) fun x => optS (setIdx x k p.1) fun y => .next (ρ3.set o (some ⟨true, y⟩)) := rfl
def augV (C : Cfg) (Φ : Oracle) (i : Nat) (op : Operator) (e : Ex) (ρ : Env) : Val → SR
      | .imm x => (evE C Φ e ρ).thn fun w ρ1 => optS (rd ρ1 w) fun y => optS (augD op x y) fun z => .next (ρ1.set i (some ⟨false, z⟩))
      | _ => .stuck
theorem s8 {i op e} : exS C Φ (.aug i op e) ρ = optS (varV ρ i) fun v => augV C Φ i op e ρ v := rfl
theorem s8' {i op e x} : augV C Φ i op e ρ (.imm x) = (evE C Φ e ρ).thn fun w ρ1 => optS (rd ρ1 w) fun y => optS (augD op x y) fun z => .next (ρ1.set i (some ⟨false, z⟩)) := rfl
theorem s9 {o ie op e} : exS C Φ (.augI o ie op e) ρ = optS (ownD ρ o) fun _ => (evE C Φ ie ρ).thn fun vi ρ1 => optS (rd ρ1 vi) fun k => optS (ownD ρ1 o) fun x => optS (idxD x k) fun old =>
      (evE C Φ e ρ1).thn fun w ρ2 => optS (rd ρ2 w) fun y => optS (augD op old y) fun z => optS (ownD ρ2 o) fun x => optS (setIdx x k z) fun q => .next (ρ2.set o (some ⟨true, q⟩)) := rfl
theorem s10 {o f e} : exS C Φ (.fldS o f e) ρ = (evE C Φ e ρ).thn fun v ρ1 => optS (fz ρ1 v) fun p => optS (ownD p.2 o) fun x => optS (setFld f p.1 x) fun y => .next (p.2.set o (some ⟨true, y⟩)) := rfl
def retV (v : Val) (ρ1 : Env) : SR := match v with
      | .imm d => .ret false d ρ1
      | .frs d => .ret true d ρ1
      | .vr i => (match ρ1[i]? with
        | some (some ⟨true, d⟩) => .ret true d (ρ1.set i none)
        | some (some ⟨false, d⟩) => .ret false d ρ1
        | _ => .stuck)
theorem s11 {e} : exS C Φ (.ret e) ρ = (evE C Φ e ρ).thn fun v ρ1 => retV v ρ1 := rfl
theorem s12 : exS C Φ .retN ρ = .ret false .non ρ := rfl
theorem s13 {c a b} : exS C Φ (.ife c a b) ρ = (evT C Φ c ρ).thn fun t ρ1 => iteB t (fun _ => exSs C Φ a ρ1) fun _ => exSs C Φ b ρ1 := by
  show (evT C Φ c ρ).thn _ = _
  congr 1; funext t ρ1; cases t <;> rfl
theorem s14 {tg it b} : exS C Φ (.for tg it b) ρ = (evI C Φ it ρ).thn fun ds ρ1 => forLoop (bodyOf C Φ tg b) ds ρ1 := rfl
theorem s15 {c b} : exS C Φ (.whl c b) ρ = whileLoop (evT C Φ c) (exSs C Φ b) C.fuel ρ := rfl
theorem s16 : exS C Φ .brk ρ = .brk ρ := rfl
theorem s17 : exS C Φ .cont ρ = .cont ρ := rfl
theorem s18 : exS C Φ .pass ρ = .next ρ := rfl
-- calls
def ndB (l : List Nat) : Bool := decide l.Nodup
theorem f0 {f as} : callA Φ f as ρ = iteB (ndB (slotsOf as)) (fun _ => callB (Φ f (as.map AV.d)) as ρ) fun _ => .stuck := by
  unfold callA ndB
  by_cases h : (slotsOf as).Nodup <;> simp [h, iteB]
  rfl
theorem f1 {fr d outs as} : callB (.ok fr d outs) as ρ = opt (putOuts as outs ρ) fun ρ' => .ok (mkV (fr, d)) ρ' := rfl
theorem f2 {fr d} : snapB (.ok fr d []) ρ = if d.flat then .ok (.imm d) ρ else if fr && d.flats then .ok (.frs d) ρ else .stuck := rfl
theorem f3 {o} : makeB (.ok false .non [o]) ρ = .ok (.imm o) ρ := rfl
theorem f4 {i : Int} {fr} (h : 0 ≤ i ∧ i < 1000000) : lenB (.ok fr (.int i) []) ρ = .ok (.imm (.int i)) ρ := by show (if _ then _ else _) = _; rw [if_pos h]
theorem nd0 : ndB [] = true := rfl
theorem nd1 (i : Nat) : ndB [i] = true := by simp [ndB]
theorem nd2 (i j : Nat) : ndB [i, j] = !(i == j) := by simp [ndB]; rfl
theorem body_name {i : Nat} {b : Stms} {d : D} : bodyOf C Φ (.name i) b d ρ = exSs C Φ b (ρ.set i (some ⟨false, d⟩)) := rfl
theorem body_tup {is : List Nat} {b : Stms} {ds : List D} : bodyOf C Φ (.tup is) b (.tup ds) ρ = optS (setTg ρ (.tup is) (.tup ds)) fun ρ => exSs C Φ b ρ := rfl
theorem setTg_name {i : Nat} {d : D} : setTg ρ (.name i) d = some (ρ.set i (some ⟨false, d⟩)) := rfl
theorem setTg_2 {i j : Nat} {d e : D} : setTg ρ (.tup [i, j]) (.tup [d, e]) = some ((ρ.set i (some ⟨false, d⟩)).set j (some ⟨false, e⟩)) := rfl
theorem setTg_3 {i j k : Nat} {d e f : D} : setTg ρ (.tup [i, j, k]) (.tup [d, e, f]) = some (((ρ.set i (some ⟨false, d⟩)).set j (some ⟨false, e⟩)).set k (some ⟨false, f⟩)) := rfl
def varS (i : Nat) : Option (Option FB.Slot) → Option Val
  | some (some ⟨true, _⟩) => some (.vr i)
  | some (some ⟨false, d⟩) => some (.imm d)
  | _ => none
theorem va0 {i} : varV ρ i = varS i ρ[i]? := rfl
theorem va1 {i d} : varS i (some (some ⟨true, d⟩)) = some (.vr i) := rfl
theorem va2 {i d} : varS i (some (some ⟨false, d⟩)) = some (.imm d) := rfl
theorem rd0 {d} : rd ρ (.imm d) = some d := rfl
theorem rd1 {d} : rd ρ (.frs d) = some d := rfl
theorem rd2 {i} : rd ρ (.vr i) = slotD ρ i := rfl
def slotS : Option (Option FB.Slot) → Option D
  | some (some s) => some s.d
  | _ => none
def ownS : Option (Option FB.Slot) → Option D
  | some (some ⟨true, d⟩) => some d
  | _ => none
theorem sl0 {i} : slotD ρ i = slotS ρ[i]? := rfl
theorem sl1 {o d} : slotS (some (some ⟨o, d⟩)) = some d := rfl
theorem ow0 {i} : ownD ρ i = ownS ρ[i]? := by unfold ownD ownS; cases ρ[i]? with
  | none => rfl
  | some s => cases s with
    | none => rfl
    | some s => cases s with | mk o d => cases o <;> rfl
theorem ow1 {d} : ownS (some (some ⟨true, d⟩)) = some d := rfl
def fzS (ρ : Env) (i : Nat) : Option (Option FB.Slot) → Option (D × Env)
  | some (some ⟨true, d⟩) => some (d, ρ.set i (some ⟨false, d⟩))
  | some (some ⟨false, d⟩) => some (d, ρ)
  | _ => none
theorem fz0 {d} : fz ρ (.imm d) = some (d, ρ) := rfl
theorem fz1 {d} : fz ρ (.frs d) = some (d, ρ) := rfl
theorem fz2 {i} : fz ρ (.vr i) = fzS ρ i ρ[i]? := rfl
theorem fz3 {i d} : fzS ρ i (some (some ⟨true, d⟩)) = some (d, ρ.set i (some ⟨false, d⟩)) := rfl
theorem fz4 {i d} : fzS ρ i (some (some ⟨false, d⟩)) = some (d, ρ) := rfl
theorem re0 {d} : retV (.imm d) ρ = .ret false d ρ := rfl
theorem re1 {d} : retV (.frs d) ρ = .ret true d ρ := rfl
def retS (ρ1 : Env) (i : Nat) : Option (Option FB.Slot) → SR
        | some (some ⟨true, d⟩) => .ret true d (ρ1.set i none)
        | some (some ⟨false, d⟩) => .ret false d ρ1
        | _ => .stuck
theorem re2 {i} : retV (.vr i) ρ = retS ρ i ρ[i]? := rfl
theorem re3 {i d} : retS ρ i (some (some ⟨true, d⟩)) = .ret true d (ρ.set i none) := rfl
theorem re4 {i d} : retS ρ i (some (some ⟨false, d⟩)) = .ret false d ρ := rfl
theorem st0 {d} : stl (.frs d) = .imm d := rfl
theorem st1 {d} : stl (.imm d) = .imm d := rfl
theorem st2 {i} : stl (.vr i) = .vr i := rfl
theorem pv0 {d} : parV true ρ (.frs d) = some (d, ρ) := rfl
theorem pv1 {v} : parV false ρ v = fz ρ v := rfl
theorem il0 {xs} : isL (some (.lst xs)) = true := rfl
theorem it0 {xs} : items (.lst xs) = some xs := rfl
theorem it1 {xs} : items (.tup xs) = some xs := rfl
theorem po0 : putOuts [] [] ρ = some ρ := rfl
theorem po1 {d r os} : putOuts (.plain d :: r) os ρ = putOuts r os ρ := rfl
theorem po2 {i d r o os} : putOuts (.slot i d :: r) (o :: os) ρ = putOuts r os (ρ.set i (some ⟨true, o⟩)) := rfl
theorem po3 {d r o os} : putOuts (.temp d :: r) (o :: os) ρ = putOuts r os ρ := rfl
theorem so0 : slotsOf [] = [] := rfl
theorem so1 {d r} : slotsOf (.plain d :: r) = slotsOf r := rfl
theorem so2 {i d r} : slotsOf (.slot i d :: r) = i :: slotsOf r := rfl
theorem so3 {d r} : slotsOf (.temp d :: r) = slotsOf r := rfl
theorem ou0 : outsE [] ρ = some [] := rfl
theorem ou1 {bs d} : outsE (true :: bs) (some ⟨true, d⟩ :: ρ) = (outsE bs ρ).map (d :: ·) := rfl
theorem ou2 {bs s} : outsE (false :: bs) (s :: ρ) = outsE bs ρ := rfl
theorem is0 {i} : isiT (.int i) .int = some true := rfl
theorem is1 {i} : isiT (.int i) .bool = some false := rfl
theorem is2 {x} : isiT (.lst x) .list = some true := rfl
theorem is3 {x} : isiT (.tup x) .tuple = some true := rfl
theorem is4 {x} : isiT (.str x) .str = some true := rfl
theorem is5 {t} (h : t = .int ∨ t = .bool ∨ t = .list ∨ t = .tuple ∨ t = .str) : isiT .non t = some false := by rcases h with h | h | h | h | h <;> subst h <;> rfl
theorem is6 {b} : isiT (.bl b) .bool = some true := rfl
theorem is7 {b} : isiT (.bl b) .int = some true := rfl
theorem mk0 {d : D} : mkV (true, d) = .frs d := rfl
theorem mk1 {d : D} : mkV (false, d) = .imm d := rfl
theorem w0 : wipeE ρ [] = ρ := rfl
theorem w1 {v : Nat} {vs : List Nat} : wipeE ρ (v :: vs) = (wipeE ρ vs).set v none := rfl
theorem k0 : backE ρ1 ρ [] = ρ := rfl
theorem k1 {v : Nat} {vs : List Nat} : backE ρ1 ρ (v :: vs) = (backE ρ1 ρ vs).set v (ρ1[v]?.getD none) := rfl
end

/-! ### shut continuations: simp does not look into them -/
class KB (α β : Type) where
  go : α → Env → R β
class KS (α : Type) where
  go : α → Env → SR
class KN where
  go : Env → SR
class KO (α β : Type) where
  go : α → R β
class KP (α : Type) where
  go : α → SR
class KF (α : Type) where
  go : α → FR
class TH (α : Type) where
  go : Unit → α
class KQ where
  go : SR → Prop
class IV where
  go : Env → Prop
class KT where
  go : Bool → Env → Prop
class KC where
  go : Option D → Env → Prop
def R.bk {α β : Type} (r : R α) {k : KB α β} : R β := r.bind k.go
def R.tk {α : Type} (r : R α) {k : KS α} : SR := r.thn k.go
def SR.tk (r : SR) {k : KN} : SR := r.thn k.go
def optK {α β : Type} (o : Option α) {k : KO α β} : R β := opt o k.go
def optSK {α : Type} (o : Option α) {k : KP α} : SR := optS o k.go
def optFK {α : Type} (o : Option α) {k : KF α} : FR := optF o k.go
def iteK {α : Type} (b : Bool) {f g : TH α} : α := iteB b f.go g.go
section
variable {α β γ : Type} {lt : List FDef} {n : Nat} {C : Cfg} {Φ : Oracle} {ρ ρ1 : Env}
theorem Ka0 {f : Unit → α} {g : TH α} : iteK true (f := ⟨f⟩) (g := g) = f () := rfl
theorem Ka1 {g : Unit → α} {f : TH α} : iteK false (f := f) (g := ⟨g⟩) = g () := rfl
theorem Kb0 {a : α} {f : α → Env → R β} : (R.ok a ρ).bk (k := ⟨f⟩) = f a ρ := rfl
theorem Kb1 {a : α} {f : α → Env → SR} : (R.ok a ρ).tk (k := ⟨f⟩) = f a ρ := rfl
theorem Kb2 {a : α} {f : α → R β} : optK (some a) (k := ⟨f⟩) = f a := rfl
theorem Kb3 {a : α} {f : α → SR} : optSK (some a) (k := ⟨f⟩) = f a := rfl
theorem Kb4 {a : α} {f : α → FR} : optFK (some a) (k := ⟨f⟩) = f a := rfl
theorem Kb5 {f : Env → SR} : (SR.next ρ).tk (k := ⟨f⟩) = f ρ := rfl
theorem Kb6 {fr d} {f : KN} : (SR.ret fr d ρ).tk (k := f) = .ret fr d ρ := rfl
theorem Kb7 {f : KN} : (SR.brk ρ).tk (k := f) = .brk ρ := rfl
theorem Kb8 {f : KN} : (SR.cont ρ).tk (k := f) = .cont ρ := rfl
theorem Kb9 {c fs} {f : KN} : (SR.exc c fs ρ).tk (k := f) = .exc c fs ρ := rfl
theorem Kb10 {c fs} {f : KS α} : (R.exc c fs ρ).tk (k := f) = .exc c fs ρ := rfl
theorem Kb11 {c fs} {f : KB α β} : (R.exc c fs ρ).bk (k := f) = .exc c fs ρ := rfl
theorem Kc0 {r : R α} {f : α → Env → R β} {g : KB β γ} : (r.bk (k := ⟨f⟩)).bk (k := g) = r.bk (k := ⟨fun a ρ => (f a ρ).bk (k := g)⟩) := c0
theorem Kc1 {r : R α} {f : α → Env → R β} {g : KS β} : (r.bk (k := ⟨f⟩)).tk (k := g) = r.tk (k := ⟨fun a ρ => (f a ρ).tk (k := g)⟩) := c1
theorem Kc2 {r : R α} {f : α → Env → SR} {g : KN} : (r.tk (k := ⟨f⟩)).tk (k := g) = r.tk (k := ⟨fun a ρ => (f a ρ).tk (k := g)⟩) := c2
theorem Kc3 {r : SR} {f : Env → SR} {g : KN} : (r.tk (k := ⟨f⟩)).tk (k := g) = r.tk (k := ⟨fun ρ => (f ρ).tk (k := g)⟩) := c3
theorem Kc4 {o : Option α} {f : α → R β} {g : KB β γ} : (optK o (k := ⟨f⟩)).bk (k := g) = optK o (k := ⟨fun a => (f a).bk (k := g)⟩) := c4
theorem Kc5 {o : Option α} {f : α → R β} {g : KS β} : (optK o (k := ⟨f⟩)).tk (k := g) = optSK o (k := ⟨fun a => (f a).tk (k := g)⟩) := c5
theorem Kc6 {o : Option α} {f : α → SR} {g : KN} : (optSK o (k := ⟨f⟩)).tk (k := g) = optSK o (k := ⟨fun a => (f a).tk (k := g)⟩) := c6
theorem Kc7 {b : Bool} {f g : Unit → R α} {k : KB α β} : (iteK b (f := ⟨f⟩) (g := ⟨g⟩)).bk (k := k) = iteK b (f := ⟨fun _ => (f ()).bk (k := k)⟩) (g := ⟨fun _ => (g ()).bk (k := k)⟩) := c7
theorem Kc8 {b : Bool} {f g : Unit → R α} {k : KS α} : (iteK b (f := ⟨f⟩) (g := ⟨g⟩)).tk (k := k) = iteK b (f := ⟨fun _ => (f ()).tk (k := k)⟩) (g := ⟨fun _ => (g ()).tk (k := k)⟩) := c8
theorem Kc9 {b : Bool} {f g : Unit → SR} {k : KN} : (iteK b (f := ⟨f⟩) (g := ⟨g⟩)).tk (k := k) = iteK b (f := ⟨fun _ => (f ()).tk (k := k)⟩) (g := ⟨fun _ => (g ()).tk (k := k)⟩) := c9
theorem kn {f : Env → SR} : (KN.mk f).go ρ = f ρ := rfl
theorem ks {f : α → Env → SR} {a : α} : (KS.mk f).go a ρ = f a ρ := rfl
theorem th {f : Unit → α} {u : Unit} : (TH.mk f).go u = f u := rfl
theorem Ke0 {i} : evE C Φ (.var i) ρ = optK (varV ρ i) (k := ⟨fun v => .ok v ρ⟩) := e0
theorem Ke3 {op a b} : evE C Φ (.bin op a b) ρ = (evE C Φ a ρ).bk (k := ⟨fun va ρ1 => (evE C Φ b ρ1).bk (k := ⟨fun vb ρ2 => optK (rd ρ2 va) (k := ⟨fun x => optK (rd ρ2 vb) (k := ⟨fun y => optK (binop op x y) (k := ⟨fun r => .ok (mkV r) ρ2⟩)⟩)⟩)⟩)⟩) := e3
theorem Ke4 {a} : evE C Φ (.neg a) ρ = (evE C Φ a ρ).bk (k := ⟨fun va ρ1 => negV (rd ρ1 va) ρ1⟩) := e4
theorem Ke5 {op a b} : evE C Φ (.cmp op a b) ρ = (evE C Φ a ρ).bk (k := ⟨fun va ρ1 => (evE C Φ b ρ1).bk (k := ⟨fun vb ρ2 => optK (rd ρ2 va) (k := ⟨fun x => optK (rd ρ2 vb) (k := ⟨fun y => optK (cmpop op x y) (k := ⟨fun r => .ok (.imm (.bl r)) ρ2⟩)⟩)⟩)⟩)⟩) := e5
theorem Ke6 {op op' a b c} : evE C Φ (.chain op op' a b c) ρ = (evE C Φ a ρ).bk (k := ⟨fun va ρ1 => (evE C Φ b ρ1).bk (k := ⟨fun vb ρ2 => optK (rd ρ2 va) (k := ⟨fun x => optK (rd ρ2 vb) (k := ⟨fun y => optK (cmpop op x y) (k := ⟨fun r => iteK r (f := ⟨(fun _ => (evE C Φ c ρ2).bk (k := ⟨fun vc ρ3 => optK (rd ρ3 vb) (k := ⟨fun y => optK (rd ρ3 vc) (k := ⟨fun z => optK (cmpop op' y z) (k := ⟨fun r' => .ok (.imm (.bl r')) ρ3⟩)⟩)⟩)⟩))⟩) (g := ⟨fun _ => .ok (.imm (.bl false)) ρ2⟩)⟩)⟩)⟩)⟩)⟩) := e6
theorem Ke7 {a} : evE C Φ (.not a) ρ = (evE C Φ a ρ).bk (k := ⟨fun va ρ1 => (asB va ρ1).bk (k := ⟨fun b ρ1 => .ok (.imm (.bl (!b))) ρ1⟩)⟩) := e7
theorem Ke8 {a b} : evE C Φ (.and a b) ρ = (evE C Φ a ρ).bk (k := ⟨fun va ρ1 => (asB va ρ1).bk (k := ⟨fun t ρ1 => iteK t (f := ⟨(fun _ => evE C Φ b ρ1)⟩) (g := ⟨fun _ => .ok (.imm (.bl false)) ρ1⟩)⟩)⟩) := e8
theorem Ke9 {a b} : evE C Φ (.or a b) ρ = (evE C Φ a ρ).bk (k := ⟨fun va ρ1 => (asB va ρ1).bk (k := ⟨fun t ρ1 => iteK t (f := ⟨(fun _ => .ok (.imm (.bl true)) ρ1)⟩) (g := ⟨fun _ => evE C Φ b ρ1⟩)⟩)⟩) := e9
theorem Ke10 {t a b} : evE C Φ (.ife t a b) ρ = (evE C Φ t ρ).bk (k := ⟨fun va ρ1 => (asB va ρ1).bk (k := ⟨fun t ρ1 => iteK t (f := ⟨(fun _ => evE C Φ a ρ1)⟩) (g := ⟨fun _ => evE C Φ b ρ1⟩)⟩)⟩) := e10
theorem Ke11 {es} : evE C Φ (.lstD es) ρ = (evL C Φ es ρ).bk (k := ⟨fun ds ρ1 => .ok (.frs (.lst ds)) ρ1⟩) := e11
theorem Ke12 {es} : evE C Φ (.tupD es) ρ = (evL C Φ es ρ).bk (k := ⟨fun ds ρ1 => .ok (.imm (.tup ds)) ρ1⟩) := e12
theorem Ke13 {a b} : evE C Φ (.idx a b) ρ = (evE C Φ a ρ).bk (k := ⟨fun va ρ1 => (evE C Φ b ρ1).bk (k := ⟨fun vb ρ2 => optK (rd ρ2 va) (k := ⟨fun x => optK (rd ρ2 vb) (k := ⟨fun y => optK (idxD x y) (k := ⟨fun r => .ok (.imm r) ρ2⟩)⟩)⟩)⟩)⟩) := e13
theorem Ke14 {a lo hi} : evE C Φ (.slc a lo hi) ρ = (evE C Φ a ρ).bk (k := ⟨fun va ρ1 => (evO C Φ lo ρ1).bk (k := ⟨fun l ρ2 => (evO C Φ hi ρ2).bk (k := ⟨fun h ρ3 => optK (rd ρ3 va) (k := ⟨fun x => optK (slcD x l h) (k := ⟨fun r => .ok (mkV r) ρ3⟩)⟩)⟩)⟩)⟩) := e14
theorem Ke15 {a} : evE C Φ (.rev a) ρ = (evE C Φ a ρ).bk (k := ⟨fun va ρ1 => optK (rd ρ1 va) (k := ⟨fun x => optK (revD x) (k := ⟨fun r => .ok (mkV r) ρ1⟩)⟩)⟩) := e15
theorem Ke16 {a f} : evE C Φ (.fld a f) ρ = (evE C Φ a ρ).bk (k := ⟨fun va ρ1 => optK (rd ρ1 va) (k := ⟨fun x => optK (fldD f x) (k := ⟨fun r => .ok (.imm r) ρ1⟩)⟩)⟩) := e16
theorem Ke17 {b es} : evE C Φ (.blt b es) ρ = (evV C Φ es ρ).bk (k := ⟨fun vs ρ1 => bltV C Φ b vs ρ1⟩) := e17
theorem Ke17a {b} {vs : List Val} (h : lenO b vs = none) : bltV C Φ b vs ρ = optK (vs.mapM (rd ρ)) (k := ⟨fun ds => optK (bltD b ds) (k := ⟨fun r => .ok (mkV r) ρ⟩)⟩) := e17a h
theorem Ke17b {c fs} : bltV C Φ .len [.imm (.obj c fs)] ρ = optK (C.lenF c) (k := ⟨fun f => lenB (Φ f [.obj c fs]) ρ⟩) := e17b
theorem Kv0 {b xs} : bltV C Φ b [.imm (.tup xs)] ρ = optK (bltD b [.tup xs]) (k := ⟨fun r => .ok (mkV r) ρ⟩) := v0
theorem Kv1 {b xs} : bltV C Φ b [.imm (.lst xs)] ρ = optK (bltD b [.lst xs]) (k := ⟨fun r => .ok (mkV r) ρ⟩) := v1
theorem Kv2 {b i} : bltV C Φ b [.imm (.int i)] ρ = optK (bltD b [.int i]) (k := ⟨fun r => .ok (mkV r) ρ⟩) := v2
theorem Kv3 {b i} : bltV C Φ b [.imm (.bl i)] ρ = optK (bltD b [.bl i]) (k := ⟨fun r => .ok (mkV r) ρ⟩) := v3
theorem Kv4 {b i} : bltV C Φ b [.vr i] ρ = optK (slotD ρ i) (k := ⟨fun x => optK (bltD b [x]) (k := ⟨fun r => .ok (mkV r) ρ⟩)⟩) := v4
theorem Kv5 {b x y} : bltV C Φ b [.imm x, .imm y] ρ = optK (bltD b [x, y]) (k := ⟨fun r => .ok (mkV r) ρ⟩) := v5
theorem Ke18 {a t} : evE C Φ (.isi a t) ρ = (evE C Φ a ρ).bk (k := ⟨fun va ρ1 => optK (rd ρ1 va) (k := ⟨fun x => optK (isiT x t) (k := ⟨fun r => .ok (.imm (.bl r)) ρ1⟩)⟩)⟩) := e18
theorem Ke19 {it} : evE C Φ (.listR it) ρ = (evI C Φ it ρ).bk (k := ⟨fun ds ρ1 => iteK (decide (ds.length ≤ SZ)) (f := ⟨(fun _ => .ok (.frs (.lst ds)) ρ1)⟩) (g := ⟨fun _ => .stuck⟩)⟩) := e19
theorem Ke20 {f es} : evE C Φ (.call f false es) ρ = optK (C.raws f) (k := ⟨fun ms => (evA C Φ ms es ρ).bk (k := ⟨fun as ρ1 => callA Φ f as ρ1⟩)⟩) := e20
theorem Ke21 {f es} : evE C Φ (.call f true es) ρ = optK (C.raws f) (k := ⟨fun ms => (evV C Φ es ρ).bk (k := ⟨fun vs ρ1 => optK (vs.mapM (rd ρ1)) (k := ⟨fun ds => iteK (decide (ms = List.replicate ds.length false)) (f := ⟨(fun _ => snapB (Φ f ds) ρ1)⟩) (g := ⟨fun _ => .stuck⟩)⟩)⟩)⟩) := e21
theorem Ke22 {f m o es} : evE C Φ (.meth f m o es) ρ = optK (C.raws f) (k := ⟨fun ms => (evE C Φ o ρ).bk (k := ⟨fun vo ρ1 => optK (fz ρ1 vo) (k := ⟨fun p => iteK (methOk m p.1) (f := ⟨(fun _ => (evL C Φ es p.2).bk (k := ⟨fun ds ρ2 => iteK (decide (ms = List.replicate (ds.length + 1) false)) (f := ⟨(fun _ => callA Φ f (.plain p.1 :: ds.map .plain) ρ2)⟩) (g := ⟨fun _ => .stuck⟩)⟩))⟩) (g := ⟨fun _ => .stuck⟩)⟩)⟩)⟩) := e22
theorem Ke23 {c es} : evE C Φ (.make c es) ρ = optK (C.init c) (k := ⟨fun f => optK (C.raws f) (k := ⟨fun ms => (evL C Φ es ρ).bk (k := ⟨fun ds ρ1 => iteK (decide (ms = true :: List.replicate ds.length false)) (f := ⟨(fun _ => makeB (Φ f (.obj c [] :: ds)) ρ1)⟩) (g := ⟨fun _ => .stuck⟩)⟩)⟩)⟩) := e23
theorem Ke24 {m o es} : evE C Φ (.mth m o es) ρ = (evE C Φ o ρ).bk (k := ⟨fun vo ρ1 => iteK (isL (rd ρ1 vo)) (f := ⟨(fun _ => (evL C Φ es ρ1).bk (k := ⟨fun ds ρ2 => mthV m vo ds ρ2⟩))⟩) (g := ⟨fun _ => .stuck⟩)⟩) := e24
theorem Kmo5 {m i ds xs} : mthO m i ds ρ (some (.lst xs)) = optK (mthD m xs ds) (k := ⟨fun p => .ok (.imm p.1) (ρ.set i (some ⟨true, .lst p.2⟩))⟩) := mo5
theorem Kmo7 {ds xs} : mthV .append (.frs (.lst xs)) ds ρ = optK (mthD .append xs ds) (k := ⟨fun p => .ok (.imm p.1) ρ⟩) := mo7
theorem Kmo8 {ds xs} : mthV .clear (.frs (.lst xs)) ds ρ = optK (mthD .clear xs ds) (k := ⟨fun p => .ok (.imm p.1) ρ⟩) := mo8
theorem Kmo6 {v ds} : mthV .index v ds ρ = optK (rd ρ v) (k := ⟨fun x => optK (mthR .index x ds) (k := ⟨fun r => .ok (.imm r) ρ⟩)⟩) := mo6
theorem Ke25 {elt vs tg it ifs} : evE C Φ (.comp elt vs tg it ifs) ρ = (evI C Φ it ρ).bk (k := ⟨fun ds ρ1 => (compLoop (turnOf C Φ elt vs tg ifs) ds (wipeE ρ1 vs)).bk (k := ⟨fun ys ρ2 => compE ρ1 vs ys ρ2⟩)⟩) := e25
theorem Kct0 {elt vs b} : compT C Φ elt vs b ρ = iteK b (f := ⟨(fun _ => (evE C Φ elt ρ).bk (k := ⟨fun v ρ => optK (fz ρ v) (k := ⟨fun p => .ok (some p.1) (wipeE p.2 vs)⟩)⟩))⟩) (g := ⟨fun _ => .ok none (wipeE ρ vs)⟩) := ct0
theorem Kct1 {elt vs tg ifs d} : turnOf C Φ elt vs tg ifs d ρ = optK (setTg ρ tg d) (k := ⟨fun ρ => (evTs C Φ ifs ρ).bk (k := ⟨fun b ρ => compT C Φ elt vs b ρ⟩)⟩) := ct1
theorem Kt1 {e es} : evTs C Φ (.cons e es) ρ = (evE C Φ e ρ).bk (k := ⟨fun v ρ1 => (asB v ρ1).bk (k := ⟨fun t ρ1 => iteK t (f := ⟨(fun _ => evTs C Φ es ρ1)⟩) (g := ⟨fun _ => .ok false ρ1⟩)⟩)⟩) := t1
theorem Kt2 {e} : evT C Φ e ρ = (evE C Φ e ρ).bk (k := ⟨asB⟩) := t2
theorem Kl1 {e es} : evL C Φ (.cons e es) ρ = (evE C Φ e ρ).bk (k := ⟨fun v ρ1 => optK (fz ρ1 v) (k := ⟨fun p => (evL C Φ es p.2).bk (k := ⟨fun ds ρ3 => .ok (p.1 :: ds) ρ3⟩)⟩)⟩) := l1
theorem Kl3 {e es} : evV C Φ (.cons e es) ρ = (evE C Φ e ρ).bk (k := ⟨fun v ρ1 => (evV C Φ es ρ1).bk (k := ⟨fun vs ρ2 => .ok (stl v :: vs) ρ2⟩)⟩) := l3
theorem Kl5 {e es ms} : evA C Φ (true :: ms) (.cons e es) ρ = (evE C Φ e ρ).bk (k := ⟨fun v ρ1 => avV v (evA C Φ ms es ρ1) ρ1⟩) := l5
theorem Kl5a {i} {k : R (List AV)} : avV (.vr i) k ρ = k.bk (k := ⟨fun as ρ2 => optK (ownD ρ2 i) (k := ⟨fun d => .ok (.slot i d :: as) ρ2⟩)⟩) := l5a
theorem Kl5b {d} {k : R (List AV)} : avV (.frs d) k ρ = k.bk (k := ⟨fun as ρ2 => .ok (.temp d :: as) ρ2⟩) := l5b
theorem Kl6 {e es ms} : evA C Φ (false :: ms) (.cons e es) ρ = (evE C Φ e ρ).bk (k := ⟨fun v ρ1 => optK (fz ρ1 v) (k := ⟨fun p => (evA C Φ ms es p.2).bk (k := ⟨fun as ρ3 => .ok (.plain p.1 :: as) ρ3⟩)⟩)⟩) := l6
theorem Ko1 {e} : evO C Φ (.some e) ρ = (evE C Φ e ρ).bk (k := ⟨asI⟩) := o1
theorem Ki0 {e} : evI C Φ (.val e) ρ = (evE C Φ e ρ).bk (k := ⟨fun v ρ1 => optK (fz ρ1 v) (k := ⟨fun p => optK (items p.1) (k := ⟨fun ds => .ok ds p.2⟩)⟩)⟩) := i0
theorem Ki1 {a} : evI C Φ (.rng1 a) ρ = (evE C Φ a ρ).bk (k := ⟨fun v ρ1 => (asI1 v ρ1).bk (k := ⟨fun j ρ1 => rngV 0 j ρ1⟩)⟩) := i1
theorem Ki2 {a b} : evI C Φ (.rng2 a b) ρ = (evE C Φ a ρ).bk (k := ⟨fun v ρ1 => (evE C Φ b ρ1).bk (k := ⟨fun w ρ2 => (asI1 v ρ2).bk (k := ⟨fun i _ => (asI1 w ρ2).bk (k := ⟨fun j _ => rngV i j ρ2⟩)⟩)⟩)⟩) := i2
theorem Ki3 {a b} : evI C Φ (.rng3 a b (.neg (.lit (.int 1)))) ρ = (evE C Φ a ρ).bk (k := ⟨fun v ρ1 => (evE C Φ b ρ1).bk (k := ⟨fun w ρ2 => (asI1 v ρ2).bk (k := ⟨fun i _ => (asI1 w ρ2).bk (k := ⟨fun j _ => rngC i j ρ2⟩)⟩)⟩)⟩) := i3
theorem Ki4 {a} : evI C Φ (.enum a) ρ = (evE C Φ a ρ).bk (k := ⟨fun v ρ1 => optK (fz ρ1 v) (k := ⟨fun p => optK (items p.1) (k := ⟨fun ds => .ok (enumL 0 ds) p.2⟩)⟩)⟩) := i4
theorem Ki5 {a b} : evI C Φ (.zip a b) ρ = (evE C Φ a ρ).bk (k := ⟨fun v ρ1 => optK (fz ρ1 v) (k := ⟨fun p => (evE C Φ b p.2).bk (k := ⟨fun w ρ3 => optK (fz ρ3 w) (k := ⟨fun q => optK (items p.1) (k := ⟨fun ds => optK (items q.1) (k := ⟨fun es => .ok (zipL ds es) q.2⟩)⟩)⟩)⟩)⟩)⟩) := i5
theorem Ks1 {s ss} : exSs C Φ (.cons s ss) ρ = (exS C Φ s ρ).tk (k := ⟨fun ρ1 => exSs C Φ ss ρ1⟩) := s1
theorem Ks2 {e} : exS C Φ (.expr e) ρ = (evE C Φ e ρ).tk (k := ⟨fun _ ρ1 => .next ρ1⟩) := s2
theorem Ks3 {i e} : exS C Φ (.asg true i e) ρ = (evE C Φ e ρ).tk (k := ⟨fun v ρ1 => asgO i v ρ1⟩) := s3
theorem Ks4 {i e} : exS C Φ (.asg false i e) ρ = (evE C Φ e ρ).tk (k := ⟨fun v ρ1 => optSK (fz ρ1 v) (k := ⟨fun p => .next (p.2.set i (some ⟨false, p.1⟩))⟩)⟩) := s4
theorem Ks5 {is e} : exS C Φ (.asgT is e) ρ = (evE C Φ e ρ).tk (k := ⟨fun v ρ1 => optSK (fz ρ1 v) (k := ⟨fun p => optSK (setTg p.2 (.tup is) p.1) (k := ⟨fun ρ3 => .next ρ3⟩)⟩)⟩) := s5
theorem Ks6 {i j oi oj a b} : exS C Φ (.par i j oi oj a b) ρ = iteK (decide (i = j)) (f := ⟨(fun _ => .stuck)⟩) (g := ⟨fun _ => (evE C Φ a ρ).tk (k := ⟨fun v ρ1 => optSK (parV oi ρ1 v) (k := ⟨fun p => (evE C Φ b p.2).tk (k := ⟨fun w ρ3 => optSK (parV oj ρ3 w) (k := ⟨fun q => .next ((q.2.set i (some ⟨oi, p.1⟩)).set j (some ⟨oj, q.1⟩))⟩)⟩)⟩)⟩)⟩) := s6
theorem Ks7 {o ie e} : exS C Φ (.setI o ie e) ρ = (evE C Φ e ρ).tk (k := ⟨fun v ρ1 => optSK (fz ρ1 v) (k := ⟨fun p => optSK (ownD p.2 o) (k := ⟨fun _ => (evE C Φ ie p.2).tk (k := ⟨fun vi ρ3 => optSK (rd ρ3 vi) (k := ⟨fun k => optSK (ownD ρ3 o) (k := ⟨fun x => optSK (setIdx x k p.1) (k := ⟨fun y => .next (ρ3.set o (some ⟨true, y⟩))⟩)⟩)⟩)⟩)⟩)⟩)⟩) := s7
theorem Ks8 {i op e} : exS C Φ (.aug i op e) ρ = optSK (varV ρ i) (k := ⟨fun v => augV C Φ i op e ρ v⟩) := s8
theorem Ks8' {i op e x} : augV C Φ i op e ρ (.imm x) = (evE C Φ e ρ).tk (k := ⟨fun w ρ1 => optSK (rd ρ1 w) (k := ⟨fun y => optSK (augD op x y) (k := ⟨fun z => .next (ρ1.set i (some ⟨false, z⟩))⟩)⟩)⟩) := s8'
theorem Ks9 {o ie op e} : exS C Φ (.augI o ie op e) ρ = optSK (ownD ρ o) (k := ⟨fun _ => (evE C Φ ie ρ).tk (k := ⟨fun vi ρ1 => optSK (rd ρ1 vi) (k := ⟨fun k => optSK (ownD ρ1 o) (k := ⟨fun x => optSK (idxD x k) (k := ⟨fun old => (evE C Φ e ρ1).tk (k := ⟨fun w ρ2 => optSK (rd ρ2 w) (k := ⟨fun y => optSK (augD op old y) (k := ⟨fun z => optSK (ownD ρ2 o) (k := ⟨fun x => optSK (setIdx x k z) (k := ⟨fun q => .next (ρ2.set o (some ⟨true, q⟩))⟩)⟩)⟩)⟩)⟩)⟩)⟩)⟩)⟩)⟩) := s9
theorem Ks10 {o f e} : exS C Φ (.fldS o f e) ρ = (evE C Φ e ρ).tk (k := ⟨fun v ρ1 => optSK (fz ρ1 v) (k := ⟨fun p => optSK (ownD p.2 o) (k := ⟨fun x => optSK (setFld f p.1 x) (k := ⟨fun y => .next (p.2.set o (some ⟨true, y⟩))⟩)⟩)⟩)⟩) := s10
theorem Ks11 {e} : exS C Φ (.ret e) ρ = (evE C Φ e ρ).tk (k := ⟨fun v ρ1 => retV v ρ1⟩) := s11
theorem Ks13 {c a b} : exS C Φ (.ife c a b) ρ = (evT C Φ c ρ).tk (k := ⟨fun t ρ1 => iteK t (f := ⟨(fun _ => exSs C Φ a ρ1)⟩) (g := ⟨fun _ => exSs C Φ b ρ1⟩)⟩) := s13
theorem Ks14 {tg it b} : exS C Φ (.for tg it b) ρ = (evI C Φ it ρ).tk (k := ⟨fun ds ρ1 => forLoop (bodyOf C Φ tg b) ds ρ1⟩) := s14
theorem Kf0 {f as} : callA Φ f as ρ = iteK (ndB (slotsOf as)) (f := ⟨(fun _ => callB (Φ f (as.map AV.d)) as ρ)⟩) (g := ⟨fun _ => .stuck⟩) := f0
theorem Kf1 {fr d outs as} : callB (.ok fr d outs) as ρ = optK (putOuts as outs ρ) (k := ⟨fun ρ' => .ok (mkV (fr, d)) ρ'⟩) := f1
theorem Kbody_tup {is : List Nat} {b : Stms} {ds : List D} : bodyOf C Φ (.tup is) b (.tup ds) ρ = optSK (setTg ρ (.tup is) (.tup ds)) (k := ⟨fun ρ => exSs C Φ b ρ⟩) := body_tup

end
/-! ### what a run ends in -/
def Post {Q : KQ} (r : SR) : Prop := Q.go r
section
variable {α β : Type} {lt : List FDef} {n : Nat} {C : Cfg} {Φ : Oracle} {ρ ρ1 : Env} {Q : KQ}
theorem p0 : Post (Q := Q) (.next ρ) = Q.go (.next ρ) := rfl
theorem p1 {fr d} : Post (Q := Q) (.ret fr d ρ) = Q.go (.ret fr d ρ) := rfl
theorem p2 {c fs} : Post (Q := Q) (.exc c fs ρ) = Q.go (.exc c fs ρ) := rfl
theorem p3 : Post (Q := Q) (.brk ρ) = Q.go (.brk ρ) := rfl
theorem p4 : Post (Q := Q) (.cont ρ) = Q.go (.cont ρ) := rfl
/-- the end of a def -/
def Fin (raw : List Bool) (P : FR → Prop) : KQ := ⟨fun r => P (finF raw r)⟩
theorem n0 {raw P} : (Fin raw P).go (.next ρ) = P (optFK (outsE raw ρ) (k := ⟨fun os => .ok false .non os⟩)) := rfl
theorem n1 {raw P fr d} : (Fin raw P).go (.ret fr d ρ) = P (optFK (outsE raw ρ) (k := ⟨fun os => .ok fr d os⟩)) := rfl
theorem n2 {raw P c fs} : (Fin raw P).go (.exc c fs ρ) = P (optFK (outsE raw ρ) (k := ⟨fun os => .exc c fs os⟩)) := rfl
def Is (a b : FR) : Prop := b = a
theorem is_rfl {a : FR} : Is a a := rfl
def startR (F : FDef) (as : List D) : Env := match startE F.raw as with | some ρ0 => ρ0 ++ List.replicate (F.slots - ρ0.length) none | none => []
theorem PH_run {f : Nat} {as : List D} (F : FDef) {ρ0 : Env} {P : FR → Prop} (h : tabG lt f = some F) (h1 : startE F.raw as = some ρ0) (hp : Post (Q := Fin F.raw P) (exSs (cfgG lt) (PH lt n) F.body (ρ0 ++ List.replicate (F.slots - ρ0.length) none))) : P (PH lt (n + 1) f as) := by
  have e : PH lt (n + 1) f as = runFn (cfgG lt) (PH lt n) F as := by
    show (match tabG lt f with | some F => _ | none => _) = _
    rw [h]; rfl
  rw [e, runFn_eq h1]
  exact hp
/-- .. an equation -/
theorem PH_eq {f : Nat} {as : List D} (F : FDef) {ρ0 : Env} {R : FR} (h : tabG lt f = some F) (h1 : startE F.raw as = some ρ0) (hp : Post (Q := Fin F.raw (Is R)) (exSs (cfgG lt) (PH lt n) F.body (ρ0 ++ List.replicate (F.slots - ρ0.length) none))) : PH lt (n + 1) f as = R :=
  PH_run (P := Is R) F h h1 hp
theorem post_if {b : Bool} {f g : TH SR} (h1 : b = true → Post (Q := Q) (f.go ())) (h2 : b = false → Post (Q := Q) (g.go ())) : Post (Q := Q) (iteK b (f := f) (g := g)) := by
  cases b
  · exact h2 rfl
  · exact h1 rfl
theorem pif {c : Prop} {hc : Decidable c} {f g : SR} (h1 : c → Post (Q := Q) f) (h2 : ¬ c → Post (Q := Q) g) : Post (Q := Q) (if c then f else g) := by
  split
  · exact h1 ‹_›
  · exact h2 ‹_›
/-- a for loop: what holds behind so many turns -/
def LoopQ (Q : KQ) (k : KN) (I : IV) : KQ := ⟨fun r => match r with
  | .next ρ => I.go ρ
  | .cont ρ => I.go ρ
  | .brk ρ => Post (Q := Q) (k.go ρ)
  | .ret fr d ρ => Q.go (.ret fr d ρ)
  | .exc c fs ρ => Q.go (.exc c fs ρ)
  | .stuck => False⟩
section
variable {k : KN} {I : IV}
theorem q0 : (LoopQ Q k I).go (.next ρ) = I.go ρ := rfl
theorem q1 : (LoopQ Q k I).go (.cont ρ) = I.go ρ := rfl
theorem q2 : (LoopQ Q k I).go (.brk ρ) = Post (Q := Q) (k.go ρ) := rfl
theorem q3 {fr d} : (LoopQ Q k I).go (.ret fr d ρ) = Q.go (.ret fr d ρ) := rfl
theorem q4 {c fs} : (LoopQ Q k I).go (.exc c fs ρ) = Q.go (.exc c fs ρ) := rfl
end
theorem post_for {enc : α → D} {body : D → Env → SR} {k : KN} (Inv : List α → Env → Prop) {xs : List α} (h0 : Inv [] ρ)
    (ht : ∀ pre x post, xs = pre ++ x :: post → ∀ ρ, Inv pre ρ → Post (Q := LoopQ Q k ⟨Inv (pre ++ [x])⟩) (body (enc x) ρ))
    (hk : ∀ ρ, Inv xs ρ → Post (Q := Q) (k.go ρ)) : Post (Q := Q) (SR.tk (k := k) (forLoop body (xs.map enc) ρ)) := by
  have key : ∀ (post pre : List α) (ρ : Env), xs = pre ++ post → Inv pre ρ → Post (Q := Q) (SR.tk (k := k) (forLoop body (post.map enc) ρ)) := by
    intro post
    induction post with
    | nil =>
      intro pre ρ e hI
      rw [List.append_nil] at e
      subst e
      exact hk ρ hI
    | cons x post ih =>
      intro pre ρ e hI
      have h := ht pre x post e ρ hI
      have e2 : xs = (pre ++ [x]) ++ post := by rw [e]; simp
      rw [List.map_cons, forLoop_cons]
      revert h
      generalize body (enc x) ρ = r
      intro h
      cases r with
      | next ρ' => exact ih _ _ e2 h
      | cont ρ' => exact ih _ _ e2 h
      | brk ρ' => exact h
      | ret fr d ρ' => exact h
      | exc c fs ρ' => exact h
      | stuck => exact h.elim
  exact key xs [] ρ rfl h0
/-- .. as a fold of typed states; J: what is left behind in the other slots -/
theorem post_fold {τ J : Type} {enc : α → D} {body : D → Env → SR} {k : KN} {xs : List α} (E : τ → J → Env) (step : τ → α → τ) (I : τ → Prop) (s : τ) (j : J) (e0 : ρ = E s j) (h0 : I s)
    (ht : ∀ x ∈ xs, ∀ s j, I s → Post (Q := LoopQ Q k ⟨fun ρ => ∃ j', ρ = E (step s x) j' ∧ I (step s x)⟩) (body (enc x) (E s j)))
    (hk : ∀ j, I (xs.foldl step s) → Post (Q := Q) (k.go (E (xs.foldl step s) j))) : Post (Q := Q) (SR.tk (k := k) (forLoop body (xs.map enc) ρ)) := by
  refine post_for (fun pre ρ => ∃ j, ρ = E (pre.foldl step s) j ∧ I (pre.foldl step s)) ⟨j, e0, h0⟩ ?_ ?_
  · rintro pre x post e ρ ⟨j, rfl, hI⟩
    rw [List.foldl_append]
    exact ht x (by rw [e]; simp) _ j hI
  · rintro ρ ⟨j, rfl, hI⟩
    exact hk j hI
/-- .. that only looks -/
theorem post_look {J : Type} {enc : α → D} {body : D → Env → SR} {k : KN} {xs : List α} (E : J → Env) (j : J) (e0 : ρ = E j)
    (ht : ∀ x ∈ xs, ∀ j, Post (Q := LoopQ Q k ⟨fun ρ => ∃ j', ρ = E j'⟩) (body (enc x) (E j)))
    (hk : ∀ j, Post (Q := Q) (k.go (E j))) : Post (Q := Q) (SR.tk (k := k) (forLoop body (xs.map enc) ρ)) := by
  refine post_for (fun pre ρ => ∃ j, ρ = E j) ⟨j, e0⟩ ?_ ?_
  · rintro pre x post e ρ ⟨j, rfl⟩
    exact ht x (by rw [e]; simp) j
  · rintro ρ ⟨j, rfl⟩
    exact hk j
/-- a test's answer -/
def PostT {P : KT} (r : R Bool) : Prop := match r with
  | .ok b ρ => P.go b ρ
  | _ => False
theorem pt0 {P : KT} {b} : PostT (P := P) (.ok b ρ) = P.go b ρ := rfl
/-- a while loop, by a measure -/
theorem post_whl {t : Env → R Bool} {bd : Env → SR} {k : KN} {fuel : Nat} (Inv : Nat → Env → Prop) (m : Nat) (hm : m < fuel) (h0 : Inv m ρ)
    (ht : ∀ m ρ, Inv m ρ → PostT (P := ⟨fun b ρ1 => (b = true → Post (Q := LoopQ Q k ⟨fun ρ2 => ∃ m', m' < m ∧ Inv m' ρ2⟩) (bd ρ1)) ∧ (b = false → Post (Q := Q) (k.go ρ1))⟩) (t ρ)) :
    Post (Q := Q) (SR.tk (k := k) (whileLoop t bd fuel ρ)) := by
  induction fuel generalizing m ρ with
  | zero => omega
  | succ fuel ih =>
    have h := ht m ρ h0
    rw [whileLoop_succ]
    revert h
    generalize t ρ = r
    intro h
    cases r with
    | exc c fs ρ' => exact h.elim
    | stuck => exact h.elim
    | ok b ρ1 =>
      rw [b1]
      cases b with
      | false => exact h.2 rfl
      | true =>
        have h2 := h.1 rfl
        rw [if_pos rfl]
        revert h2
        generalize bd ρ1 = r
        intro h2
        cases r with
        | next ρ' => obtain ⟨m', h3, h4⟩ := h2; exact ih m' (by omega) h4
        | cont ρ' => obtain ⟨m', h3, h4⟩ := h2; exact ih m' (by omega) h4
        | brk ρ' => exact h2
        | ret fr d ρ' => exact h2
        | exc c fs ρ' => exact h2
        | stuck => exact h2.elim
/-- a turn of a comprehension -/
def PostC {P : KC} (r : R (Option D)) : Prop := match r with
  | .ok b ρ => P.go b ρ
  | _ => False
theorem pc0 {P : KC} {b} : PostC (P := P) (.ok b ρ) = P.go b ρ := rfl
theorem pc_if {P : KC} {b : Bool} {f g : TH (R (Option D))} (h1 : b = true → PostC (P := P) (f.go ())) (h2 : b = false → PostC (P := P) (g.go ())) : PostC (P := P) (iteK b (f := f) (g := g)) := by
  cases b
  · exact h2 rfl
  · exact h1 rfl
/-- a comprehension with what holds behind so many turns and answers -/
theorem post_comp {enc : α → D} {turn : D → Env → R (Option D)} {k : KS (List D)} (Inv : List α → List D → Env → Prop) {xs : List α} (h0 : Inv [] [] ρ)
    (ht : ∀ pre x post, xs = pre ++ x :: post → ∀ ys ρ, Inv pre ys ρ → PostC (P := ⟨fun o ρ1 => Inv (pre ++ [x]) (ys ++ o.toList) ρ1⟩) (turn (enc x) ρ))
    (hk : ∀ ys ρ, Inv xs ys ρ → Post (Q := Q) (k.go ys ρ)) : Post (Q := Q) (R.tk (k := k) (compLoop turn (xs.map enc) ρ)) := by
  have key : ∀ (post pre : List α) (ρ : Env) (ys : List D) (k : KS (List D)), xs = pre ++ post → Inv pre ys ρ → (∀ zs ρ, Inv xs (ys ++ zs) ρ → Post (Q := Q) (k.go zs ρ)) → Post (Q := Q) (R.tk (k := k) (compLoop turn (post.map enc) ρ)) := by
    intro post
    induction post with
    | nil =>
      intro pre ρ ys k e hI hk
      rw [List.append_nil] at e
      subst e
      exact hk [] ρ (by rw [List.append_nil]; exact hI)
    | cons x post ih =>
      intro pre ρ ys k e hI hk
      have h := ht pre x post e ys ρ hI
      have e2 : xs = (pre ++ [x]) ++ post := by rw [e]; simp
      rw [List.map_cons]
      unfold compLoop
      revert h
      generalize turn (enc x) ρ = r
      intro h
      cases r with
      | exc c fs ρ' => exact h.elim
      | stuck => exact h.elim
      | ok o ρ1 =>
        cases o with
        | none =>
          have h' : Inv (pre ++ [x]) ys ρ1 := by have := (show Inv (pre ++ [x]) (ys ++ []) ρ1 from h); rwa [List.append_nil] at this
          exact ih _ _ ys k e2 h' hk
        | some y =>
          show Post (Q := Q) (((compLoop turn (post.map enc) ρ1).bind fun ys ρ2 => .ok (y :: ys) ρ2).thn k.go)
          rw [c1]
          exact ih _ _ (ys ++ [y]) ⟨fun ys ρ => k.go (y :: ys) ρ⟩ e2 h fun zs ρ hz => hk (y :: zs) ρ (by rw [List.append_assoc] at hz; exact hz)
  exact key xs [] ρ [] k rfl h0 fun zs ρ hz => hk zs ρ hz
/-- .. that leaves the slots as they are -/
theorem post_map {enc : α → D} {turn : D → Env → R (Option D)} {k : KS (List D)} {xs : List α} (g : α → Option D)
    (ht : ∀ x ∈ xs, turn (enc x) ρ = .ok (g x) ρ) (hk : Post (Q := Q) (k.go (xs.filterMap g) ρ)) : Post (Q := Q) (R.tk (k := k) (compLoop turn (xs.map enc) ρ)) := by
  refine post_comp (fun pre ys ρ' => ys = pre.filterMap g ∧ ρ' = ρ) ⟨rfl, rfl⟩ ?_ ?_
  · rintro pre x post e ys ρ ⟨rfl, rfl⟩
    rw [ht x (by rw [e]; simp)]
    refine ⟨?_, rfl⟩
    rw [List.filterMap_append]
    cases h : g x <;> simp [h]
  · rintro ys ρ ⟨rfl, rfl⟩
    exact hk
theorem filterMap_enc {xs : List α} {p : α → Bool} {e : α → D} : xs.filterMap (fun x => if p x then some (e x) else none) = (xs.filter p).map e := by
  induction xs with
  | nil => rfl
  | cons x xs ih => cases h : p x <;> simp [h, ih]
theorem filterMap_some {xs : List α} {e : α → D} : xs.filterMap (fun x => some (e x)) = xs.map e := by
  induction xs with
  | nil => rfl
  | cons x xs ih => simp
end
/-- kinds of data whose equality is python's -/
structure Enc {α : Type} [DecidableEq α] (e : α → D) : Prop where
  eqv : ∀ x y, D.eqv (e x) (e y) = decide (x = y)
  lay : ∀ k x, D.lay k (e x) = true
section
variable {α : Type} [DecidableEq α] {e : α → D}
theorem Enc.eqvs (h : Enc e) : ∀ a b : List α, D.eqvs (a.map e) (b.map e) = decide (a = b)
  | [], [] => by simp [D.eqvs]
  | [], b :: bs => by simp [D.eqvs]
  | a :: as, [] => by simp [D.eqvs]
  | a :: as, b :: bs => by
    rw [List.map_cons, List.map_cons]
    unfold D.eqvs
    rw [h.eqv, h.eqvs as bs]
    by_cases h1 : a = b <;> by_cases h2 : as = bs <;> simp [h1, h2]
theorem Enc.lays (h : Enc e) {k : Nat} : ∀ a : List α, D.lays k (a.map e) = true
  | [] => by simp [D.lays]
  | a :: as => by rw [List.map_cons]; unfold D.lays; rw [h.lay, h.lays as]; rfl
theorem Enc.lst (h : Enc e) (a : List α) {k : Nat} : D.lay (k + 1) (.lst (a.map e)) = true := by unfold D.lay; exact h.lays a
theorem Enc.tup (h : Enc e) (a : List α) {k : Nat} : D.lay (k + 1) (.tup (a.map e)) = true := by unfold D.lay; exact h.lays a
theorem Enc.eqL (h : Enc e) (a b : List α) : cmpop .Eq (.lst (a.map e)) (.lst (b.map e)) = some (decide (a = b)) := by
  unfold cmpop D.pyEq
  dsimp only
  rw [h.lst, h.lst]
  unfold D.eqv
  rw [h.eqvs]; rfl
theorem Enc.neL (h : Enc e) (a b : List α) : cmpop .NotEq (.lst (a.map e)) (.lst (b.map e)) = some (!decide (a = b)) := by
  unfold cmpop D.pyEq
  dsimp only
  rw [h.lst, h.lst]
  unfold D.eqv
  rw [h.eqvs]; rfl
theorem Enc.eqT (h : Enc e) (a b : List α) : cmpop .Eq (.tup (a.map e)) (.tup (b.map e)) = some (decide (a = b)) := by
  unfold cmpop D.pyEq
  dsimp only
  rw [h.tup, h.tup]
  unfold D.eqv
  rw [h.eqvs]; rfl
theorem Enc.neT (h : Enc e) (a b : List α) : cmpop .NotEq (.tup (a.map e)) (.tup (b.map e)) = some (!decide (a = b)) := by
  unfold cmpop D.pyEq
  dsimp only
  rw [h.tup, h.tup]
  unfold D.eqv
  rw [h.eqvs]; rfl
theorem Enc.isin (h : Enc e) (x : α) : ∀ a : List α, FB.isin (e x) (a.map e) = decide (x ∈ a)
  | [] => rfl
  | a :: as => by
    rw [List.map_cons]
    unfold FB.isin
    rw [h.eqv, h.isin x as]
    by_cases h1 : a = x
    · subst h1; simp
    · simp [h1, Ne.symm h1]
theorem Enc.inL (h : Enc e) (x : α) (a : List α) : cmpop .In (e x) (.lst (a.map e)) = some (decide (x ∈ a)) := by
  unfold cmpop memD
  dsimp only
  rw [h.lay, h.lays, h.isin]; rfl
theorem Enc.niL (h : Enc e) (x : α) (a : List α) : cmpop .NotIn (e x) (.lst (a.map e)) = some (!decide (x ∈ a)) := by
  unfold cmpop memD
  dsimp only
  rw [h.lay, h.lays, h.isin]; rfl
theorem Enc.inT (h : Enc e) (x : α) (a : List α) : cmpop .In (e x) (.tup (a.map e)) = some (decide (x ∈ a)) := by
  unfold cmpop memD
  dsimp only
  rw [h.lay, h.lays, h.isin]; rfl
theorem Enc.niT (h : Enc e) (x : α) (a : List α) : cmpop .NotIn (e x) (.tup (a.map e)) = some (!decide (x ∈ a)) := by
  unfold cmpop memD
  dsimp only
  rw [h.lay, h.lays, h.isin]; rfl
end
theorem encI : Enc D.int := ⟨fun x y => by unfold D.eqv; rfl, fun k x => by unfold D.lay; rfl⟩
/-! ### data -/
def nD (n : Nat) : D := .int n
def oD : Option Nat → D
  | none => .non
  | some n => .int n
theorem encN : Enc nD := ⟨fun x y => by
    unfold nD D.eqv
    by_cases h : x = y
    · subst h; simp
    · simp [h]; omega, fun k x => by unfold nD D.lay; rfl⟩
theorem encO : Enc oD := ⟨fun x y => by
    cases x with
    | none => cases y <;> simp [oD, D.eqv]
    | some x => cases y with
      | none => simp [oD, D.eqv]
      | some y => simpa [nD, oD] using encN.eqv x y, fun k x => by cases x <;> (unfold oD D.lay; rfl)⟩
structure Su where
  par : Par
  cap : List Nat
  hom : List Nat
def suD (s : Su) : D := .obj 0 [("parents", .tup (s.par.map oD)), ("capacities", .tup (s.cap.map nD)), ("homes", .tup (s.hom.map nD))]
section
variable {α β : Type} {ρ : Env}
theorem d0 (s : Su) : fldD "parents" (suD s) = some (.tup (s.par.map oD)) := rfl
theorem d1 (s : Su) : fldD "capacities" (suD s) = some (.tup (s.cap.map nD)) := rfl
theorem d2 (s : Su) : fldD "homes" (suD s) = some (.tup (s.hom.map nD)) := rfl
theorem d3 : oD none = .non := rfl
theorem d4 (p : Nat) : oD (some p) = .int p := rfl
theorem d5 (p : Nat) : nD p = .int p := rfl
theorem d6 (s : Su) (m : Str) : lookF m [("parents", .tup (s.par.map oD)), ("capacities", .tup (s.cap.map nD)), ("homes", .tup (s.hom.map nD))] = if m = "parents" then some (.tup (s.par.map oD)) else if m = "capacities" then some (.tup (s.cap.map nD)) else if m = "homes" then some (.tup (s.hom.map nD)) else none := rfl
theorem d7 (s : Su) : methOk "size" (suD s) = true := rfl
theorem d8 (s : Su) : methOk "way" (suD s) = true := rfl
theorem d9 (s : Su) : methOk "check_pool" (suD s) = true := rfl
theorem d10 (s : Su) : methOk "check_request" (suD s) = true := rfl
theorem d11 (s : Su) : methOk "parent" (suD s) = true := rfl
theorem d12 (s : Su) : methOk "capacity" (suD s) = true := rfl
theorem d13 (s : Su) : methOk "home" (suD s) = true := rfl
theorem d14 (s : Su) (C : Cfg) (Φ : Oracle) : bltV C Φ .len [.imm (suD s)] ρ = optK (C.lenF 0) (k := ⟨fun f => lenB (Φ f [suD s]) ρ⟩) := rfl
theorem d15 {lt} : (cfgG lt).lenF 0 = some 5 := rfl
theorem atI_nat {xs : List α} {p : Nat} : FB.atI xs (p : Int) = xs[p]? := by
  unfold FB.atI FB.ixN
  by_cases h : p < xs.length
  · have h1 : (0 : Int) ≤ p := by omega
    have h2 : (p : Int) < xs.length := by omega
    simp [h1, h2]
  · have h1 : (0 : Int) ≤ p := by omega
    have h2 : ¬ (p : Int) < xs.length := by omega
    simp [h1, h2]
    omega
theorem ixN_nat {m p : Nat} (h : p < m) : FB.ixN m (p : Int) = some p := by
  unfold FB.ixN
  have h1 : (0 : Int) ≤ p := by omega
  have h2 : (p : Int) < m := by omega
  simp [h1, h2]
theorem x0 {xs : List D} {i : Int} : idxD (.lst xs) (.int i) = FB.atI xs i := rfl
theorem x1 {xs : List D} {i : Int} : idxD (.tup xs) (.int i) = FB.atI xs i := rfl
/-- an item of a mapped list -/
theorem at_map {e : α → D} {f : List α} {p : Nat} (h : p < f.length) (d : α) : FB.atI (f.map e) (p : Int) = some (e (f.getD p d)) := by
  rw [atI_nat, List.getElem?_map, List.getD_eq_getElem?_getD, List.getElem?_eq_getElem h]; rfl
theorem at_I {f : List Int} {p : Nat} (h : p < f.length) : FB.atI (f.map D.int) (p : Int) = some (.int (gI f p)) := at_map h 0
theorem at_N {f : List Nat} {p : Nat} (h : p < f.length) : FB.atI (f.map nD) (p : Int) = some (.int ((f.getD p 0 : Nat) : Int)) := at_map h 0
theorem at_O {f : List (Option Nat)} {p : Nat} (h : p < f.length) : FB.atI (f.map oD) (p : Int) = some (oD (f.getD p none)) := at_map h none
theorem set_I {f : List Int} {p : Nat} {v : Int} (h : p < f.length) : setIdx (.lst (f.map D.int)) (.int p) (.int v) = some (.lst ((f.set p v).map D.int)) := by
  unfold setIdx
  simp only [List.length_map, ixN_nat h, List.map_set]
theorem max_py (a b : Int) : (if b > a then b else a) = max a b := by rw [Int.max_def]; split <;> split <;> omega
theorem min_py (a b : Int) : (if b < a then b else a) = min a b := by rw [Int.min_def]; split <;> split <;> omega
theorem nI_nD (l : List Nat) : l.map nD = (l.map Int.ofNat).map D.int := by rw [List.map_map]; rfl
-- what is walked, as mapped lists
theorem range_nD : ∀ (n : Nat) (a : Nat), rangeL (a : Int) n = (List.range' a n).map nD
  | 0, _ => rfl
  | n + 1, a => by
    show D.int a :: rangeL ((a : Int) + 1) n = _
    rw [show ((a : Int) + 1) = ((a + 1 : Nat) : Int) by omega, range_nD n (a + 1)]
    rfl
theorem range_0 (n : Nat) : rangeL 0 n = (List.range n).map nD := by rw [List.range_eq_range']; exact range_nD n 0
theorem rangeC_down : ∀ (m : Nat), rangeC ((m : Int) - 1) (-1) m = (List.range m).reverse.map nD
  | 0 => rfl
  | m + 1 => by
    show D.int (((m + 1 : Nat) : Int) - 1) :: rangeC (((m + 1 : Nat) : Int) - 1 + (-1)) (-1) m = _
    have e : (((m + 1 : Nat) : Int) - 1 + (-1)) = (m : Int) - 1 := by omega
    have e2 : (((m + 1 : Nat) : Int) - 1) = (m : Int) := by omega
    rw [e, e2, rangeC_down m, List.range_succ, List.reverse_append, List.map_append]
    rfl
theorem enum_from (e : α → D) : ∀ (xs : List α) (k : Nat), enumL (k : Int) (xs.map e) = (xs.zipIdx k).map fun p => .tup [.int (p.2 : Int), e p.1]
  | [], _ => rfl
  | x :: xs, k => by
    show D.tup [.int k, e x] :: enumL ((k : Int) + 1) (xs.map e) = _
    rw [show ((k : Int) + 1) = ((k + 1 : Nat) : Int) by omega, enum_from e xs (k + 1)]
    rfl
theorem enum_map (e : α → D) (xs : List α) : enumL 0 (xs.map e) = xs.zipIdx.map fun p => .tup [.int (p.2 : Int), e p.1] := enum_from e xs 0
theorem zip_map (e : α → D) (f : β → D) : ∀ (xs : List α) (ys : List β), zipL (xs.map e) (ys.map f) = (xs.zip ys).map fun p => .tup [e p.1, f p.2]
  | [], ys => by cases ys <;> rfl
  | x :: xs, [] => rfl
  | x :: xs, y :: ys => by
    show D.tup [e x, f y] :: zipL (xs.map e) (ys.map f) = _
    rw [zip_map e f xs ys]; rfl
theorem rep_map {x : α} {e : α → D} (m : Nat) : List.replicate m (e x) = (List.replicate m x).map e := by simp
theorem flat_rep {x : D} (m : Nat) : (List.replicate m [x]).flatten = List.replicate m x := by
  induction m with
  | zero => rfl
  | succ m ih => rw [List.replicate_succ, List.flatten_cons, ih]; rfl
theorem repL {x : D} {m : Nat} (h : m ≤ 1000) : binop .Mult (.lst [x]) (.int (m : Int)) = some (true, .lst (List.replicate m x)) := by
  unfold binop
  dsimp only
  rw [if_pos ⟨by omega, by omega, by rw [Int.toNat_natCast]; show 1 * m ≤ 16777216; omega⟩, Int.toNat_natCast, flat_rep]
theorem repT {x : D} {m : Nat} (h : m ≤ 1000) : binop .Mult (.tup [x]) (.int (m : Int)) = some (false, .tup (List.replicate m x)) := by
  unfold binop
  dsimp only
  rw [if_pos ⟨rfl, by omega, by omega⟩, Int.toNat_natCast, flat_rep]
theorem rep0 {m : Nat} (h : m ≤ 1000) : binop .Mult (.lst [.int 0]) (.int (m : Int)) = some (true, .lst ((List.replicate m (0 : Int)).map .int)) := by rw [repL h]; simp
-- operators
theorem g0 {i j : Int} : binop .Add (.int i) (.int j) = some (false, .int (i + j)) := rfl
theorem g1 {i j : Int} : binop .Sub (.int i) (.int j) = some (false, .int (i - j)) := rfl
theorem g2 {a b : List D} (h : a.length + b.length ≤ 16777216) : binop .Add (.lst a) (.lst b) = some (true, .lst (a ++ b)) := by show (if _ then _ else _) = _; rw [if_pos (by exact h)]
theorem g3 {a b : List D} (h : a.length + b.length ≤ 16777216) : binop .Add (.tup a) (.tup b) = some (false, .tup (a ++ b)) := by show (if _ then _ else _) = _; rw [if_pos (by exact h)]
theorem g4 {i j : Int} (h : (-18446744073709551616 < i ∧ i < 18446744073709551616) ∨ (-18446744073709551616 < j ∧ j < 18446744073709551616)) : binop .Mult (.int i) (.int j) = some (false, .int (i * j)) := by
  show (if _ then _ else _) = _; rw [if_pos (by exact h)]
theorem g5 {i j : Int} (h : 0 < j) (h' : j < 1073741824) : binop .FloorDiv (.int i) (.int j) = some (false, .int (i / j)) := by show (if _ then _ else _) = _; rw [if_pos ⟨h, h'⟩]
theorem g6 {i j : Int} (h : 0 < j) : binop .Mod (.int i) (.int j) = some (false, .int (i % j)) := by show (if _ then _ else _) = _; rw [if_pos h]
theorem h0 {i j : Int} : cmpop .Lt (.int i) (.int j) = some (decide (i < j)) := rfl
theorem h1 {i j : Int} : cmpop .LtE (.int i) (.int j) = some (decide (i ≤ j)) := rfl
theorem h2 {i j : Int} : cmpop .Gt (.int i) (.int j) = some (decide (j < i)) := rfl
theorem h3 {i j : Int} : cmpop .GtE (.int i) (.int j) = some (decide (j ≤ i)) := rfl
theorem h4 {a : D} : cmpop .Is a .non = some a.isNon := by cases a <;> rfl
theorem h5 {a : D} : cmpop .IsNot a .non = some (!a.isNon) := by cases a <;> rfl
theorem h6 {i j : Int} : cmpop .Eq (.int i) (.int j) = some (i == j) := by
  show D.pyEq _ _ = _
  unfold D.pyEq
  simp [D.lay, D.eqv]
theorem h7 {i j : Int} : cmpop .NotEq (.int i) (.int j) = some (!(i == j)) := by
  unfold cmpop D.pyEq
  simp [D.lay, D.eqv]
theorem h8 {i : Int} : D.isNon (.int i) = false := rfl
theorem h9 : D.isNon .non = true := rfl
theorem u0 {xs : List D} : bltD .len [.lst xs] = some (false, .int xs.length) := rfl
theorem u1 {xs : List D} : bltD .len [.tup xs] = some (false, .int xs.length) := rfl
theorem u2 {i j : Int} : bltD .max2 [.int i, .int j] = some (false, .int (max i j)) := by show some (false, D.int _) = _; rw [max_py]
theorem u3 {i j : Int} : bltD .min2 [.int i, .int j] = some (false, .int (min i j)) := by show some (false, D.int _) = _; rw [min_py]
theorem u4 {xs : List D} : bltD .tuple [.lst xs] = some (false, .tup xs) := rfl
theorem u5 {xs : List D} : bltD .list [.lst xs] = some (true, .lst xs) := rfl
theorem u6 {xs : List D} : bltD .list [.tup xs] = some (true, .lst xs) := rfl
theorem u7 {i : Int} : bltD .int [.int i] = some (false, .int i) := rfl
theorem u8 {b : Bool} : bltD .int [.bl b] = some (false, .int (if b then 1 else 0)) := rfl
theorem u9 {i j : Int} : augD .Add (.int i) (.int j) = some (.int (i + j)) := rfl
theorem u10 {i j : Int} : augD .Sub (.int i) (.int j) = some (.int (i - j)) := rfl
theorem u11 {xs : List D} : bltD .tuple [.tup xs] = some (false, .tup xs) := rfl
theorem y0 {i : Nat} {xs ds : List D} {own : Bool} {m : Mth} (hm : m.look = false) (h : FB.ownD ρ i = some (.lst xs)) : mthV m (.vr i) ds ρ = opt (mthD m xs ds) fun p => .ok (.imm p.1) (ρ.set i (some ⟨true, .lst p.2⟩)) := by
  unfold mthV; simp only [hm, h, Bool.false_eq_true, if_false]
theorem y1 {xs : List D} {y : D} (h : xs.length < 16777216) : mthD .append xs [y] = some (.non, xs ++ [y]) := by show (if _ then _ else _) = _; rw [if_pos (by exact h)]
end
end FB

set_option Elab.async false
set_option linter.all false
set_option maxRecDepth 100000
set_option maxHeartbeats 400000
namespace FB
local macro_rules | `(tactic| simp! [$ts,*]) => `(tactic| simp -implicitDefEqProofs -dsimp only [th, ks, kn, Ka0, Ka1, Kb0, Kb1, Kb2, Kb3, Kb4, Kb5, Kb6, Kb7, Kb8, Kb9, Kb10, Kb11, Kc0, Kc1, Kc2, Kc3, Kc4, Kc5, Kc6, Kc7, Kc8, Kc9, Ke0, e1, e2, Ke3, Ke4, e4', Ke5, Ke6, Ke7, Ke8, Ke9, Ke10, Ke11, Ke12, Ke13, Ke14, Ke15, Ke16, Ke17, Ke17b, Ke18, Ke19, Ke20, Ke21, Ke22, Ke23, Ke24, Ke25, t0, Kt1, Kt2, t3, l0, Kl1, l2, Kl3, l4, Kl5, Kl5a, Kl5b, Kl6, o0, Ko1, o2, Ki0, Ki1, i1', Ki2, Ki3, Ki4, Ki5, s0, Ks1, Ks2, Ks3, s3', Ks4, Ks5, Ks6, Ks7, Ks8, Ks8', Ks9, Ks10, Ks11, s12, Ks13, Ks14, s15, s16, s17, s18, Kf0, Kf1, f3, nd0, nd1, body_name, Kbody_tup, setTg_name, setTg_2, setTg_3, mk0, mk1, w0, w1, k0, k1, p0, p1, p2, p3, p4, n0, n1, n2, q0, q1, q2, q3, q4, pt0, pc0, d0, d1, d2, d4, d5, d7, d8, d9, d10, d11, d12, d13, d14, d15, x0, x1, range_0, rangeC_down, enum_map, zip_map, g0, g1, h0, h1, h2, h3, h4, h5, h6, h7, h8, h9, u0, u1, u2, u3, u4, u5, u6, u7, u8, u9, u10, u11, Kct0, Kct1, mo0, mo1, mo2, mo3, mo4, Kmo5, Kmo6, Kmo7, Kmo8, mo9, Kv0, Kv1, Kv2, Kv3, Kv4, Kv5, va0, va1, va2, rd0, rd1, rd2, sl0, sl1, ow0, ow1, fz0, fz1, fz2, fz3, fz4, re0, re1, re2, re3, re4, st0, st1, st2, pv0, pv1, il0, it0, it1, po0, po1, po2, po3, so0, so1, so2, so3, ou0, ou1, ou2, is0, is1, is2, is3, is4, is6, is7, AV.d, List.getElem?_cons_zero, List.getElem?_cons_succ, List.set_cons_zero, List.set_cons_succ, List.map_cons, List.map_nil, List.mapM_cons, List.mapM_nil, Option.pure_def, Option.bind_eq_bind, Option.bind_some, Option.map_some, Option.map_none, Option.getD_some, Option.getD_none, List.length_cons, List.length_nil, List.length_map, List.replicate, Bool.false_eq_true, Bool.true_and, Bool.and_true, Bool.false_and, Bool.and_false, Bool.not_true, Bool.not_false, Bool.and_self, if_false, if_true, decide_true, decide_false, $ts,*])
local macro_rules | `(tactic| dsimp! [$ts,*]) => `(tactic| simp -implicitDefEqProofs -dsimp only [$ts,*, List.length_cons, List.length_nil, Nat.reduceAdd, Nat.reduceSub, List.replicate, List.cons_append, List.nil_append, List.append_nil])
open PySem
section
variable {lt : List FDef} {n : Nat}
/-! ### the program's defs -/
theorem r0 : (cfgG lt).raws 0 = some [false] := rfl
theorem r1 : (cfgG lt).raws 1 = some [false, false, false] := rfl
theorem r2 : (cfgG lt).raws 2 = some [true, false, false, false] := rfl
theorem r4 : (cfgG lt).raws 4 = some [false] := rfl
theorem r5 : (cfgG lt).raws 5 = some [false] := rfl
theorem r9 : (cfgG lt).raws 9 = some [false, false] := rfl
theorem r10 : (cfgG lt).raws 10 = some [false, false] := rfl
theorem r11 : (cfgG lt).raws 11 = some [false, false] := rfl
theorem r12 : (cfgG lt).raws 12 = some [false] := rfl
theorem r13 : (cfgG lt).raws 13 = some [false, false, false, false, false] := rfl
theorem r14 : (cfgG lt).raws 14 = some [false, false] := rfl
theorem r15 : (cfgG lt).raws 15 = some [false, false] := rfl
theorem r16 : (cfgG lt).raws 16 = some [false, false] := rfl
theorem r17 : (cfgG lt).raws 17 = some [false] := rfl
theorem r27 : (cfgG lt).raws 27 = some [false, false, false] := rfl
theorem r29 : (cfgG lt).raws 29 = some [false, false, false] := rfl
theorem r64 : (cfgG lt).raws 64 = some [false, false] := rfl
theorem r65 : (cfgG lt).raws 65 = some [false, false] := rfl
theorem r66 : (cfgG lt).raws 66 = some [false, false] := rfl
theorem is_int_int (i : Int) : PH lt (n + 1) 0 [.int i] = .ok false (.bl true) [] := rfl
theorem is_from_int (v lo hi : Int) : PH lt (n + 2) 1 [.int v, .int lo, .int hi] = .ok false (.bl (decide (lo ≤ v) && decide (v ≤ hi))) [] := by
  refine PH_eq F1 rfl rfl ?_
  dsimp! [F1]
  simp! [r0, is_int_int]
  by_cases h : lo ≤ v
  · simp! [h]
    exact is_rfl
  · simp! [h]
    exact is_rfl
theorem from_ok {v lo hi : Int} (h1 : lo ≤ v) (h2 : v ≤ hi) : PH lt (n + 2) 1 [.int v, .int lo, .int hi] = .ok false (.bl true) [] := by
  rw [is_from_int]
  simp [h1, h2]
/-- a setup that stands -/
structure Su.Ok (s : Su) : Prop where
  T : Tree s.par
  small : s.par.length ≤ 60
  cap : s.cap.length = s.par.length
  caps : ∀ c ∈ s.cap, c ≤ 60
  homs : s.hom.length ≤ 60
  hom : ∀ h ∈ s.hom, h < s.par.length
theorem size_eq (s : Su) : PH lt (n + 1) 4 [suD s] = .ok false (.int s.par.length) [] := by
  refine PH_eq F4 rfl rfl ?_
  dsimp! [F4]
  simp! []
  exact is_rfl
theorem len_eq (s : Su) : PH lt (n + 1) 5 [suD s] = .ok false (.int s.hom.length) [] := by
  refine PH_eq F5 rfl rfl ?_
  dsimp! [F5]
  simp! []
  exact is_rfl
theorem check_pool_eq (s : Su) {p : Nat} (hp : p < s.par.length) : PH lt (n + 3) 10 [suD s, .int p] = .ok false .non [] := by
  refine PH_eq F10 rfl rfl ?_
  dsimp! [F10]
  simp! [r1, from_ok (show (0 : Int) ≤ p by omega) (show (p : Int) ≤ (s.par.length : Int) - 1 by omega)]
  exact is_rfl
theorem check_request_eq (s : Su) {p : Nat} (hp : p < s.hom.length) : PH lt (n + 3) 11 [suD s, .int p] = .ok false .non [] := by
  refine PH_eq F11 rfl rfl ?_
  dsimp! [F11]
  simp! [r1, from_ok (show (0 : Int) ≤ p by omega) (show (p : Int) ≤ (s.hom.length : Int) - 1 by omega)]
  exact is_rfl
theorem way_eq {s : Su} (ok : s.Ok) {p : Nat} (hp : p < s.par.length) : PH lt (n + 4) 9 [suD s, .int p] = .ok true (.lst ((way s.par p).map nD)) [] := by
  have sm := ok.small
  refine PH_eq F9 rfl rfl ?_
  dsimp! [F9]
  simp! [r10, check_pool_eq s hp]
  refine post_whl (fun m ρ => ∃ acc : List Nat, acc.length + m ≤ 61 ∧ ρ = [some ⟨false, suD s⟩, some ⟨false, oD (match m with | 0 => none | q + 1 => some q)⟩, some ⟨true, .lst (acc.map nD)⟩] ∧
      m ≤ s.par.length ∧ acc ++ (match m with | 0 => [] | q + 1 => way s.par q) = way s.par p) (p + 1) (by show p + 1 < 1000000; omega) ⟨[], by simp; omega, rfl, by omega, rfl⟩ ?_
  rintro m ρ ⟨acc, ha, rfl, hm, hw⟩
  cases m with
  | zero =>
    rw [show oD (match (0 : Nat) with | 0 => none | q + 1 => some q) = D.non from rfl]
    simp! [d3]
    refine ⟨(fun h => nomatch h), fun _ => ?_⟩
    rw [List.append_nil] at hw
    rw [hw]
    exact is_rfl
  | succ q =>
    have hq : q < s.par.length := by omega
    simp! []
    refine ⟨fun _ => ?_, (fun h => nomatch h)⟩
    simp! [y1 (xs := acc.map nD) (by rw [List.length_map]; omega), at_O hq]
    have e : List.map nD acc ++ [.int (q : Int)] = (acc ++ [q]).map nD := by rw [List.map_append]; rfl
    rw [e]
    cases hu : up s.par q with
    | none =>
      refine ⟨0, by omega, acc ++ [q], by simp; omega, ?_, by omega, ?_⟩
      · unfold up at hu; rw [hu]
      · rw [← hw]; dsimp only; rw [way_none hu, List.append_nil]
    | some r =>
      have hr := ok.T.lt hu
      refine ⟨r + 1, by omega, acc ++ [q], by simp; omega, ?_, by omega, ?_⟩
      · unfold up at hu; rw [hu]
      · rw [← hw]; dsimp only; rw [ok.T.way_up hu, List.append_assoc]; rfl
theorem mem_zipIdx' {α : Type} {xs : List α} {x : α} {i : Nat} (h : (x, i) ∈ xs.zipIdx) : ∃ hi : i < xs.length, xs[i] = x := by
  have := List.mem_zipIdx h
  simp at this
  exact ⟨this.1, this.2.symm⟩
theorem zip_at {α : Type} {xs : List α} {x : α} {i : Nat} (h : (x, i) ∈ xs.zipIdx) : i < xs.length ∧ xs[i]? = some x ∧ x ∈ xs := by
  obtain ⟨hi, e⟩ := mem_zipIdx' h
  exact ⟨hi, by rw [List.getElem?_eq_getElem hi, e], by rw [← e]; exact List.getElem_mem hi⟩
theorem check_parents_eq {par : Par} (T : Tree par) (sm : par.length ≤ 60) : PH lt (n + 3) 12 [.lst (par.map oD)] = .ok false .non [] := by
  have hpos := T.pos
  refine PH_eq F12 rfl rfl ?_
  dsimp! [F12]
  simp! [show (1 : Int) ≤ (par.length : Int) by omega, show (par.length : Int) ≤ 60 by omega]
  refine post_look (fun (j : Option FB.Slot × Option FB.Slot) => [some ⟨false, .lst (par.map oD)⟩, j.1, j.2]) (none, none) rfl ?_ ?_
  · rintro ⟨x, i⟩ hx j
    obtain ⟨hi, rfl⟩ := mem_zipIdx' hx
    rcases Nat.eq_zero_or_pos i with h0 | h0
    · subst h0
      have e0 : par[0] = none := by have := T.root; rw [List.getElem?_eq_getElem hi] at this; exact Option.some.inj this
      simp! [e0, d3, show (((0 : Nat) : Int) == 0) = true from rfl, show ¬ ((0 : Int) < ((0 : Nat) : Int)) by omega]
      exact ⟨(_, _), rfl⟩
    · obtain ⟨q, hq, hlt⟩ := T.ups i h0 hi
      have e0 : par[i] = some q := by rw [List.getElem?_eq_getElem hi] at hq; exact Option.some.inj hq
      simp! [e0, show (((i : Nat) : Int) == 0) = false by simp; omega, show ((0 : Int) < ((i : Nat) : Int)) by omega, r1, from_ok (show (0 : Int) ≤ q by omega) (show (q : Int) ≤ (i : Int) - 1 by omega)]
      exact ⟨(_, _), rfl⟩
  · intro j
    simp! []
    exact is_rfl
theorem check_items_eq {part : D} {xs : List Nat} {a b : Int} {hi : Nat} (h1 : a ≤ xs.length) (h2 : (xs.length : Int) ≤ b) (h : ∀ x ∈ xs, (x : Int) ≤ hi') : PH lt (n + 3) 13 [part, .lst (xs.map nD), .int a, .int b, .int hi'] = .ok false .non [] := by
  refine PH_eq F13 rfl rfl ?_
  dsimp! [F13]
  simp! [h1, h2]
  refine post_look (fun (j : Option FB.Slot × Option FB.Slot) => [some ⟨false, part⟩, some ⟨false, .lst (xs.map nD)⟩, some ⟨false, .int a⟩, some ⟨false, .int b⟩, some ⟨false, .int hi'⟩, j.1, j.2]) (none, none) rfl ?_ ?_
  · rintro ⟨x, i⟩ hx j
    obtain ⟨hi, rfl⟩ := mem_zipIdx' hx
    have := h _ (List.getElem_mem hi)
    simp! [r1, from_ok (show (0 : Int) ≤ (xs[i] : Nat) by omega) this]
    exact ⟨(_, _), rfl⟩
  · intro j
    simp! []
    exact is_rfl
theorem init_eq {s : Su} (ok : s.Ok) : PH lt (n + 4) 2 [.obj 0 [], .lst (s.par.map oD), .lst (s.cap.map nD), .lst (s.hom.map nD)] = .ok false .non [suD s] := by
  have hc := ok.cap
  have hh := ok.homs
  refine PH_eq F2 rfl rfl ?_
  dsimp! [F2]
  simp! [r12, check_parents_eq ok.T ok.small]
  simp! [r13, check_items_eq (part := .str "capacities") (xs := s.cap) (a := s.par.length) (b := s.par.length) (hi := 0) (hi' := 60) (by omega) (by omega) (fun x hx => by have := ok.caps x hx; omega)]
  simp! [r13, check_items_eq (part := .str "homes") (xs := s.hom) (a := 0) (b := 60) (hi := 0) (hi' := (s.par.length : Int) - 1) (by omega) (by omega) (fun x hx => by have := ok.hom x hx; omega)]
  simp! [setFld, putF]
  exact is_rfl
/-! ### placements -/
def roomStep (r : List Int) : Option Nat → List Int
  | none => r
  | some p => r.set p (gI r p - 1)
def roomOf (cap : List Nat) (pl : List (Option Nat)) : List Int := pl.foldl roomStep (cap.map Int.ofNat)
theorem room_of_eq (s : Su) (pl : List (Option Nat)) (hp : ∀ p, some p ∈ pl → p < s.cap.length) : PH lt (n + 1) 16 [suD s, .tup (pl.map oD)] = .ok true (.lst ((roomOf s.cap pl).map .int)) [] := by
  refine PH_eq F16 rfl rfl ?_
  dsimp! [F16]
  simp! [nI_nD]
  refine post_fold (fun r (v : Option FB.Slot) => [some ⟨false, suD s⟩, some ⟨false, .tup (pl.map oD)⟩, some ⟨true, .lst (r.map .int)⟩, v]) roomStep (fun r => r.length = s.cap.length) (s.cap.map Int.ofNat) none rfl (by simp) ?_ ?_
  · intro x hx r v hI
    cases x with
    | none =>
      simp! [d3]
      exact ⟨_, rfl, hI⟩
    | some p =>
      have hl : p < r.length := by rw [hI]; exact hp p hx
      simp! [at_I hl, set_I hl]
      exact ⟨_, rfl, by simp [roomStep, hI]⟩
  · intro v _
    simp! []
    exact is_rfl
/-- a placement -/
structure IsPl (s : Su) (pl : List (Option Nat)) : Prop where
  len : pl.length = s.hom.length
  way : ∀ r p, pl[r]? = some (some p) → p ∈ way s.par (s.hom.getD r 0)
  cap : ∀ p, p < s.par.length → pl.count (some p) ≤ s.cap.getD p 0
theorem isin_nat (p : Nat) (l : List Nat) : isin (.int p) (l.map nD) = decide (p ∈ l) := by
  induction l with
  | nil => rfl
  | cons a l ih =>
    show (D.eqv (.int a) (.int p) || isin (.int p) (l.map nD)) = _
    rw [ih]
    show ((a : Int) == (p : Int) || _) = _
    by_cases e : a = p
    · subst e; simp
    · have : ((a : Int) == (p : Int)) = false := by simp; omega
      rw [this]
      simp [Ne.symm e]
theorem lays_nat {k : Nat} (l : List Nat) : D.lays k (l.map nD) = true := by
  induction l with
  | nil => unfold D.lays; rfl
  | cons a l ih => rw [List.map_cons]; unfold D.lays; rw [ih]; unfold nD D.lay; rfl
theorem in_nat (p : Nat) (l : List Nat) : cmpop .In (.int p) (.lst (l.map nD)) = some (decide (p ∈ l)) := by
  unfold cmpop memD
  dsimp only
  rw [lays_nat, isin_nat]
  rfl
theorem notin_nat (p : Nat) (l : List Nat) : cmpop .NotIn (.int p) (.lst (l.map nD)) = some (!decide (p ∈ l)) := by
  unfold cmpop memD
  dsimp only
  rw [lays_nat, isin_nat]
  rfl
theorem in_natT (p : Nat) (l : List Nat) : cmpop .In (.int p) (.tup (l.map nD)) = some (decide (p ∈ l)) := by
  unfold cmpop memD
  dsimp only
  rw [lays_nat, isin_nat]
  rfl
theorem notin_natT (p : Nat) (l : List Nat) : cmpop .NotIn (.int p) (.tup (l.map nD)) = some (!decide (p ∈ l)) := by
  unfold cmpop memD
  dsimp only
  rw [lays_nat, isin_nat]
  rfl
theorem IsPl.bd {s : Su} (ok : s.Ok) {pl : List (Option Nat)} (h : IsPl s pl) {p : Nat} (hp : some p ∈ pl) : p < s.par.length := by
  obtain ⟨r, hr, e⟩ := List.mem_iff_getElem.mp hp
  have h1 := h.way r p (by rw [List.getElem?_eq_getElem hr, e])
  have h2 : r < s.hom.length := by rw [← h.len]; exact hr
  have h3 : s.hom.getD r 0 < s.par.length := by
    rw [List.getD_eq_getElem?_getD, List.getElem?_eq_getElem h2]
    exact ok.hom _ (List.getElem_mem h2)
  exact ok.T.way_mem h1 h3
theorem gI_add {l : List Int} {p q : Nat} (h : p < l.length) : gI (l.set p (gI l p + 1)) q = gI l q + ind p q := by
  rw [gI_set h]
  unfold ind
  split
  · subst_vars; rfl
  · omega
theorem zipIdx_split {α : Type} {xs : List α} {pre post : List (α × Nat)} {x : α × Nat} (e : xs.zipIdx = pre ++ x :: post) : xs = pre.map (·.1) ++ x.1 :: post.map (·.1) := by
  have h := congrArg (List.map Prod.fst) e
  rw [List.map_append, List.map_cons] at h
  simpa using h
theorem check_placement_eq {s : Su} (ok : s.Ok) {pl : List (Option Nat)} (hp : IsPl s pl) : PH lt (n + 5) 14 [suD s, .tup (pl.map oD)] = .ok false .non [] := by
  have sm := ok.small
  have hh := ok.homs
  refine PH_eq F14 rfl rfl ?_
  dsimp! [F14]
  simp! [len_eq, f4 (show (0 : Int) ≤ s.hom.length ∧ (s.hom.length : Int) < 1000000 by omega), hp.len, beq_self_eq_true, r4, size_eq, rep0 (show s.par.length ≤ 1000 by omega)]
  refine post_for (fun pre ρ => ∃ (f : List Int) (v3 v4 : Option FB.Slot), ρ = [some ⟨false, suD s⟩, some ⟨false, .tup (pl.map oD)⟩, some ⟨true, .lst (f.map .int)⟩, v3, v4] ∧ f.length = s.par.length ∧ ∀ p, p < s.par.length → gI f p = ((pre.map (·.1)).count (some p) : Nat)) ⟨List.replicate s.par.length 0, none, none, by simp, by simp, fun p hp => by simp [gI, List.getD_eq_getElem?_getD, hp]⟩ ?_ ?_
  · rintro pre ⟨x, i⟩ post e ρ ⟨f, v3, v4, rfl, hl, hf⟩
    have hmem : (x, i) ∈ pl.zipIdx := by rw [e]; simp
    obtain ⟨hi, hx⟩ := mem_zipIdx' hmem
    have hsp := zipIdx_split e
    cases x with
    | none =>
      simp! [d3]
      refine ⟨f, _, _, rfl, hl, fun p hp => ?_⟩
      rw [hf p hp]; simp
    | some q =>
      have hi2 : i < s.hom.length := by rw [← hp.len]; exact hi
      have hq : q < s.par.length := hp.bd ok (by rw [← hx]; exact List.getElem_mem hi)
      have hw := hp.way i q (by rw [List.getElem?_eq_getElem hi, hx])
      have hhm : s.hom.getD i 0 < s.par.length := by
        rw [List.getD_eq_getElem?_getD, List.getElem?_eq_getElem hi2]
        exact ok.hom _ (List.getElem_mem hi2)
      have hqf : q < f.length := by omega
      have hcq : q < s.cap.length := by rw [ok.cap]; exact hq
      have hcnt : ((pre.map (·.1)).count (some q) : Int) + 1 ≤ (s.cap.getD q 0 : Nat) := by
        have h1 := hp.cap q hq
        rw [hsp, List.count_append, List.count_cons_self] at h1
        omega
      simp! [r0, is_int_int, r9, at_N hi2, way_eq ok hhm, notin_nat, hw, at_I hqf, set_I hqf]
      have hqf2 : q < (f.set q (gI f q + 1)).length := by simpa using hqf
      have hgt : ¬ ((s.cap.getD q 0 : Nat) : Int) < gI (f.set q (gI f q + 1)) q := by rw [gI_set hqf, if_pos rfl, hf q hq]; omega
      simp! [at_I hqf2, at_N hcq, hgt]
      refine ⟨_, _, _, rfl, by simp [hl], fun p hp => ?_⟩
      rw [gI_add hqf, hf p hp, List.map_append, List.count_append]
      unfold ind
      by_cases e2 : p = q
      · subst e2; simp
      · simp [e2, Ne.symm e2]
  · rintro ρ ⟨f, v3, v4, rfl, _⟩
    simp! []
    exact is_rfl
theorem room_left_eq {s : Su} (ok : s.Ok) {pl : List (Option Nat)} (hp : IsPl s pl) : PH lt (n + 6) 15 [suD s, .tup (pl.map oD)] = .ok true (.lst ((roomOf s.cap pl).map .int)) [] := by
  refine PH_eq F15 rfl rfl ?_
  dsimp! [F15]
  simp! [r14, check_placement_eq ok hp, r16, room_of_eq s pl fun p h => by rw [ok.cap]; exact hp.bd ok h]
  exact is_rfl
theorem empty_eq {s : Su} (ok : s.Ok) : PH lt (n + 2) 17 [suD s] = .ok false (.tup ((List.replicate s.hom.length (none : Option Nat)).map oD)) [] := by
  have hh := ok.homs
  have e : List.replicate s.hom.length D.non = (List.replicate s.hom.length (none : Option Nat)).map oD := by rw [List.map_replicate]; rfl
  refine PH_eq F17 rfl rfl ?_
  dsimp! [F17]
  simp! [len_eq, f4 (show (0 : Int) ≤ s.hom.length ∧ (s.hom.length : Int) < 1000000 by omega), repT (show s.hom.length ≤ 1000 by omega), e]
  exact is_rfl
/-! ### flows -/
structure IsReq (s : Su) (pl : List (Option Nat)) (rs : List Nat) : Prop where
  lt : ∀ r ∈ rs, r < s.hom.length
  nd : rs.Nodup
  free : ∀ r ∈ rs, pl[r]? = some none
theorem cut_pre {α : Type} (xs : List α) (i : Nat) (h : i ≤ xs.length) : cutD xs none (some (i : Int)) = xs.take i := by
  unfold cutD sIx
  dsimp only
  have : ¬ ((i : Int) < 0) := by omega
  rw [if_neg this, Int.toNat_natCast, Nat.min_eq_left h]
  rfl
theorem slc_lst {xs : List D} {lo hi : Option Int} : slcD (.lst xs) lo hi = some (true, .lst (cutD xs lo hi)) := rfl
theorem slc_tup {xs : List D} {lo hi : Option Int} : slcD (.tup xs) lo hi = some (false, .tup (cutD xs lo hi)) := rfl
theorem check_requests_eq {s : Su} (ok : s.Ok) {pl : List (Option Nat)} (hl : pl.length = s.hom.length) {rs : List Nat} (hr : IsReq s pl rs) : PH lt (n + 3) 27 [suD s, .tup (pl.map oD), .lst (rs.map nD)] = .ok false .non [] := by
  have hh := ok.homs
  refine PH_eq F27 rfl rfl ?_
  dsimp! [F27]
  simp! []
  refine post_look (fun (j : Option FB.Slot × Option FB.Slot) => [some ⟨false, suD s⟩, some ⟨false, .tup (pl.map oD)⟩, some ⟨false, .lst (rs.map nD)⟩, j.1, j.2]) (none, none) rfl ?_ ?_
  · rintro ⟨x, i⟩ hx j
    have h9 := zip_at (xs := rs) hx
    have hi := h9.1
    have e := h9.2.1
    have hm := h9.2.2
    have hlt := hr.lt x hm
    have hfr := hr.free x hm
    have hxl : x < pl.length := by omega
    have hnp : x ∉ rs.take i := by
      intro h
      obtain ⟨j, hj, e2⟩ := List.mem_iff_getElem.mp h
      simp at hj
      rw [List.getElem_take] at e2
      rw [List.getElem?_eq_getElem hi] at e
      have := (List.getElem_inj hr.nd).mp (e2.trans (Option.some.inj e).symm)
      omega
    have hget : pl.getD x none = none := by rw [List.getD_eq_getElem?_getD, hfr]; rfl
    simp! [r1, len_eq, f4 (show (0 : Int) ≤ s.hom.length ∧ (s.hom.length : Int) < 1000000 by omega), from_ok (show (0 : Int) ≤ x by omega) (show (x : Int) ≤ (s.hom.length : Int) - 1 by omega),
      slc_lst, cut_pre (rs.map nD) i (by rw [List.length_map]; omega), ← List.map_take, in_nat, hnp, at_O hxl, hget, d3]
    exact ⟨(_, _), rfl⟩
  · intro j
    simp! []
    exact is_rfl
def addAt (f : List Int) (h : Nat) : List Int := f.set h (gI f h + 1)
def counts (n : Nat) (hom : List Nat) : List Int := hom.foldl addAt (List.replicate n 0)
theorem addAt_len (f : List Int) (h : Nat) : (addAt f h).length = f.length := by simp [addAt]
theorem foldl_len {α : Type} {step : List Int → α → List Int} (h : ∀ f x, (step f x).length = f.length) : ∀ (l : List α) (f : List Int), (l.foldl step f).length = f.length
  | [], _ => rfl
  | x :: l, f => by rw [List.foldl_cons, foldl_len h l, h]
theorem counts_len (n : Nat) (hom : List Nat) : (counts n hom).length = n := by unfold counts; rw [foldl_len addAt_len]; simp
theorem gI_rep {n p : Nat} {a : Int} (h : p < n) : gI (List.replicate n a) p = a := by simp [gI, List.getD_eq_getElem?_getD, h]
theorem counts_at {n : Nat} {hom : List Nat} (h : ∀ x ∈ hom, x < n) {p : Nat} (hp : p < n) : gI (counts n hom) p = (hom.count p : Nat) := by
  have key : ∀ (l : List Nat) (f : List Int), (∀ x ∈ l, x < f.length) → gI (l.foldl addAt f) p = gI f p + (l.count p : Nat) := by
    intro l
    induction l with
    | nil => intro f _; simp
    | cons x l ih =>
      intro f hx
      rw [List.foldl_cons, ih _ fun y hy => by rw [addAt_len]; exact hx y (List.mem_cons_of_mem _ hy)]
      have := gI_add (q := p) (hx x List.mem_cons_self)
      unfold addAt
      rw [this, List.count_cons]
      unfold ind
      by_cases e : p = x
      · subst e; simp; omega
      · simp [e, Ne.symm e]
  unfold counts
  rw [key _ _ (by simpa using h), gI_rep hp]
  omega
theorem small_ok {i : Int} (h1 : -4611686018427387904 ≤ i) (h2 : i < 4611686018427387904) : FB.small i = true := by
  unfold FB.small
  simp only [Bool.and_eq_true, decide_eq_true_eq]
  omega
theorem rngC_ok {ρ : Env} {m : Nat} (h : m ≤ 1000) : rngC ((m : Int) - 1) (-1) ρ = .ok ((List.range m).reverse.map nD) ρ := by
  unfold rngC
  rw [small_ok (by omega) (by omega), small_ok (by omega) (by omega)]
  rw [show (((m : Int) - 1) - (-1)).toNat = m by omega, rangeC_down]
  rfl
theorem rngV_ok {ρ : Env} {m : Nat} (h : m ≤ 1000000) : rngV 0 (m : Int) ρ = .ok ((List.range m).map nD) ρ := by
  unfold rngV
  rw [small_ok (by omega) (by omega), small_ok (by omega) (by omega)]
  rw [show ((m : Int) - 0).toNat = m by omega, range_0]
  rfl
theorem neg1 : (-(1 : Int)) = -1 := rfl
theorem overflows_eq {s : Su} (ok : s.Ok) {pl : List (Option Nat)} (hp : IsPl s pl) {rs : List Nat} (hr : IsReq s pl rs) : PH lt (n + 7) 29 [suD s, .tup (pl.map oD), .lst (rs.map nD)] =
    .ok true (.lst ((passAll s.par (gI (roomOf s.cap pl)) (counts s.par.length (rs.map fun r => s.hom.getD r 0))).map .int)) [] := by
  have sm := ok.small
  have hrl : (roomOf s.cap pl).length = s.par.length := by
    unfold roomOf
    rw [foldl_len fun f x => by unfold roomStep; cases x <;> simp]
    rw [List.length_map, ok.cap]
  have hom_lt : ∀ r ∈ rs, s.hom.getD r 0 < s.par.length := fun r hrm => by
    have := hr.lt r hrm
    rw [List.getD_eq_getElem?_getD, List.getElem?_eq_getElem this]
    exact ok.hom _ (List.getElem_mem this)
  refine PH_eq F29 rfl rfl ?_
  dsimp! [F29]
  simp! [r15, room_left_eq ok hp, r27, check_requests_eq ok hp.len hr, r4, size_eq, rep0 (show s.par.length ≤ 1000 by omega)]
  refine post_fold (fun f (v : Option FB.Slot) => [some ⟨false, suD s⟩, some ⟨false, .tup (pl.map oD)⟩, some ⟨false, .lst (rs.map nD)⟩, some ⟨false, .lst ((roomOf s.cap pl).map .int)⟩, some ⟨true, .lst (f.map .int)⟩, v, none])
    (fun f r => addAt f (s.hom.getD r 0)) (fun f => f.length = s.par.length) (List.replicate s.par.length 0) none rfl (by simp) ?_ ?_
  · intro r hrm f v hI
    have h1 := hr.lt r hrm
    have h2 : s.hom.getD r 0 < f.length := by rw [hI]; exact hom_lt r hrm
    simp! [at_N h1, at_I h2, set_I h2]
    exact ⟨_, rfl, by rw [addAt_len]; exact hI⟩
  intro v hI
  have ec : List.foldl (fun f r => addAt f (s.hom.getD r 0)) (List.replicate s.par.length 0) rs = counts s.par.length (rs.map fun r => s.hom.getD r 0) := by unfold counts; rw [List.foldl_map]
  rw [ec]
  simp! [r4, size_eq, neg1, rngC_ok (show s.par.length ≤ 1000 by omega)]
  refine post_fold (fun f (v' : Option FB.Slot) => [some ⟨false, suD s⟩, some ⟨false, .tup (pl.map oD)⟩, some ⟨false, .lst (rs.map nD)⟩, some ⟨false, .lst ((roomOf s.cap pl).map .int)⟩, some ⟨true, .lst (f.map .int)⟩, v, v'])
    (passStep s.par (gI (roomOf s.cap pl))) (fun f => f.length = s.par.length) (counts s.par.length (rs.map fun r => s.hom.getD r 0)) none rfl (counts_len _ _) ?_ ?_
  · intro p hpm f v' hI
    have hp' : p < s.par.length := by simpa using hpm
    have h1 : p < f.length := by omega
    have h2 : p < (roomOf s.cap pl).length := by omega
    simp! [at_I h1, at_I h2, set_I h1]
    generalize hv : max 0 (gI f p - gI (roomOf s.cap pl) p) = w
    have h3 : p < (f.set p w).length := by simpa using h1
    rcases Nat.eq_zero_or_pos p with h0 | h0
    · subst h0
      simp! [show ¬ ((0 : Int) < ((0 : Nat) : Int)) by omega]
      refine ⟨some ⟨false, .int (0 : Nat)⟩, ?_, by rw [passStep_len]; exact hI⟩
      unfold passStep upTo
      rw [ok.T.up0, hv]
    · obtain ⟨q, hq, hlt⟩ := ok.T.upS h0 hp'
      have hq' : s.par.getD p none = some q := hq
      have hq2 : q < (f.set p w).length := by simp; omega
      simp! [show ((0 : Int) < (p : Int)) by omega, at_O hp', hq', at_I hq2, at_I h3, set_I hq2]
      refine ⟨some ⟨false, .int p⟩, ?_, by rw [passStep_len]; exact hI⟩
      unfold passStep upTo
      rw [hq, hv]
      dsimp only
      rw [gI_set h1 (q := p), if_pos rfl]
  · intro v' _
    simp! []
    exact is_rfl
/-! ### capacity -/
theorem check_list_eq (s : Su) (xs : List Nat) (hl : xs.length = s.par.length) : PH lt (n + 2) 64 [suD s, .lst (xs.map nD)] = .ok false .non [] := by
  refine PH_eq F64 rfl rfl ?_
  dsimp! [F64]
  simp! [r4, size_eq, hl, beq_self_eq_true]
  refine post_look (fun (j : Option FB.Slot × Option FB.Slot) => [some ⟨false, suD s⟩, some ⟨false, .lst (xs.map nD)⟩, j.1, j.2]) (none, none) rfl ?_ ?_
  · rintro ⟨x, i⟩ hx j
    simp! [r0, is_int_int, show ¬ ((x : Int) < 0) by omega]
    exact ⟨(_, _), rfl⟩
  · intro j
    simp! []
    exact is_rfl
def roomX (s : Su) (ex : List Nat) (p : Nat) : Int := ((s.cap.getD p 0 : Nat) : Int) + ((ex.getD p 0 : Nat) : Int)
theorem passing_eq {s : Su} (ok : s.Ok) {ex : List Nat} (he : ex.length = s.par.length) : PH lt (n + 2) 65 [suD s, .lst (ex.map nD)] = .ok true (.lst ((passAll s.par (roomX s ex) (counts s.par.length s.hom)).map .int)) [] := by
  have sm := ok.small
  refine PH_eq F65 rfl rfl ?_
  dsimp! [F65]
  simp! [r4, size_eq, rep0 (show s.par.length ≤ 1000 by omega)]
  refine post_fold (fun f (v : Option FB.Slot) => [some ⟨false, suD s⟩, some ⟨false, .lst (ex.map nD)⟩, some ⟨true, .lst (f.map .int)⟩, v, none])
    addAt (fun f => f.length = s.par.length) (List.replicate s.par.length 0) none rfl (by simp) ?_ ?_
  · intro h hm f v hI
    have h2 : h < f.length := by rw [hI]; exact ok.hom h hm
    simp! [at_I h2, set_I h2]
    exact ⟨_, rfl, by rw [addAt_len]; exact hI⟩
  intro v hI
  rw [show List.foldl addAt (List.replicate s.par.length 0) s.hom = counts s.par.length s.hom from rfl]
  simp! [r4, size_eq, neg1, rngC_ok (show s.par.length ≤ 1000 by omega)]
  refine post_fold (fun f (v' : Option FB.Slot) => [some ⟨false, suD s⟩, some ⟨false, .lst (ex.map nD)⟩, some ⟨true, .lst (f.map .int)⟩, v, v'])
    (passStep s.par (roomX s ex)) (fun f => f.length = s.par.length) (counts s.par.length s.hom) none rfl (counts_len _ _) ?_ ?_
  · intro p hpm f v' hI
    have hp' : p < s.par.length := by simpa using hpm
    have h1 : p < f.length := by omega
    have h2 : p < s.cap.length := by rw [ok.cap]; exact hp'
    have h2' : p < ex.length := by omega
    simp! [at_I h1, at_N h2, at_N h2', set_I h1]
    generalize hv : max 0 (gI f p - ((s.cap.getD p 0 : Nat) : Int) - ((ex.getD p 0 : Nat) : Int)) = w
    have hv' : max 0 (gI f p - roomX s ex p) = w := by rw [← hv]; unfold roomX; congr 1; omega
    have h3 : p < (f.set p w).length := by simpa using h1
    rcases Nat.eq_zero_or_pos p with h0 | h0
    · subst h0
      simp! [show ¬ ((0 : Int) < ((0 : Nat) : Int)) by omega]
      refine ⟨some ⟨false, .int (0 : Nat)⟩, ?_, by rw [passStep_len]; exact hI⟩
      unfold passStep upTo
      rw [ok.T.up0, hv']
    · obtain ⟨q, hq, hlt⟩ := ok.T.upS h0 hp'
      have hq' : s.par.getD p none = some q := hq
      have hq2 : q < (f.set p w).length := by simp; omega
      simp! [show ((0 : Int) < (p : Int)) by omega, at_O hp', hq', at_I hq2, at_I h3, set_I hq2]
      refine ⟨some ⟨false, .int p⟩, ?_, by rw [passStep_len]; exact hI⟩
      unfold passStep upTo
      rw [hq, hv']
      dsimp only
      rw [gI_set h1 (q := p), if_pos rfl]
  · intro v' _
    simp! []
    exact is_rfl
theorem refused_with_eq {s : Su} (ok : s.Ok) {ex : List Nat} (he : ex.length = s.par.length) : PH lt (n + 3) 66 [suD s, .lst (ex.map nD)] = .ok false (.int (gI (passAll s.par (roomX s ex) (counts s.par.length s.hom)) 0)) [] := by
  have h0 : 0 < (passAll s.par (roomX s ex) (counts s.par.length s.hom)).length := by rw [(pass_flow ok.T (counts_len _ _)).1]; exact ok.T.pos
  refine PH_eq F66 rfl rfl ?_
  dsimp! [F66]
  have := at_I h0
  simp! [r64, check_list_eq s ex he, r65, passing_eq ok he, show FB.atI (List.map D.int (passAll s.par (roomX s ex) (counts s.par.length s.hom))) 0 = _ from at_I h0]
  exact is_rfl
theorem cut_take {α : Type} (xs : List α) (k : Nat) : cutD xs none (some (k : Int)) = xs.take k := by
  unfold cutD sIx
  dsimp only
  rw [if_neg (by omega), Int.toNat_natCast, Nat.sub_zero, List.drop_zero]
  rcases Nat.le_total k xs.length with h | h
  · rw [Nat.min_eq_left h]
  · rw [Nat.min_eq_right h, List.take_of_length_le (Nat.le_refl _), List.take_of_length_le h]
theorem cut_drop {α : Type} (xs : List α) (k : Nat) : cutD xs (some (k : Int)) none = xs.drop k := by
  unfold cutD sIx
  dsimp only
  rw [if_neg (by omega), Int.toNat_natCast]
  rcases Nat.le_total k xs.length with h | h
  · rw [Nat.min_eq_left h, List.take_of_length_le (by simp)]
  · rw [Nat.min_eq_right h, Nat.sub_self, List.take_zero, List.drop_eq_nil_of_le h]
theorem set_cut {α : Type} {l : List α} {r : Nat} {x : α} (h : r < l.length) : l.take r ++ [x] ++ l.drop (r + 1) = l.set r x := by
  rw [List.set_eq_take_append_cons_drop, if_pos h, List.append_assoc]; rfl
theorem at_last {α : Type} {e : α → D} {l : List α} {x : α} : FB.atI ((l ++ [x]).map e) (-1) = some (e x) := by
  unfold FB.atI FB.ixN
  rw [if_neg (by omega), List.length_map, List.length_append, if_pos (by simp; omega)]
  rw [show ((-1 : Int) + ((l.length + [x].length : Nat) : Int)).toNat = l.length by simp; omega]
  simp
end
end FB

set_option Elab.async false
set_option linter.all false
set_option maxRecDepth 100000
set_option maxHeartbeats 400000
namespace FB
local macro_rules | `(tactic| simp! [$ts,*]) => `(tactic| simp -implicitDefEqProofs -dsimp only [th, ks, kn, Ka0, Ka1, Kb0, Kb1, Kb2, Kb3, Kb4, Kb5, Kb6, Kb7, Kb8, Kb9, Kb10, Kb11, Kc0, Kc1, Kc2, Kc3, Kc4, Kc5, Kc6, Kc7, Kc8, Kc9, Ke0, e1, e2, Ke3, Ke4, e4', Ke5, Ke6, Ke7, Ke8, Ke9, Ke10, Ke11, Ke12, Ke13, Ke14, Ke15, Ke16, Ke17, Ke17b, Ke18, Ke19, Ke20, Ke21, Ke22, Ke23, Ke24, Ke25, t0, Kt1, Kt2, t3, l0, Kl1, l2, Kl3, l4, Kl5, Kl5a, Kl5b, Kl6, o0, Ko1, o2, Ki0, Ki1, i1', Ki2, Ki3, Ki4, Ki5, s0, Ks1, Ks2, Ks3, s3', Ks4, Ks5, Ks6, Ks7, Ks8, Ks8', Ks9, Ks10, Ks11, s12, Ks13, Ks14, s15, s16, s17, s18, Kf0, Kf1, f3, nd0, nd1, body_name, Kbody_tup, setTg_name, setTg_2, setTg_3, mk0, mk1, w0, w1, k0, k1, p0, p1, p2, p3, p4, n0, n1, n2, q0, q1, q2, q3, q4, pt0, pc0, d0, d1, d2, d4, d5, d7, d8, d9, d10, d11, d12, d13, d14, d15, x0, x1, range_0, rangeC_down, enum_map, zip_map, g0, g1, h0, h1, h2, h3, h4, h5, h6, h7, h8, h9, u0, u1, u2, u3, u4, u5, u6, u7, u8, u9, u10, u11, Kct0, Kct1, mo0, mo1, mo2, mo3, mo4, Kmo5, Kmo6, Kmo7, Kmo8, mo9, Kv0, Kv1, Kv2, Kv3, Kv4, Kv5, va0, va1, va2, rd0, rd1, rd2, sl0, sl1, ow0, ow1, fz0, fz1, fz2, fz3, fz4, re0, re1, re2, re3, re4, st0, st1, st2, pv0, pv1, il0, it0, it1, po0, po1, po2, po3, so0, so1, so2, so3, ou0, ou1, ou2, is0, is1, is2, is3, is4, is6, is7, AV.d, List.getElem?_cons_zero, List.getElem?_cons_succ, List.set_cons_zero, List.set_cons_succ, List.map_cons, List.map_nil, List.mapM_cons, List.mapM_nil, Option.pure_def, Option.bind_eq_bind, Option.bind_some, Option.map_some, Option.map_none, Option.getD_some, Option.getD_none, List.length_cons, List.length_nil, List.length_map, List.replicate, Bool.false_eq_true, Bool.true_and, Bool.and_true, Bool.false_and, Bool.and_false, Bool.not_true, Bool.not_false, Bool.and_self, if_false, if_true, decide_true, decide_false, $ts,*])
local macro_rules | `(tactic| dsimp! [$ts,*]) => `(tactic| simp -implicitDefEqProofs -dsimp only [$ts,*, List.length_cons, List.length_nil, Nat.reduceAdd, Nat.reduceSub, List.replicate, List.cons_append, List.nil_append, List.append_nil])
open PySem
/-! ### defs that several laws share -/
def wD (w : Int × Int × Int) : D := .lst [.int w.1, .int w.2.1, .int w.2.2]
section
variable {lt : List FDef} {n t : Nat}
theorem raws_of {F : FDef} {raw : List Bool} (h : tabG lt t = some F) (hr : F.raw = raw) : (cfgG lt).raws t = some raw := by
  show (tabG lt t).map (·.raw) = _
  rw [h]; exact congrArg some hr
theorem l3at0 {a b c : D} : FB.atI [a, b, c] 0 = some a := rfl
theorem l3at1 {a b c : D} : FB.atI [a, b, c] 1 = some b := rfl
theorem l3at2 {a b c : D} : FB.atI [a, b, c] 2 = some c := rfl
theorem l3set0 {a b c d : D} : setIdx (.lst [a, b, c]) (.int 0) d = some (.lst [d, b, c]) := rfl
theorem l3set2 {a b c d : D} : setIdx (.lst [a, b, c]) (.int 2) d = some (.lst [a, b, d]) := rfl
theorem at_list0 {x : D} {xs : List D} : FB.atI (x :: xs) 0 = some x := by rw [show (0 : Int) = ((0 : Nat) : Int) from rfl, atI_nat]; rfl
theorem at_list {xs : List D} {p : Nat} (h : p < xs.length) : FB.atI xs (p : Int) = some (xs.getD p .non) := by
  rw [atI_nat, List.getD_eq_getElem?_getD, List.getElem?_eq_getElem h]; rfl
def cWell : FDef := ⟨[false, false], 2, (.cons (.ret (.lstD (.cons (.bin .Mult (.var 0) (.blt .int (.cons (.cmp .GtE (.var 0) (.bin .Pow (.lit (.int 10)) (.lit (.int 18)))) .nil))) (.cons (.bin .Add (.bin .Mod (.var 0) (.lit (.int 2147483563))) (.bin .Mult (.lit (.int 70001)) (.var 1))) (.cons (.lit (.int 0)) .nil))))) .nil)⟩
theorem pow18 : binop .Pow (.int 10) (.int 18) = some (false, .int 1000000000000000000) := rfl
theorem cWell_eq (ht : tabG lt t = some cWell) (a b : Int) : ∃ w, PH lt (n + 1) t [.int a, .int b] = .ok true (wD w) [] := by
  refine ⟨(a * (if decide (1000000000000000000 ≤ a) = true then 1 else 0), a % 2147483563 + 70001 * b, 0), ?_⟩
  refine PH_eq cWell ht rfl ?_
  dsimp! [cWell]
  simp! [pow18, g4 (i := a) (j := if decide (1000000000000000000 ≤ a) = true then 1 else 0) (Or.inr (by split <;> omega)), g6 (i := a) (j := 2147483563) (by omega), g4 (i := 70001) (j := b) (Or.inl (by omega))]
  exact is_rfl
def cTake : FDef := ⟨[true, false], 4, (.cons (.ife (.cmp .Gt (.idx (.var 0) (.lit (.int 0))) (.lit (.int 0))) (.cons (.asg false 2 (.bin .Mod (.idx (.var 0) (.lit (.int 0))) (.var 1))) (.cons (.setI 0 (.lit (.int 0)) (.bin .FloorDiv (.idx (.var 0) (.lit (.int 0))) (.var 1))) (.cons (.ret (.var 2)) .nil))) .nil) (.cons (.setI 0 (.lit (.int 2)) (.bin .Add (.idx (.var 0) (.lit (.int 2))) (.lit (.int 1)))) (.cons (.asg false 3 (.bin .Mod (.bin .Mult (.bin .Add (.bin .Add (.idx (.var 0) (.lit (.int 1))) (.bin .Mult (.lit (.int 67867967)) (.idx (.var 0) (.lit (.int 2))))) (.lit (.int 17))) (.lit (.int 48271))) (.lit (.int 2147483563)))) (.cons (.asg false 3 (.bin .Mod (.bin .Mult (.var 3) (.bin .Add (.bin .FloorDiv (.var 3) (.lit (.int 1033))) (.lit (.int 69697)))) (.lit (.int 2147483587)))) (.cons (.ret (.bin .Mod (.bin .FloorDiv (.bin .Mod (.bin .Mult (.var 3) (.bin .Add (.bin .FloorDiv (.var 3) (.lit (.int 2029))) (.lit (.int 40759)))) (.lit (.int 2147483629))) (.lit (.int 7))) (.var 1))) .nil)))))⟩
theorem cTake_eq (ht : tabG lt t = some cTake) (w : Int × Int × Int) {b : Nat} (hb : 0 < b) (hb2 : b < 1000000) : ∃ (k : Nat) (w' : Int × Int × Int), k < b ∧ PH lt (n + 1) t [wD w, .int b] = .ok false (.int k) [wD w'] := by
  obtain ⟨x, y, z⟩ := w
  have hB : (0 : Int) < b := by omega
  have toN : ∀ i : Int, ∃ k : Nat, k < b ∧ i % (b : Int) = (k : Int) := fun i => ⟨(i % (b : Int)).toNat, by have := Int.emod_nonneg i (show (b : Int) ≠ 0 by omega); have := Int.emod_lt_of_pos i hB; omega, by have := Int.emod_nonneg i (show (b : Int) ≠ 0 by omega); omega⟩
  by_cases h : 0 < x
  · obtain ⟨k, hk, ek⟩ := toN x
    refine ⟨k, (x / b, y, z), hk, ?_⟩
    refine PH_eq cTake ht rfl ?_
    dsimp! [cTake, wD]
    simp! [l3at0, h, g6 (i := x) hB, g5 (i := x) hB (show (b : Int) < 1073741824 by omega), l3set0, ek]
    exact is_rfl
  · have m1 := fun i : Int => Int.emod_nonneg i (show (2147483563 : Int) ≠ 0 by omega)
    have m2 := fun i : Int => Int.emod_lt_of_pos i (show (0 : Int) < 2147483563 by omega)
    have m3 := fun i : Int => Int.emod_nonneg i (show (2147483587 : Int) ≠ 0 by omega)
    have m4 := fun i : Int => Int.emod_lt_of_pos i (show (0 : Int) < 2147483587 by omega)
    obtain ⟨v1, ev1⟩ : ∃ v1, (y + 67867967 * (z + 1) + 17) * 48271 % 2147483563 = v1 := ⟨_, rfl⟩
    have b1 : 0 ≤ v1 ∧ v1 < 2147483563 := by rw [← ev1]; exact ⟨m1 _, m2 _⟩
    obtain ⟨v2, ev2⟩ : ∃ v2, v1 * (v1 / 1033 + 69697) % 2147483587 = v2 := ⟨_, rfl⟩
    have b2 : 0 ≤ v2 ∧ v2 < 2147483587 := by rw [← ev2]; exact ⟨m3 _, m4 _⟩
    obtain ⟨k, hk, ek⟩ := toN (v2 * (v2 / 2029 + 40759) % 2147483629 / 7)
    refine ⟨k, (x, y, z + 1), hk, ?_⟩
    refine PH_eq cTake ht rfl ?_
    dsimp! [cTake, wD]
    simp! [l3at0, l3at1, l3at2, l3set2, h, g4 (i := 67867967) (j := z + 1) (Or.inl (by omega)), g4 (i := y + 67867967 * (z + 1) + 17) (j := 48271) (Or.inr (by omega)), g6 (i := (y + 67867967 * (z + 1) + 17) * 48271) (j := 2147483563) (by omega), ev1,
      g5 (i := v1) (j := 1033) (by omega) (by omega), g4 (i := v1) (j := v1 / 1033 + 69697) (Or.inl (by omega)), g6 (i := v1 * (v1 / 1033 + 69697)) (j := 2147483587) (by omega), ev2,
      g5 (i := v2) (j := 2029) (by omega) (by omega), g4 (i := v2) (j := v2 / 2029 + 40759) (Or.inl (by omega)), g6 (i := v2 * (v2 / 2029 + 40759)) (j := 2147483629) (by omega), g5 (i := v2 * (v2 / 2029 + 40759) % 2147483629) (j := 7) (by omega) (by omega), g6 (i := v2 * (v2 / 2029 + 40759) % 2147483629 / 7) hB, ek]
    exact is_rfl
/-- which draws a table gives -/
def TakeOk (lt : List FDef) (t : Nat) (raw : List Bool) : Prop := (cfgG lt).raws t = some raw ∧ ∀ (n : Nat) (w : Int × Int × Int) (b : Nat), 0 < b → b < 1000000 → ∃ (k : Nat) (w' : Int × Int × Int), k < b ∧ PH lt (n + 1) t [wD w, .int b] = .ok false (.int k) [wD w']
theorem cTake_ok (ht : tabG lt t = some cTake) : TakeOk lt t [true, false] := ⟨raws_of ht rfl, fun n w b h1 h2 => cTake_eq ht w h1 h2⟩
theorem eq_nil (l : List Nat) : cmpop .Eq (.lst (l.map nD)) (.lst []) = some l.isEmpty := by
  unfold cmpop D.pyEq
  dsimp only
  have h1 : D.lay 9 (.lst (l.map nD)) = true := by unfold D.lay; exact lays_nat l
  rw [h1]
  cases l <;> rfl
theorem ne_nil (l : List Nat) : cmpop .NotEq (.lst (l.map nD)) (.lst []) = some (!l.isEmpty) := by
  have := eq_nil l
  unfold cmpop at this ⊢
  dsimp only at this ⊢
  rw [this]; rfl
def cMixed (t : Nat) : FDef := ⟨[true, false], 4, (.cons (.asg true 2 (.blt .list (.cons (.var 1) .nil))) (.cons (.asg true 3 (.lstD .nil)) (.cons (.whl (.cmp .NotEq (.var 2) (.lstD .nil)) (.cons (.expr (.mth .append (.var 3) (.cons (.mth .pop1 (.var 2) (.cons (.call t false (.cons (.var 0) (.cons (.blt .len (.cons (.var 2) .nil)) .nil))) .nil)) .nil))) .nil)) (.cons (.ret (.var 3)) .nil))))⟩
theorem pop_at {l : List Nat} {k : Nat} (h : k < l.length) : mthD .pop1 (l.map nD) [.int (k : Int)] = some (.int ((l.getD k 0 : Nat) : Int), (l.eraseIdx k).map nD) := by
  unfold mthD
  dsimp only
  rw [List.length_map, ixN_nat h]
  dsimp only
  rw [List.getElem?_map, List.getD_eq_getElem?_getD, List.getElem?_eq_getElem h]
  dsimp only [Option.map_some]
  have e : ∀ (l : List Nat) k, (l.map nD).eraseIdx k = (l.eraseIdx k).map nD := by
    intro l
    induction l with
    | nil => intro k; rfl
    | cons a l ih => intro k; cases k with
      | zero => rfl
      | succ k => show nD a :: _ = nD a :: _; rw [ih]
  rw [e]; rfl
theorem app_nat {l : List Nat} {k : Nat} (h : l.length < 16777216) : mthD .append (l.map nD) [.int (k : Int)] = some (.non, (l ++ [k]).map nD) := by
  rw [y1 (by rw [List.length_map]; exact h), List.map_append]; rfl
theorem erase_perm : ∀ {l : List Nat} {k : Nat}, k < l.length → (l.getD k 0 :: l.eraseIdx k).Perm l
  | a :: l, 0, _ => List.Perm.refl _
  | a :: l, k + 1, h => by
    have ih := erase_perm (l := l) (k := k) (by simpa using h)
    exact (List.Perm.swap a (l.getD k 0) (l.eraseIdx k)).trans (ih.cons a)
theorem cMixed_eq {m : Nat} (htk : TakeOk lt t [true, false]) (ht : tabG lt m = some (cMixed t)) (w : Int × Int × Int) (xs : List Nat) (hx : xs.length ≤ 1000) : ∃ (ys : List Nat) (w' : Int × Int × Int), ys.Perm xs ∧ PH lt (n + 2) m [wD w, .lst (xs.map nD)] = .ok true (.lst (ys.map nD)) [wD w'] := by
  refine PH_run (P := fun r => ∃ (ys : List Nat) (w' : Int × Int × Int), ys.Perm xs ∧ Is (.ok true (.lst (ys.map nD)) [wD w']) r) (cMixed t) ht rfl ?_
  dsimp! [cMixed]
  simp! []
  refine post_whl (fun m ρ => ∃ (w : Int × Int × Int) (l f : List Nat), l.length = m ∧ (f ++ l).Perm xs ∧ ρ = [some ⟨true, wD w⟩, some ⟨false, .lst (xs.map nD)⟩, some ⟨true, .lst (l.map nD)⟩, some ⟨true, .lst (f.map nD)⟩]) xs.length (by show xs.length < 1000000; omega) ⟨w, xs, [], rfl, List.Perm.refl _, rfl⟩ ?_
  rintro m ρ ⟨w, l, f, hl, hp, rfl⟩
  have hlen := hp.length_eq
  rw [List.length_append] at hlen
  cases l with
  | nil =>
    simp! [ne_nil]
    simp! [show (D.lst [] = D.lst (([] : List Nat).map nD)) from rfl, ne_nil]
    refine ⟨(fun h => nomatch h), fun _ => ?_⟩
    exact ⟨f, w, by simpa using hp, is_rfl⟩
  | cons a l =>
    obtain ⟨k, w', hk, e⟩ := htk.2 n w (a :: l).length (by simp) (by simp at hlen ⊢; omega)
    generalize hL : a :: l = L at *
    have hne : L.isEmpty = false := by rw [← hL]; rfl
    simp! [ne_nil, hne]
    refine ⟨fun _ => ?_, (fun h => nomatch h)⟩
    simp! [htk.1, e, pop_at hk, app_nat (l := f) (k := L.getD k 0) (by omega)]
    have hp2 : (f ++ [L.getD k 0] ++ L.eraseIdx k).Perm (f ++ L) := by
      rw [List.append_assoc]
      exact (erase_perm hk).append_left f
    exact ⟨(L.eraseIdx k).length, by rw [List.length_eraseIdx_of_lt hk]; omega, w', L.eraseIdx k, f ++ [L.getD k 0], rfl, hp2.trans hp, rfl⟩
def cSetup (t : Nat) : FDef := ⟨[true, false, false, false], 12, (.cons (.asg false 4 (.bin .Add (.lit (.int 1)) (.call t false (.cons (.var 0) (.cons (.var 1) .nil))))) (.cons (.asg false 5 (.call t false (.cons (.var 0) (.cons (.lit (.int 3)) .nil)))) (.cons (.asg true 6 (.lstD (.cons (.lit .non) .nil))) (.cons (.for (.name 7) (.rng2 (.lit (.int 1)) (.var 4)) (.cons (.expr (.mth .append (.var 6) (.cons (.idx (.lstD (.cons (.bin .Sub (.var 7) (.lit (.int 1))) (.cons (.lit (.int 0)) (.cons (.call t false (.cons (.var 0) (.cons (.var 7) .nil))) .nil)))) (.var 5)) .nil))) .nil)) (.cons (.asg false 8 (.comp (.call t false (.cons (.var 0) (.cons (.bin .Add (.var 3) (.lit (.int 1))) .nil))) [7] (.name 7) (.rng1 (.var 4)) .nil)) (.cons (.asg false 9 (.call t false (.cons (.var 0) (.cons (.var 4) .nil)))) (.cons (.asg true 10 (.lstD .nil)) (.cons (.for (.name 11) (.rng1 (.call t false (.cons (.var 0) (.cons (.bin .Add (.var 2) (.lit (.int 1))) .nil)))) (.cons (.expr (.mth .append (.var 10) (.cons (.idx (.lstD (.cons (.var 9) (.cons (.bin .Sub (.var 4) (.lit (.int 1))) (.cons (.call t false (.cons (.var 0) (.cons (.var 4) .nil))) .nil)))) (.call t false (.cons (.var 0) (.cons (.lit (.int 3)) .nil)))) .nil))) .nil)) (.cons (.ret (.tupD (.cons (.var 6) (.cons (.var 8) (.cons (.var 10) .nil))))) .nil)))))))))⟩
/-- a drawn setup -/
structure Drawn (s : Su) (pools requests high : Nat) : Prop where
  T : Tree s.par
  pools : s.par.length ≤ pools
  cap : s.cap.length = s.par.length
  caps : ∀ c ∈ s.cap, c ≤ high
  homs : s.hom.length ≤ requests
  hom : ∀ h ∈ s.hom, h < s.par.length
theorem Drawn.ok {s : Su} {pools requests high : Nat} (h : Drawn s pools requests high) (h1 : pools ≤ 60) (h2 : requests ≤ 60) (h3 : high ≤ 60) : s.Ok :=
  ⟨h.T, Nat.le_trans h.pools h1, h.cap, fun c hc => Nat.le_trans (h.caps c hc) h3, Nat.le_trans h.homs h2, h.hom⟩
def setupD (s : Su) : D := .tup [.lst (s.par.map oD), .lst (s.cap.map nD), .lst (s.hom.map nD)]
theorem sd0 (s : Su) : idxD (setupD s) (.int 0) = some (.lst (s.par.map oD)) := rfl
theorem sd1 (s : Su) : idxD (setupD s) (.int 1) = some (.lst (s.cap.map nD)) := rfl
theorem sd2 (s : Su) : idxD (setupD s) (.int 2) = some (.lst (s.hom.map nD)) := rfl
/-- a list of parents, a pool more -/
theorem tree_one : Tree [none] := ⟨by simp, rfl, fun p h hp => by simp at hp; omega⟩
theorem Tree.snoc {par : Par} (T : Tree par) {q : Nat} (hq : q < par.length) : Tree (par ++ [some q]) := by
  refine ⟨by simp, ?_, fun p h hp => ?_⟩
  · have := T.pos
    rw [List.getElem?_append_left this]; exact T.root
  · rw [List.length_append] at hp
    rcases Nat.lt_or_ge p par.length with h1 | h1
    · obtain ⟨r, h2, h3⟩ := T.ups p h h1
      exact ⟨r, by rw [List.getElem?_append_left h1]; exact h2, h3⟩
    · obtain rfl : p = par.length := by simp at hp; omega
      exact ⟨q, by simp, hq⟩
theorem rngV_1 {ρ : Env} {m : Nat} (h : m ≤ 1000000) : rngV 1 (m : Int) ρ = .ok ((List.range' 1 (m - 1)).map nD) ρ := by
  unfold rngV
  rw [small_ok (by omega) (by omega), small_ok (by omega) (by omega)]
  rw [show ((m : Int) - 1).toNat = m - 1 by omega, show ((1 : Int)) = ((1 : Nat) : Int) from rfl, range_nD]
  rfl
theorem range'_split {a m : Nat} {pre post : List Nat} {x : Nat} (e : List.range' a m = pre ++ x :: post) : x = a + pre.length := by
  have h : (List.range' a m)[pre.length]? = some x := by rw [e]; simp
  rw [List.getElem?_range'] at h
  · injection h with h; omega
  · have := congrArg List.length e
    simp at this; omega
theorem cSetup_eq {m : Nat} (htk : TakeOk lt t [true, false]) (ht : tabG lt m = some (cSetup t)) (w : Int × Int × Int) {pools requests high : Nat} (h1 : 0 < pools) (h1' : pools ≤ 1000) (h2 : requests ≤ 1000) (h3 : high ≤ 1000) :
    ∃ (s : Su) (w' : Int × Int × Int), Drawn s pools requests high ∧ PH lt (n + 2) m [wD w, .int pools, .int requests, .int high] = .ok false (setupD s) [wD w'] := by
  refine PH_run (P := fun r => ∃ (s : Su) (w' : Int × Int × Int), Drawn s pools requests high ∧ Is (.ok false (setupD s) [wD w']) r) (cSetup t) ht rfl ?_
  dsimp! [cSetup]
  obtain ⟨k, w1, hk, e1⟩ := htk.2 n w pools h1 (by omega)
  obtain ⟨kind, w2, hkind, e2⟩ := htk.2 n w1 3 (by omega) (by omega)
  simp! [htk.1, e1, e2, show ((3 : Int)) = ((3 : Nat) : Int) from rfl, show (1 : Int) + (k : Int) = ((k + 1 : Nat) : Int) by omega, rngV_1 (show k + 1 ≤ 1000000 by omega)]
  refine post_for (fun pre ρ => ∃ (par : Par) (w : Int × Int × Int) (v : Option FB.Slot), Tree par ∧ par.length = pre.length + 1 ∧ ρ = [some ⟨true, wD w⟩, some ⟨false, .int pools⟩, some ⟨false, .int requests⟩, some ⟨false, .int high⟩, some ⟨false, .int (k + 1 : Nat)⟩, some ⟨false, .int kind⟩, some ⟨true, .lst (par.map oD)⟩, v, none, none, none, none])
    ⟨[none], w2, none, tree_one, rfl, rfl⟩ ?_ ?_
  · rintro pre x post e ρ ⟨par, w, v, T, hl, rfl⟩
    have hx := range'_split e
    have hpl := congrArg List.length e
    simp at hpl
    obtain ⟨q, w', hq, e3⟩ := htk.2 n w x (by omega) (by omega)
    have key : ∃ r : Nat, r < par.length ∧ FB.atI [D.int ((x : Int) - 1), .int 0, .int q] (kind : Int) = some (.int r) := by
      rcases (show kind = 0 ∨ kind = 1 ∨ kind = 2 by omega) with h | h | h <;> subst h
      · exact ⟨x - 1, by omega, by rw [show ((x : Int) - 1) = ((x - 1 : Nat) : Int) by omega]; rfl⟩
      · exact ⟨0, by omega, rfl⟩
      · exact ⟨q, by omega, rfl⟩
    obtain ⟨r, hr, er⟩ := key
    simp! [htk.1, e3, er, y1 (xs := par.map oD) (y := .int r) (by rw [List.length_map]; omega)]
    exact ⟨par ++ [some r], w', some ⟨false, .int x⟩, T.snoc hr, by simp; omega, by rw [List.map_append]; rfl⟩
  rintro ρ ⟨par, w3, v, T, hl, rfl⟩
  rw [List.length_range'] at hl
  simp! [rngV_ok (show k + 1 ≤ 1000000 by omega)]
  refine post_comp (fun pre ys ρ => ∃ (w : Int × Int × Int) (cs : List Nat), ys = cs.map nD ∧ cs.length = pre.length ∧ (∀ c ∈ cs, c ≤ high) ∧ ρ = [some ⟨true, wD w⟩, some ⟨false, .int pools⟩, some ⟨false, .int requests⟩, some ⟨false, .int high⟩, some ⟨false, .int (k + 1 : Nat)⟩, some ⟨false, .int kind⟩, some ⟨true, .lst (par.map oD)⟩, none, none, none, none, none])
    ⟨w3, [], rfl, rfl, (fun c h => nomatch h), rfl⟩ ?_ ?_
  · rintro pre x post e ys ρ ⟨w, cs, rfl, hcl, hcs, rfl⟩
    obtain ⟨c, w', hc, e3⟩ := htk.2 n w (high + 1) (by omega) (by omega)
    simp! [htk.1, show (high : Int) + 1 = ((high + 1 : Nat) : Int) by omega, e3]
    exact ⟨w', cs ++ [c], by rw [List.map_append]; rfl, by simp [hcl], mem_snoc hcs (by omega), rfl⟩
  rintro ys ρ ⟨w4, cs, rfl, hcl, hcs, rfl⟩
  rw [List.length_range] at hcl
  obtain ⟨low, w5, hlow, e5⟩ := htk.2 n w4 (k + 1) (by omega) (by omega)
  obtain ⟨many, w6, hmany, e6⟩ := htk.2 n w5 (requests + 1) (by omega) (by omega)
  simp! [compE_ok (show (cs.map nD).length ≤ SZ by rw [List.length_map]; show cs.length ≤ 16777216; omega), htk.1, e5, show (requests : Int) + 1 = ((requests + 1 : Nat) : Int) by omega, e6, rngV_ok (show many ≤ 1000000 by omega)]
  refine post_for (fun pre ρ => ∃ (w : Int × Int × Int) (hs : List Nat) (v' : Option FB.Slot), hs.length = pre.length ∧ (∀ h ∈ hs, h < k + 1) ∧ ρ = [some ⟨true, wD w⟩, some ⟨false, .int pools⟩, some ⟨false, .int requests⟩, some ⟨false, .int high⟩, some ⟨false, .int (k + 1 : Nat)⟩, some ⟨false, .int kind⟩, some ⟨true, .lst (par.map oD)⟩, v, some ⟨false, .lst (cs.map nD)⟩, some ⟨false, .int low⟩, some ⟨true, .lst (hs.map nD)⟩, v'])
    ⟨w6, [], none, rfl, (fun c h => nomatch h), rfl⟩ ?_ ?_
  · rintro pre x post e ρ ⟨w, hs, v', hhl, hhs, rfl⟩
    have hpl := congrArg List.length e
    simp at hpl
    obtain ⟨q, w', hq, e7⟩ := htk.2 n w (k + 1) (by omega) (by omega)
    obtain ⟨m3, w'', hm3, e8⟩ := htk.2 n w' 3 (by omega) (by omega)
    have key : ∃ r : Nat, r < k + 1 ∧ FB.atI [D.int low, .int (((k + 1 : Nat) : Int) - 1), .int q] (m3 : Int) = some (.int r) := by
      rcases (show m3 = 0 ∨ m3 = 1 ∨ m3 = 2 by omega) with h | h | h <;> subst h
      · exact ⟨low, hlow, rfl⟩
      · exact ⟨k, by omega, by rw [show (((k + 1 : Nat) : Int) - 1) = (k : Int) by omega]; rfl⟩
      · exact ⟨q, by omega, rfl⟩
    obtain ⟨r, hr, er⟩ := key
    simp! [htk.1, e7, show ((3 : Int)) = ((3 : Nat) : Int) from rfl, e8, er, app_nat (l := hs) (k := r) (by omega)]
    exact ⟨w'', hs ++ [r], some ⟨false, .int x⟩, by simp [hhl], mem_snoc hhs hr, rfl⟩
  rintro ρ ⟨w7, hs, v', hhl, hhs, rfl⟩
  rw [List.length_range] at hhl
  simp! []
  exact ⟨⟨par, cs, hs⟩, w7, ⟨T, by show par.length ≤ pools; omega, by show cs.length = par.length; omega, hcs, by show hs.length ≤ requests; omega, fun h hh => by show h < par.length; have := hhs h hh; omega⟩, is_rfl⟩

def cWay : FDef := ⟨[false, false], 3, (.cons (.asg true 2 (.lstD .nil)) (.cons (.whl (.cmp .IsNot (.var 1) (.lit .non)) (.cons (.expr (.mth .append (.var 2) (.cons (.var 1) .nil))) (.cons (.asg false 1 (.idx (.var 0) (.var 1))) .nil))) (.cons (.ret (.var 2)) .nil)))⟩
theorem cWay_eq (ht : tabG lt t = some cWay) {par : Par} (T : Tree par) {p : Nat} (hp : p < par.length) (sm : par.length ≤ 1000) : PH lt (n + 1) t [.lst (par.map oD), .int p] = .ok true (.lst ((way par p).map nD)) [] := by
  refine PH_eq cWay ht rfl ?_
  dsimp! [cWay]
  simp! []
  refine post_whl (fun m ρ => ∃ acc : List Nat, acc.length + m ≤ 1001 ∧ ρ = [some ⟨false, .lst (par.map oD)⟩, some ⟨false, oD (match m with | 0 => none | q + 1 => some q)⟩, some ⟨true, .lst (acc.map nD)⟩] ∧
      m ≤ par.length ∧ acc ++ (match m with | 0 => [] | q + 1 => way par q) = way par p) (p + 1) (by show p + 1 < 1000000; omega) ⟨[], by simp; omega, rfl, by omega, rfl⟩ ?_
  rintro m ρ ⟨acc, ha, rfl, hm, hw⟩
  cases m with
  | zero =>
    rw [show oD (match (0 : Nat) with | 0 => none | q + 1 => some q) = D.non from rfl]
    simp! [d3]
    refine ⟨(fun h => nomatch h), fun _ => ?_⟩
    rw [List.append_nil] at hw
    rw [hw]
    exact is_rfl
  | succ q =>
    have hq : q < par.length := by omega
    simp! []
    refine ⟨fun _ => ?_, (fun h => nomatch h)⟩
    simp! [app_nat (l := acc) (k := q) (by omega), at_O hq]
    cases hu : up par q with
    | none =>
      refine ⟨0, by omega, acc ++ [q], by simp; omega, ?_, by omega, ?_⟩
      · unfold up at hu; rw [hu]
      · rw [← hw]; dsimp only; rw [way_none hu, List.append_nil]
    | some r =>
      have hr := T.lt hu
      refine ⟨r + 1, by omega, acc ++ [q], by simp; omega, ?_, by omega, ?_⟩
      · unfold up at hu; rw [hu]
      · rw [← hw]; dsimp only; rw [T.way_up hu, List.append_assoc]; rfl
/-- one after the other: what is left, how many are refused -/
def refStep (par : Par) (st : List Int × Int) (h : Nat) : List Int × Int := match (way par h).find? (fun p => decide (0 < gI st.1 p)) with
  | some q => (st.1.set q (gI st.1 q - 1), st.2)
  | none => (st.1, st.2 + 1)
theorem refStep_len {par : Par} (st : List Int × Int) (h : Nat) : (refStep par st h).1.length = st.1.length := by unfold refStep; split <;> simp
theorem gI_dec {l : List Int} {p q : Nat} (h : p < l.length) : gI (l.set p (gI l p - 1)) q = gI l q - ind p q := by
  rw [gI_set h]
  unfold ind
  split
  · subst_vars; rfl
  · omega
theorem Sq.congr {par : Par} {room cnt cnt' left left' : Nat → Int} {ref ref' : Int} {f : Nat → Int} (S : Sq par room cnt left ref f) (h1 : ∀ p, cnt p = cnt' p) (h2 : ∀ p, p < par.length → left p = left' p) (h3 : ref = ref') : Sq par room cnt' left' ref' f := by
  have e : cnt = cnt' := funext h1
  subst e; subst h3
  exact ⟨S.flow, fun p hp => by rw [← h2 p hp]; exact S.left p hp, S.ref⟩
theorem refSeq_sq {par : Par} (T : Tree par) {room : Nat → Int} : ∀ (hs : List Nat) (st : List Int × Int) (cnt f : Nat → Int), st.1.length = par.length → (∀ h ∈ hs, h < par.length) → Sq par room cnt (gI st.1) st.2 f →
    ∃ f', Sq par room (fun p => cnt p + (hs.count p : Nat)) (gI (hs.foldl (refStep par) st).1) (hs.foldl (refStep par) st).2 f'
  | [], st, cnt, f, hl, hh, S => ⟨f, S.congr (fun p => by simp) (fun p _ => rfl) rfl⟩
  | h :: hs, st, cnt, f, hl, hh, S => by
    have h1 := hh h List.mem_cons_self
    have h2 := S.step T h1
    rw [List.foldl_cons]
    have key : ∃ f', Sq par room (fun p => cnt p + ind h p) (gI (refStep par st h).1) (refStep par st h).2 f' := by
      unfold refStep
      cases hf : (way par h).find? (fun p => decide (0 < gI st.1 p)) with
      | some q =>
        obtain ⟨f', S', _⟩ := h2.1 q hf
        have hq := T.way_mem (List.mem_of_find?_eq_some hf) h1
        exact ⟨f', S'.congr (fun p => rfl) (fun p hp => (gI_dec (by omega)).symm) rfl⟩
      | none =>
        obtain ⟨f', S', _⟩ := h2.2 hf
        exact ⟨f', S'⟩
    obtain ⟨f1, S1⟩ := key
    obtain ⟨f2, S2⟩ := refSeq_sq T hs _ _ f1 (by rw [refStep_len]; exact hl) (fun x hx => hh x (List.mem_cons_of_mem _ hx)) S1
    refine ⟨f2, S2.congr (fun p => ?_) (fun p _ => rfl) rfl⟩
    rw [List.count_cons]
    unfold ind
    by_cases e : p = h
    · subst e; simp; omega
    · simp [e, Ne.symm e]
def refSeq (par : Par) (room : List Int) (hs : List Nat) : Int := (hs.foldl (refStep par) (room, 0)).2
theorem refSeq_flow {par : Par} (T : Tree par) {room : List Int} (hl : room.length = par.length) (hr : ∀ p, p < par.length → 0 ≤ gI room p) {hs : List Nat} (hh : ∀ h ∈ hs, h < par.length) :
    ∃ f, IsFlow par (fun p => (hs.count p : Nat) - gI room p) f ∧ refSeq par room hs = f 0 := by
  obtain ⟨f, S⟩ := refSeq_sq T (room := gI room) hs (room, 0) (fun _ => 0) (fun _ => 0) hl hh (Sq.init hr)
  exact ⟨f, S.flow.congr (fun p _ => by omega) fun p _ => rfl, S.ref⟩
def cRefused (wy : Nat) : FDef := ⟨[false, false, false], 8, (.cons (.asg true 3 (.blt .list (.cons (.var 1) .nil))) (.cons (.asg false 4 (.lit (.int 0))) (.cons (.for (.name 5) (.val (.var 2)) (.cons (.asg false 6 (.comp (.var 7) [7] (.name 7) (.val (.call wy false (.cons (.var 0) (.cons (.var 5) .nil)))) (.cons (.cmp .Gt (.idx (.var 3) (.var 7)) (.lit (.int 0))) .nil))) (.cons (.ife (.cmp .Eq (.var 6) (.lstD .nil)) (.cons (.asg false 4 (.bin .Add (.var 4) (.lit (.int 1)))) .nil) (.cons (.setI 3 (.idx (.var 6) (.lit (.int 0))) (.bin .Sub (.idx (.var 3) (.idx (.var 6) (.lit (.int 0)))) (.lit (.int 1)))) .nil)) .nil))) (.cons (.ret (.var 4)) .nil))))⟩
theorem head_filter {l : List Nat} {b : Nat → Bool} : (l.filter b).head? = l.find? b := by
  induction l with
  | nil => rfl
  | cons a l ih =>
    rw [List.filter_cons, List.find?_cons]
    cases b a
    · exact ih
    · rfl
theorem cRefused_eq {wy : Nat} (hw : tabG lt wy = some cWay) (ht : tabG lt t = some (cRefused wy)) {par : Par} (T : Tree par) (sm : par.length ≤ 1000) {room hs : List Nat} (hl : room.length = par.length) (hh : ∀ h ∈ hs, h < par.length) :
    PH lt (n + 2) t [.lst (par.map oD), .lst (room.map nD), .lst (hs.map nD)] = .ok false (.int (refSeq par (room.map Int.ofNat) hs)) [] := by
  have rw0 : (cfgG lt).raws wy = some [false, false] := raws_of hw rfl
  refine PH_eq (cRefused wy) ht rfl ?_
  dsimp! [cRefused]
  simp! []
  have e0 : D.lst (room.map nD) = .lst ((room.map Int.ofNat).map .int) := by rw [nI_nD]
  refine post_fold (fun (st : List Int × Int) (j : Option FB.Slot × Option FB.Slot × Option FB.Slot) => [some ⟨false, .lst (par.map oD)⟩, some ⟨false, .lst (room.map nD)⟩, some ⟨false, .lst (hs.map nD)⟩, some ⟨true, .lst (st.1.map .int)⟩, some ⟨false, .int st.2⟩, j.1, j.2.1, j.2.2])
    (refStep par) (fun st => st.1.length = par.length) (room.map Int.ofNat, 0) (none, none, none) (by rw [← nI_nD]) (by simpa using hl) ?_ ?_
  · rintro h hm ⟨r, m⟩ ⟨j1, j2, j3⟩ hI
    have h1 := hh h hm
    dsimp only at hI
    simp! [rw0, cWay_eq hw T h1 sm]
    refine post_map (fun p => if decide (0 < gI r p) then some (.int (p : Int)) else none) ?_ ?_
    · intro p hp
      have hp2 : p < r.length := by rw [hI]; exact T.way_mem hp h1
      simp! [at_I hp2]
      by_cases hg : 0 < gI r p
      · simp! [hg]
      · simp! [hg]
    rw [filterMap_enc (e := fun p : Nat => D.int (p : Int)), show (fun p : Nat => D.int (p : Int)) = nD from rfl]
    have hfl : ((way par h).filter fun p => decide (0 < gI r p)).length ≤ SZ := by
      have := way_len par h
      have := List.length_filter_le (fun p => decide (0 < gI r p)) (way par h)
      show _ ≤ 16777216
      omega
    have hhd := head_filter (l := way par h) (b := fun p => decide (0 < gI r p))
    have hin : ∀ q ∈ (way par h).filter fun p => decide (0 < gI r p), q < r.length := fun q hq => by rw [hI]; exact T.way_mem ((List.mem_filter.mp hq).1) h1
    unfold refStep
    generalize (way par h).filter (fun p => decide (0 < gI r p)) = L at *
    dsimp only
    rw [← hhd]
    simp! [compE_ok (show (List.map nD L).length ≤ SZ by rw [List.length_map]; exact hfl), eq_nil]
    cases L with
    | nil =>
      simp! [List.isEmpty_nil, List.head?_nil]
      exact ⟨(_, _, _), rfl, hI⟩
    | cons q l =>
      have hq := hin q List.mem_cons_self
      simp! [List.isEmpty_cons, List.head?_cons, at_list0, at_I hq, set_I hq]
      exact ⟨(_, _, _), rfl, by simpa using hI⟩
  · rintro ⟨j1, j2, j3⟩ _
    simp! []
    exact is_rfl
def cRoom : FDef := ⟨[false, false], 4, (.cons (.ret (.comp (.bin .Add (.var 2) (.var 3)) [2, 3] (.tup [2, 3]) (.zip (.var 0) (.var 1)) .nil)) .nil)⟩
theorem cRoom_eq (ht : tabG lt t = some cRoom) {a b : List Nat} (ha : a.length ≤ 1000) : PH lt (n + 1) t [.lst (a.map nD), .lst (b.map nD)] = .ok true (.lst ((List.zipWith (· + ·) a b).map nD)) [] := by
  refine PH_eq cRoom ht rfl ?_
  dsimp! [cRoom]
  simp! []
  refine post_map (fun p : Nat × Nat => some (.int ((p.1 + p.2 : Nat) : Int))) ?_ ?_
  · rintro ⟨x, y⟩ _
    simp! [Int.natCast_add]
  rw [filterMap_some (e := fun p : Nat × Nat => D.int ((p.1 + p.2 : Nat) : Int))]
  have e : (a.zip b).map (fun p : Nat × Nat => D.int ((p.1 + p.2 : Nat) : Int)) = (List.zipWith (· + ·) a b).map nD := by
    rw [List.zip, List.map_zipWith, List.map_zipWith]; rfl
  rw [e]
  simp! [compE_ok (show (List.map nD (List.zipWith (· + ·) a b)).length ≤ SZ by rw [List.length_map, List.length_zipWith]; show _ ≤ 16777216; omega)]
  exact is_rfl
end
end FB

set_option Elab.async false
set_option linter.all false
set_option maxRecDepth 100000
set_option maxHeartbeats 400000
namespace FB
local macro_rules | `(tactic| simp! [$ts,*]) => `(tactic| simp -implicitDefEqProofs -dsimp only [th, ks, kn, Ka0, Ka1, Kb0, Kb1, Kb2, Kb3, Kb4, Kb5, Kb6, Kb7, Kb8, Kb9, Kb10, Kb11, Kc0, Kc1, Kc2, Kc3, Kc4, Kc5, Kc6, Kc7, Kc8, Kc9, Ke0, e1, e2, Ke3, Ke4, e4', Ke5, Ke6, Ke7, Ke8, Ke9, Ke10, Ke11, Ke12, Ke13, Ke14, Ke15, Ke16, Ke17, Ke17b, Ke18, Ke19, Ke20, Ke21, Ke22, Ke23, Ke24, Ke25, t0, Kt1, Kt2, t3, l0, Kl1, l2, Kl3, l4, Kl5, Kl5a, Kl5b, Kl6, o0, Ko1, o2, Ki0, Ki1, i1', Ki2, Ki3, Ki4, Ki5, s0, Ks1, Ks2, Ks3, s3', Ks4, Ks5, Ks6, Ks7, Ks8, Ks8', Ks9, Ks10, Ks11, s12, Ks13, Ks14, s15, s16, s17, s18, Kf0, Kf1, f3, nd0, nd1, body_name, Kbody_tup, setTg_name, setTg_2, setTg_3, mk0, mk1, w0, w1, k0, k1, p0, p1, p2, p3, p4, n0, n1, n2, q0, q1, q2, q3, q4, pt0, pc0, d0, d1, d2, d4, d5, d7, d8, d9, d10, d11, d12, d13, d14, d15, x0, x1, range_0, rangeC_down, enum_map, zip_map, g0, g1, h0, h1, h2, h3, h4, h5, h6, h7, h8, h9, u0, u1, u2, u3, u4, u5, u6, u7, u8, u9, u10, u11, Kct0, Kct1, mo0, mo1, mo2, mo3, mo4, Kmo5, Kmo6, Kmo7, Kmo8, mo9, Kv0, Kv1, Kv2, Kv3, Kv4, Kv5, va0, va1, va2, rd0, rd1, rd2, sl0, sl1, ow0, ow1, fz0, fz1, fz2, fz3, fz4, re0, re1, re2, re3, re4, st0, st1, st2, pv0, pv1, il0, it0, it1, po0, po1, po2, po3, so0, so1, so2, so3, ou0, ou1, ou2, is0, is1, is2, is3, is4, is6, is7, AV.d, List.getElem?_cons_zero, List.getElem?_cons_succ, List.set_cons_zero, List.set_cons_succ, List.map_cons, List.map_nil, List.mapM_cons, List.mapM_nil, Option.pure_def, Option.bind_eq_bind, Option.bind_some, Option.map_some, Option.map_none, Option.getD_some, Option.getD_none, List.length_cons, List.length_nil, List.length_map, List.replicate, Bool.false_eq_true, Bool.true_and, Bool.and_true, Bool.false_and, Bool.and_false, Bool.not_true, Bool.not_false, Bool.and_self, if_false, if_true, decide_true, decide_false, $ts,*])
local macro_rules | `(tactic| dsimp! [$ts,*]) => `(tactic| simp -implicitDefEqProofs -dsimp only [$ts,*, List.length_cons, List.length_nil, Nat.reduceAdd, Nat.reduceSub, List.replicate, List.cons_append, List.nil_append, List.append_nil])
open PySem
/-! ### family A: draws, setups, placements after steps -/
section
variable {lt : List FDef} {n t : Nat}
def aDraw : FDef := ⟨[true, false], 4, (.cons (.ife (.cmp .Gt (.idx (.var 0) (.lit (.int 0))) (.lit (.int 0))) (.cons (.asg false 2 (.bin .Mod (.idx (.var 0) (.lit (.int 0))) (.var 1))) (.cons (.setI 0 (.lit (.int 0)) (.bin .FloorDiv (.idx (.var 0) (.lit (.int 0))) (.var 1))) (.cons (.ret (.var 2)) .nil))) .nil) (.cons (.setI 0 (.lit (.int 2)) (.bin .Add (.idx (.var 0) (.lit (.int 2))) (.lit (.int 1)))) (.cons (.asg false 3 (.bin .Mod (.bin .Mult (.bin .Add (.bin .Add (.idx (.var 0) (.lit (.int 1))) (.bin .Mult (.lit (.int 104729)) (.idx (.var 0) (.lit (.int 2))))) (.lit (.int 1))) (.lit (.int 48271))) (.lit (.int 2147483647)))) (.cons (.asg false 3 (.bin .Mod (.bin .Mult (.var 3) (.bin .Add (.bin .FloorDiv (.var 3) (.lit (.int 1009))) (.lit (.int 69621)))) (.lit (.int 2147483647)))) (.cons (.ret (.bin .Mod (.bin .Mod (.bin .Mult (.var 3) (.bin .Add (.bin .FloorDiv (.var 3) (.lit (.int 2003))) (.lit (.int 40692)))) (.lit (.int 2147483399))) (.var 1))) .nil)))))⟩
theorem aDraw_eq (ht : tabG lt t = some aDraw) (w : Int × Int × Int) {b : Nat} (hb : 0 < b) (hb2 : b < 1000000) : ∃ (k : Nat) (w' : Int × Int × Int), k < b ∧ PH lt (n + 1) t [wD w, .int b] = .ok false (.int k) [wD w'] := by
  obtain ⟨x, y, z⟩ := w
  have hB : (0 : Int) < b := by omega
  have toN : ∀ i : Int, ∃ k : Nat, k < b ∧ i % (b : Int) = (k : Int) := fun i => ⟨(i % (b : Int)).toNat, by have := Int.emod_nonneg i (show (b : Int) ≠ 0 by omega); have := Int.emod_lt_of_pos i hB; omega, by have := Int.emod_nonneg i (show (b : Int) ≠ 0 by omega); omega⟩
  by_cases h : 0 < x
  · obtain ⟨k, hk, ek⟩ := toN x
    refine ⟨k, (x / b, y, z), hk, ?_⟩
    refine PH_eq aDraw ht rfl ?_
    dsimp! [aDraw, wD]
    simp! [l3at0, h, g6 (i := x) hB, g5 (i := x) hB (show (b : Int) < 1073741824 by omega), l3set0, ek]
    exact is_rfl
  · have m1 := fun i : Int => Int.emod_nonneg i (show (2147483647 : Int) ≠ 0 by omega)
    have m2 := fun i : Int => Int.emod_lt_of_pos i (show (0 : Int) < 2147483647 by omega)
    obtain ⟨v1, ev1⟩ : ∃ v1, (y + 104729 * (z + 1) + 1) * 48271 % 2147483647 = v1 := ⟨_, rfl⟩
    have b1 : 0 ≤ v1 ∧ v1 < 2147483647 := by rw [← ev1]; exact ⟨m1 _, m2 _⟩
    obtain ⟨v2, ev2⟩ : ∃ v2, v1 * (v1 / 1009 + 69621) % 2147483647 = v2 := ⟨_, rfl⟩
    have b2 : 0 ≤ v2 ∧ v2 < 2147483647 := by rw [← ev2]; exact ⟨m1 _, m2 _⟩
    obtain ⟨k, hk, ek⟩ := toN (v2 * (v2 / 2003 + 40692) % 2147483399)
    refine ⟨k, (x, y, z + 1), hk, ?_⟩
    refine PH_eq aDraw ht rfl ?_
    dsimp! [aDraw, wD]
    simp! [l3at0, l3at1, l3at2, l3set2, h, g4 (i := 104729) (j := z + 1) (Or.inl (by omega)), g4 (i := y + 104729 * (z + 1) + 1) (j := 48271) (Or.inr (by omega)), g6 (i := (y + 104729 * (z + 1) + 1) * 48271) (j := 2147483647) (by omega), ev1,
      g5 (i := v1) (j := 1009) (by omega) (by omega), g4 (i := v1) (j := v1 / 1009 + 69621) (Or.inl (by omega)), g6 (i := v1 * (v1 / 1009 + 69621)) (j := 2147483647) (by omega), ev2,
      g5 (i := v2) (j := 2003) (by omega) (by omega), g4 (i := v2) (j := v2 / 2003 + 40692) (Or.inl (by omega)), g6 (i := v2 * (v2 / 2003 + 40692)) (j := 2147483399) (by omega), g6 (i := v2 * (v2 / 2003 + 40692) % 2147483399) hB, ek]
    exact is_rfl
theorem aDraw_ok (ht : tabG lt t = some aDraw) : TakeOk lt t [true, false] := ⟨raws_of ht rfl, fun n w b h1 h2 => aDraw_eq ht w h1 h2⟩
/-! ### placements in plain lists -/
def aWay : FDef := ⟨[false, false], 3, (.cons (.asg true 2 (.lstD (.cons (.var 1) .nil))) (.cons (.whl (.cmp .IsNot (.idx (.var 0) (.idx (.var 2) (.neg (.lit (.int 1))))) (.lit .non)) (.cons (.expr (.mth .append (.var 2) (.cons (.idx (.var 0) (.idx (.var 2) (.neg (.lit (.int 1))))) .nil))) .nil)) (.cons (.ret (.var 2)) .nil)))⟩
theorem aWay_eq (ht : tabG lt t = some aWay) {par : Par} (T : Tree par) {p : Nat} (hp : p < par.length) (sm : par.length ≤ 1000) : PH lt (n + 1) t [.lst (par.map oD), .int p] = .ok true (.lst ((way par p).map nD)) [] := by
  refine PH_eq aWay ht rfl ?_
  dsimp! [aWay]
  simp! []
  refine post_whl (fun m ρ => ∃ acc : List Nat, acc.length + m ≤ 1001 ∧ ρ = [some ⟨false, .lst (par.map oD)⟩, some ⟨false, .int p⟩, some ⟨true, .lst ((acc ++ [m]).map nD)⟩] ∧
      m < par.length ∧ acc ++ way par m = way par p) p (by show p < 1000000; omega) ⟨[], by simp; omega, rfl, hp, rfl⟩ ?_
  rintro m ρ ⟨acc, ha, rfl, hm, hw⟩
  have hu' : par.getD m none = up par m := rfl
  simp! [at_last, at_O hm, hu', neg1]
  cases hu : up par m with
  | none =>
    simp! [d3]
    refine ⟨(fun h => nomatch h), fun _ => ?_⟩
    rw [way_none hu] at hw
    rw [hw]
    exact is_rfl
  | some r =>
    have hr := T.lt hu
    simp! []
    refine ⟨fun _ => ?_, (fun h => nomatch h)⟩
    simp! [at_last, at_O hm, hu', hu, neg1, app_nat (l := acc ++ [m]) (k := r) (by simp; omega)]
    refine ⟨r, hr.1, acc ++ [m], by simp; omega, rfl, by omega, ?_⟩
    rw [← hw, T.way_up hu, List.append_assoc]; rfl
/-- a request begins -/
def beg (s : Su) (pl : List (Option Nat)) (r : Nat) : List (Option Nat) := match (way s.par (s.hom.getD r 0)).find? (fun p => decide (pl.count (some p) < s.cap.getD p 0)) with
  | some q => pl.set r (some q)
  | none => pl
def tog (s : Su) (pl : List (Option Nat)) (r : Nat) : List (Option Nat) := match pl.getD r none with
  | none => beg s pl r
  | some _ => pl.set r none
/-- what a setup's lists need -/
structure Su.Good (s : Su) : Prop where
  T : Tree s.par
  cap : s.cap.length = s.par.length
  hom : ∀ h ∈ s.hom, h < s.par.length
theorem Su.Ok.good {s : Su} (ok : s.Ok) : s.Good := ⟨ok.T, ok.cap, ok.hom⟩
theorem Su.Good.hom_lt {s : Su} (g : s.Good) {r : Nat} (h : r < s.hom.length) : s.hom.getD r 0 < s.par.length := by
  rw [List.getD_eq_getElem?_getD, List.getElem?_eq_getElem h]
  exact g.hom _ (List.getElem_mem h)
theorem count_set {l : List (Option Nat)} {r : Nat} {x y : Option Nat} (h : r < l.length) : (l.set r x).count y + (if l.getD r none = y then 1 else 0) = l.count y + (if x = y then 1 else 0) := by
  induction l generalizing r with
  | nil => simp at h
  | cons a l ih =>
    cases r with
    | zero =>
      rw [List.set_cons_zero, List.count_cons, List.count_cons]
      simp only [List.getD_cons_zero, beq_iff_eq]
      omega
    | succ r =>
      have := ih (r := r) (by simpa using h)
      rw [List.set_cons_succ, List.count_cons, List.count_cons]
      simp only [List.getD_cons_succ]
      omega
theorem IsPl.set {s : Su} {pl : List (Option Nat)} (h : IsPl s pl) {r q : Nat} (hr : r < pl.length) (hq : q ∈ FB.way s.par (s.hom.getD r 0)) (hn : pl.getD r none = none) (hc : pl.count (some q) < s.cap.getD q 0) : IsPl s (pl.set r (some q)) := by
  refine ⟨by rw [List.length_set]; exact h.len, fun r' p hp => ?_, fun p hp => ?_⟩
  · rw [List.getElem?_set] at hp
    split at hp
    · rename_i e
      subst e
      first | rw [if_pos hr] at hp | skip
      injection hp with hp; injection hp with hp; subst hp; exact hq
    · exact h.way r' p hp
  · have := count_set (l := pl) (r := r) (x := some q) (y := some p) hr
    rw [hn] at this
    simp at this
    have h2 := h.cap p hp
    by_cases e : q = p
    · subst e; simp at this; omega
    · simp [e] at this; omega
theorem IsPl.clear {s : Su} {pl : List (Option Nat)} (h : IsPl s pl) {r : Nat} (hr : r < pl.length) : IsPl s (pl.set r none) := by
  refine ⟨by rw [List.length_set]; exact h.len, fun r' p hp => ?_, fun p hp => ?_⟩
  · rw [List.getElem?_set] at hp
    split at hp
    · rename_i e
      first | rw [if_pos (by omega)] at hp | skip
      injection hp with hp; cases hp
    · exact h.way r' p hp
  · have := count_set (l := pl) (r := r) (x := none) (y := some p) hr
    simp at this
    have h2 := h.cap p hp
    omega
theorem IsPl.beg {s : Su} {pl : List (Option Nat)} (h : IsPl s pl) {r : Nat} (hr : r < pl.length) (hn : pl.getD r none = none) : IsPl s (FB.beg s pl r) := by
  unfold FB.beg
  cases hf : (FB.way s.par (s.hom.getD r 0)).find? (fun p => decide (pl.count (some p) < s.cap.getD p 0)) with
  | none => exact h
  | some q => exact h.set hr (List.mem_of_find?_eq_some hf) hn (by simpa using List.find?_some hf)
theorem IsPl.tog {s : Su} {pl : List (Option Nat)} (h : IsPl s pl) {r : Nat} (hr : r < pl.length) : IsPl s (FB.tog s pl r) := by
  unfold FB.tog
  cases hn : pl.getD r none with
  | none => exact h.beg hr hn
  | some q => exact h.clear hr
theorem beg_len (s : Su) (pl : List (Option Nat)) (r : Nat) : (beg s pl r).length = pl.length := by unfold beg; split <;> simp
theorem tog_len (s : Su) (pl : List (Option Nat)) (r : Nat) : (tog s pl r).length = pl.length := by unfold tog; split <;> simp [beg_len]
theorem eq_oDi (x : Option Nat) (p : Nat) : cmpop .Eq (oD x) (.int p) = some (decide (x = some p)) := by
  have h1 := encO.eqv x (some p)
  have h2 := encO.lay 9 x
  have h3 := encO.lay 9 (some p)
  rw [d4] at h1 h3
  unfold cmpop D.pyEq
  dsimp only
  rw [h1, h2, h3]; rfl
theorem isNon_oD (x : Option Nat) : (oD x).isNon = decide (x = none) := by cases x <;> rfl
def aBegun (wy : Nat) : FDef := ⟨[false, false, false, false, false], 7, (.cons (.for (.name 5) (.val (.call wy false (.cons (.var 0) (.cons (.idx (.var 2) (.var 4)) .nil)))) (.cons (.ife (.cmp .Lt (.blt .len (.cons (.comp (.var 6) [6] (.name 6) (.val (.var 3)) (.cons (.cmp .Eq (.var 6) (.var 5)) .nil)) .nil)) (.idx (.var 1) (.var 5))) (.cons (.ret (.bin .Add (.bin .Add (.slc (.var 3) .none (.some (.var 4))) (.tupD (.cons (.var 5) .nil))) (.slc (.var 3) (.some (.bin .Add (.var 4) (.lit (.int 1)))) .none))) .nil) .nil) .nil)) (.cons (.ret (.var 3)) .nil))⟩
theorem find_first {b : Nat → Bool} {pre post : List Nat} {x : Nat} (h1 : ∀ p ∈ pre, b p = false) (h2 : b x = true) : (pre ++ x :: post).find? b = some x := by
  induction pre with
  | nil => rw [List.nil_append, List.find?_cons, h2]
  | cons a pre ih => rw [List.cons_append, List.find?_cons, h1 a List.mem_cons_self]; exact ih fun p hp => h1 p (List.mem_cons_of_mem _ hp)
theorem find_none {b : Nat → Bool} {l : List Nat} (h : ∀ p ∈ l, b p = false) : l.find? b = none := by
  rw [List.find?_eq_none]; intro p hp; rw [h p hp]; simp
theorem aBegun_eq {wy : Nat} (hw : tabG lt wy = some aWay) (ht : tabG lt t = some (aBegun wy)) {s : Su} (g : s.Good) (sm : s.par.length ≤ 1000) {pl : List (Option Nat)} (hl : pl.length = s.hom.length) (hl2 : pl.length ≤ 1000) {r : Nat} (hr : r < s.hom.length) :
    PH lt (n + 2) t [.lst (s.par.map oD), .lst (s.cap.map nD), .lst (s.hom.map nD), .tup (pl.map oD), .int r] = .ok false (.tup ((beg s pl r).map oD)) [] := by
  have rw0 : (cfgG lt).raws wy = some [false, false] := raws_of hw rfl
  have hh := g.hom_lt hr
  refine PH_eq (aBegun wy) ht rfl ?_
  dsimp! [aBegun]
  simp! [at_N hr, rw0, aWay_eq hw g.T hh sm]
  refine post_for (fun pre ρ => ∃ v5, (∀ p ∈ pre, decide (pl.count (some p) < s.cap.getD p 0) = false) ∧ ρ = [some ⟨false, .lst (s.par.map oD)⟩, some ⟨false, .lst (s.cap.map nD)⟩, some ⟨false, .lst (s.hom.map nD)⟩, some ⟨false, .tup (pl.map oD)⟩, some ⟨false, .int r⟩, v5, none])
    ⟨none, (fun p h => nomatch h), rfl⟩ ?_ ?_
  · rintro pre p post e ρ ⟨v5, hpre, rfl⟩
    have hp : p < s.cap.length := by rw [g.cap]; exact g.T.way_mem (by rw [e]; simp) hh
    simp! []
    refine post_map (fun x : Option Nat => if decide (x = some p) then some (oD x) else none) ?_ ?_
    · intro x _
      simp! [eq_oDi]
      by_cases h : x = some p
      · simp! [h]
      · simp! [h]
    rw [filterMap_enc]
    have hc : ((pl.filter fun x => decide (x = some p)).map oD).length = pl.count (some p) := by
      rw [List.length_map, List.count_eq_length_filter]
      congr 1
      apply List.filter_congr
      intro x _
      by_cases h : x = some p <;> simp [h]
    have hcl := List.count_le_length (a := some p) (l := pl)
    generalize (pl.filter fun x => decide (x = some p)).map oD = L at *
    simp! [compE_ok (show L.length ≤ SZ by rw [hc]; show _ ≤ 16777216; omega), hc, at_N hp]
    by_cases hb : pl.count (some p) < s.cap.getD p 0
    · simp! [show ((pl.count (some p) : Nat) : Int) < ((s.cap.getD p 0 : Nat) : Int) by omega, slc_tup, cut_take, show ((r : Int) + 1) = ((r + 1 : Nat) : Int) by omega, cut_drop, g3 (a := (pl.map oD).take r) (b := [.int (p : Int)]) (by simp; omega)]
      simp! [g3 (a := (pl.map oD).take r ++ [.int (p : Int)]) (b := (pl.map oD).drop (r + 1)) (by simp; omega)]
      have e2 : (pl.map oD).take r ++ [.int (p : Int)] ++ (pl.map oD).drop (r + 1) = (beg s pl r).map oD := by
        unfold beg
        rw [e, find_first hpre (by simpa using hb)]
        dsimp only
        rw [List.map_set, ← set_cut (by rw [List.length_map]; omega)]; rfl
      rw [e2]
      exact is_rfl
    · simp! [show ¬ ((pl.count (some p) : Nat) : Int) < ((s.cap.getD p 0 : Nat) : Int) by omega]
      exact ⟨_, mem_snoc hpre (by simpa using hb), rfl⟩
  · rintro ρ ⟨v5, hpre, rfl⟩
    simp! []
    have e2 : beg s pl r = pl := by unfold beg; rw [find_none hpre]
    rw [e2]
    exact is_rfl
def aToggled (bg : Nat) : FDef := ⟨[false, false, false, false, false], 5, (.cons (.ife (.cmp .Is (.idx (.var 3) (.var 4)) (.lit .non)) (.cons (.ret (.call bg false (.cons (.var 0) (.cons (.var 1) (.cons (.var 2) (.cons (.var 3) (.cons (.var 4) .nil))))))) .nil) .nil) (.cons (.ret (.bin .Add (.bin .Add (.slc (.var 3) .none (.some (.var 4))) (.tupD (.cons (.lit .non) .nil))) (.slc (.var 3) (.some (.bin .Add (.var 4) (.lit (.int 1)))) .none))) .nil))⟩
theorem aToggled_eq {wy bg : Nat} (hw : tabG lt wy = some aWay) (hb : tabG lt bg = some (aBegun wy)) (ht : tabG lt t = some (aToggled bg)) {s : Su} (g : s.Good) (sm : s.par.length ≤ 1000) {pl : List (Option Nat)} (hl : pl.length = s.hom.length) (hl2 : pl.length ≤ 1000) {r : Nat} (hr : r < s.hom.length) :
    PH lt (n + 3) t [.lst (s.par.map oD), .lst (s.cap.map nD), .lst (s.hom.map nD), .tup (pl.map oD), .int r] = .ok false (.tup ((tog s pl r).map oD)) [] := by
  have rb : (cfgG lt).raws bg = some [false, false, false, false, false] := raws_of hb rfl
  have hrp : r < pl.length := by omega
  refine PH_eq (aToggled bg) ht rfl ?_
  dsimp! [aToggled]
  simp! [at_O hrp, isNon_oD]
  unfold tog
  cases hn : pl.getD r none with
  | none =>
    simp! [rb, aBegun_eq hw hb g sm hl hl2 hr]
    exact is_rfl
  | some q =>
    simp! [show ¬ (some q = (none : Option Nat)) from (fun h => nomatch h), slc_tup, cut_take, show ((r : Int) + 1) = ((r + 1 : Nat) : Int) by omega, cut_drop, g3 (a := (pl.map oD).take r) (b := [.non]) (by simp; omega)]
    simp! [g3 (a := (pl.map oD).take r ++ [.non]) (b := (pl.map oD).drop (r + 1)) (by simp; omega)]
    have e2 : (pl.map oD).take r ++ [.non] ++ (pl.map oD).drop (r + 1) = (pl.set r none).map oD := by
      rw [List.map_set, ← set_cut (by rw [List.length_map]; omega)]; rfl
    rw [e2]
    exact is_rfl
def aRun (dr tg : Nat) : FDef := ⟨[true, false, false, false], 8, (.cons (.asgT [4, 5, 6] (.var 1)) (.cons (.for (.name 7) (.rng1 (.var 3)) (.cons (.ife (.cmp .NotEq (.var 6) (.lstD .nil)) (.cons (.asg false 2 (.call tg false (.cons (.var 4) (.cons (.var 5) (.cons (.var 6) (.cons (.var 2) (.cons (.call dr false (.cons (.var 0) (.cons (.blt .len (.cons (.var 6) .nil)) .nil))) .nil))))))) .nil) .nil) .nil)) (.cons (.ret (.var 2)) .nil)))⟩
/-- what steps lead to -/
inductive Reach (s : Su) : List (Option Nat) → List (Option Nat) → Prop where
  | refl (pl) : Reach s pl pl
  | step {pl pl' : List (Option Nat)} {r : Nat} (h : Reach s pl pl') (hr : r < s.hom.length) : Reach s pl (tog s pl' r)
theorem Reach.isPl {s : Su} {a b : List (Option Nat)} (h : Reach s a b) (ha : IsPl s a) : IsPl s b := by
  induction h with
  | refl => exact ha
  | step h hr ih => exact ih.tog (by rw [ih.len]; exact hr)
theorem aRun_eq {dr wy bg tg : Nat} (hd : TakeOk lt dr [true, false]) (hw : tabG lt wy = some aWay) (hb : tabG lt bg = some (aBegun wy)) (hg : tabG lt tg = some (aToggled bg)) (ht : tabG lt t = some (aRun dr tg)) {s : Su} (g : s.Good) (sm : s.par.length ≤ 1000) (hm : s.hom.length ≤ 1000) (w : Int × Int × Int) {pl : List (Option Nat)} (hl : pl.length = s.hom.length) {m : Nat} (hm2 : m ≤ 1000000) :
    ∃ pl' w', Reach s pl pl' ∧ PH lt (n + 4) t [wD w, setupD s, .tup (pl.map oD), .int m] = .ok false (.tup (pl'.map oD)) [wD w'] := by
  have rg : (cfgG lt).raws tg = some [false, false, false, false, false] := raws_of hg rfl
  refine PH_run (P := fun x => ∃ (pl' : List (Option Nat)) (w' : Int × Int × Int), Reach s pl pl' ∧ Is (.ok false (.tup (pl'.map oD)) [wD w']) x) (aRun dr tg) ht rfl ?_
  dsimp! [aRun, setupD]
  simp! [rngV_ok hm2]
  refine post_for (fun pre ρ => ∃ (pl' : List (Option Nat)) (w' : Int × Int × Int) (v : Option FB.Slot), Reach s pl pl' ∧ pl'.length = s.hom.length ∧ ρ = [some ⟨true, wD w'⟩, some ⟨false, setupD s⟩, some ⟨false, .tup (pl'.map oD)⟩, some ⟨false, .int m⟩, some ⟨false, .lst (s.par.map oD)⟩, some ⟨false, .lst (s.cap.map nD)⟩, some ⟨false, .lst (s.hom.map nD)⟩, v])
    ⟨pl, w, none, .refl pl, hl, rfl⟩ ?_ ?_
  · rintro pre x post e ρ ⟨pl', w', v, hR, hl', rfl⟩
    by_cases h0 : s.hom = []
    · simp! [ne_nil, h0, List.isEmpty_nil]
      simp! [show (D.lst [] = D.lst (([] : List Nat).map nD)) from rfl, ne_nil, List.isEmpty_nil]
      exact ⟨pl', w', some ⟨false, .int x⟩, hR, hl', by rw [h0]; rfl⟩
    · have hpos : 0 < s.hom.length := by cases hs : s.hom with
        | nil => exact absurd hs h0
        | cons a l => simp
      obtain ⟨r, w'', hr, e3⟩ := hd.2 (n + 2) w' s.hom.length hpos (by omega)
      have hne : s.hom.isEmpty = false := by cases hs : s.hom with
        | nil => exact absurd hs h0
        | cons a l => rfl
      simp! [ne_nil, hne, rg, hd.1, e3, aToggled_eq hw hb hg g sm hl' (by omega) hr]
      exact ⟨tog s pl' r, w'', _, hR.step hr, by rw [tog_len]; exact hl', rfl⟩
  · rintro ρ ⟨pl', w', v, hR, hl', rfl⟩
    simp! []
    exact ⟨pl', w', hR, is_rfl⟩
def aSetup (t : Nat) : FDef := ⟨[true, false, false], 11, (.cons (.asg false 3 (.bin .Sub (.var 1) (.bin .FloorDiv (.call t false (.cons (.var 0) (.cons (.var 1) .nil))) (.idx (.lstD (.cons (.lit (.int 1)) (.cons (.lit (.int 2)) (.cons (.lit (.int 4)) .nil)))) (.call t false (.cons (.var 0) (.cons (.lit (.int 3)) .nil))))))) (.cons (.par 4 5 false false (.call t false (.cons (.var 0) (.cons (.lit (.int 5)) .nil))) (.idx (.lstD (.cons (.lit (.int 1)) (.cons (.lit (.int 2)) (.cons (.lit (.int 3)) (.cons (.lit (.int 2)) (.cons (.lit (.int 1)) (.cons (.lit (.int 12)) .nil))))))) (.call t false (.cons (.var 0) (.cons (.lit (.int 6)) .nil))))) (.cons (.par 6 7 true true (.lstD (.cons (.lit .non) .nil)) (.lstD (.cons (.call t false (.cons (.var 0) (.cons (.bin .Add (.var 5) (.lit (.int 1))) .nil))) .nil))) (.cons (.for (.name 8) (.rng2 (.lit (.int 1)) (.var 3)) (.cons (.asg false 9 (.lstD (.cons (.bin .Sub (.var 8) (.lit (.int 1))) (.cons (.lit (.int 0)) (.cons (.blt .max2 (.cons (.lit (.int 0)) (.cons (.bin .Sub (.bin .Sub (.var 8) (.lit (.int 1))) (.call t false (.cons (.var 0) (.cons (.lit (.int 3)) .nil)))) .nil))) (.cons (.bin .FloorDiv (.bin .Sub (.var 8) (.lit (.int 1))) (.lit (.int 2))) (.cons (.call t false (.cons (.var 0) (.cons (.var 8) .nil))) .nil))))))) (.cons (.expr (.mth .append (.var 6) (.cons (.idx (.var 9) (.var 4)) .nil))) (.cons (.expr (.mth .append (.var 7) (.cons (.call t false (.cons (.var 0) (.cons (.bin .Add (.var 5) (.lit (.int 1))) .nil))) .nil))) .nil)))) (.cons (.asg true 10 (.lstD .nil)) (.cons (.for (.name 8) (.rng1 (.bin .Sub (.var 2) (.bin .FloorDiv (.call t false (.cons (.var 0) (.cons (.bin .Add (.var 2) (.lit (.int 1))) .nil))) (.idx (.lstD (.cons (.lit (.int 1)) (.cons (.lit (.int 2)) (.cons (.lit (.int 4)) .nil)))) (.call t false (.cons (.var 0) (.cons (.lit (.int 3)) .nil))))))) (.cons (.expr (.mth .append (.var 10) (.cons (.idx (.lstD (.cons (.call t false (.cons (.var 0) (.cons (.var 3) .nil))) (.cons (.bin .Sub (.var 3) (.lit (.int 1))) (.cons (.bin .Sub (.bin .Sub (.var 3) (.lit (.int 1))) (.call t false (.cons (.var 0) (.cons (.bin .Add (.lit (.int 1)) (.bin .FloorDiv (.var 3) (.lit (.int 2)))) .nil)))) .nil)))) (.call t false (.cons (.var 0) (.cons (.lit (.int 3)) .nil)))) .nil))) .nil)) (.cons (.ret (.tupD (.cons (.var 6) (.cons (.var 7) (.cons (.var 10) .nil))))) .nil)))))))⟩
theorem menu124 {k : Nat} (h : k < 3) : ∃ d : Nat, (d = 1 ∨ d = 2 ∨ d = 4) ∧ FB.atI [D.int 1, .int 2, .int 4] (k : Int) = some (.int d) := by
  rcases (show k = 0 ∨ k = 1 ∨ k = 2 by omega) with h | h | h <;> subst h
  · exact ⟨1, Or.inl rfl, rfl⟩
  · exact ⟨2, Or.inr (Or.inl rfl), rfl⟩
  · exact ⟨4, Or.inr (Or.inr rfl), rfl⟩
theorem menu6 {k : Nat} (h : k < 6) : ∃ d : Nat, d ≤ 12 ∧ FB.atI [D.int 1, .int 2, .int 3, .int 2, .int 1, .int 12] (k : Int) = some (.int d) := by
  rcases (show k = 0 ∨ k = 1 ∨ k = 2 ∨ k = 3 ∨ k = 4 ∨ k = 5 by omega) with h | h | h | h | h | h <;> subst h
  · exact ⟨1, by omega, rfl⟩
  · exact ⟨2, by omega, rfl⟩
  · exact ⟨3, by omega, rfl⟩
  · exact ⟨2, by omega, rfl⟩
  · exact ⟨1, by omega, rfl⟩
  · exact ⟨12, by omega, rfl⟩
theorem aSetup_eq {m : Nat} (htk : TakeOk lt t [true, false]) (ht : tabG lt m = some (aSetup t)) (w : Int × Int × Int) {pools requests : Nat} (h1 : 0 < pools) (h1' : pools ≤ 1000) (h2 : requests ≤ 1000) :
    ∃ (s : Su) (w' : Int × Int × Int), Drawn s pools requests 12 ∧ PH lt (n + 2) m [wD w, .int pools, .int requests] = .ok false (setupD s) [wD w'] := by
  have rt := htk.1
  refine PH_run (P := fun r => ∃ (s : Su) (w' : Int × Int × Int), Drawn s pools requests 12 ∧ Is (.ok false (setupD s) [wD w']) r) (aSetup t) ht rfl ?_
  dsimp! [aSetup]
  obtain ⟨a, w1, ha, e1⟩ := htk.2 n w pools h1 (by omega)
  obtain ⟨b, w2, hb, e2⟩ := htk.2 n w1 3 (by omega) (by omega)
  have e2 : PH lt (n + 1) t [wD w1, .int 3] = .ok false (.int b) [wD w2] := e2
  obtain ⟨d, hd, ed⟩ := menu124 hb
  have hk : ∃ k : Nat, k < pools ∧ (pools : Int) - (a : Int) / (d : Int) = ((k + 1 : Nat) : Int) ∧ True := by
    have h5 : a / d ≤ a := Nat.div_le_self a d
    have h6 : (a : Int) / (d : Int) = ((a / d : Nat) : Int) := (Int.natCast_ediv a d).symm
    rw [h6]
    generalize a / d = z at *
    exact ⟨pools - z - 1, by omega, by omega, trivial⟩
  obtain ⟨k, hk, ek, _⟩ := hk
  obtain ⟨kind, w3, hkind, e3⟩ := htk.2 n w2 5 (by omega) (by omega)
  have e3 : PH lt (n + 1) t [wD w2, .int 5] = .ok false (.int kind) [wD w3] := e3
  obtain ⟨c, w4, hc, e4⟩ := htk.2 n w3 6 (by omega) (by omega)
  have e4 : PH lt (n + 1) t [wD w3, .int 6] = .ok false (.int c) [wD w4] := e4
  obtain ⟨full, hfull, ef⟩ := menu6 hc
  obtain ⟨c0, w5, hc0, e5⟩ := htk.2 n w4 (full + 1) (by omega) (by omega)
  simp! [rt, e1, e2, ed, g5 (i := (a : Int)) (j := (d : Int)) (by omega) (by omega), ek, e3, e4, ef, show (full : Int) + 1 = ((full + 1 : Nat) : Int) by omega, e5, rngV_1 (show k + 1 ≤ 1000000 by omega), show ((4 : Nat) = 5) = False by simp, show ((6 : Nat) = 7) = False by simp]
  refine post_for (fun pre ρ => ∃ (par : Par) (cs : List Nat) (w : Int × Int × Int) (v v9 : Option FB.Slot), Tree par ∧ par.length = pre.length + 1 ∧ cs.length = pre.length + 1 ∧ (∀ c ∈ cs, c ≤ 12) ∧ ρ = [some ⟨true, wD w⟩, some ⟨false, .int pools⟩, some ⟨false, .int requests⟩, some ⟨false, .int (k + 1 : Nat)⟩, some ⟨false, .int kind⟩, some ⟨false, .int full⟩, some ⟨true, .lst (par.map oD)⟩, some ⟨true, .lst (cs.map nD)⟩, v, v9, none])
    ⟨[none], [c0], w5, none, none, tree_one, rfl, rfl, by simp; omega, rfl⟩ ?_ ?_
  · rintro pre x post e ρ ⟨par, cs, w, v, v9, T, hl, hcl, hcs, rfl⟩
    have hx := range'_split e
    have hpl := congrArg List.length e
    simp at hpl
    obtain ⟨q3, w6, hq3, e6⟩ := htk.2 n w 3 (by omega) (by omega)
    have e6 : PH lt (n + 1) t [wD w, .int 3] = .ok false (.int q3) [wD w6] := e6
    obtain ⟨q, w7, hq, e7⟩ := htk.2 n w6 x (by omega) (by omega)
    obtain ⟨c1, w8, hc1, e8⟩ := htk.2 n w7 (full + 1) (by omega) (by omega)
    have key : ∃ r : Nat, r < par.length ∧ FB.atI [D.int ((x : Int) - 1), .int 0, .int (max 0 ((x : Int) - 1 - (q3 : Int))), .int (((x : Int) - 1) / 2), .int q] (kind : Int) = some (.int r) := by
      rcases (show kind = 0 ∨ kind = 1 ∨ kind = 2 ∨ kind = 3 ∨ kind = 4 by omega) with h | h | h | h | h <;> subst h
      · exact ⟨x - 1, by omega, by rw [show ((x : Int) - 1) = ((x - 1 : Nat) : Int) by omega]; rfl⟩
      · exact ⟨0, by omega, rfl⟩
      · exact ⟨(max 0 ((x : Int) - 1 - (q3 : Int))).toNat, by omega, by
          have : max 0 ((x : Int) - 1 - (q3 : Int)) = (((max 0 ((x : Int) - 1 - (q3 : Int))).toNat : Nat) : Int) := by omega
          rw [← this]; rfl⟩
      · exact ⟨(((x : Int) - 1) / 2).toNat, by omega, by
          have : ((x : Int) - 1) / 2 = (((((x : Int) - 1) / 2).toNat : Nat) : Int) := by omega
          rw [← this]; rfl⟩
      · exact ⟨q, by omega, rfl⟩
    obtain ⟨r, hr, er⟩ := key
    simp! [rt, e6, e7, g5 (i := (x : Int) - 1) (j := 2) (by omega) (by omega), er, y1 (xs := par.map oD) (y := .int r) (by rw [List.length_map]; omega), show (full : Int) + 1 = ((full + 1 : Nat) : Int) by omega, e8, app_nat (l := cs) (k := c1) (by omega)]
    exact ⟨par ++ [some r], cs ++ [c1], w8, _, _, T.snoc hr, by simp; omega, by simp; omega, mem_snoc hcs (by omega), by rw [List.map_append, List.map_append]; rfl⟩
  rintro ρ ⟨par, cs, w9, v, v9, T, hl, hcl, hcs, rfl⟩
  rw [List.length_range'] at hl hcl
  obtain ⟨a', w10, ha', e10⟩ := htk.2 n w9 (requests + 1) (by omega) (by omega)
  obtain ⟨b', w11, hb', e11⟩ := htk.2 n w10 3 (by omega) (by omega)
  have e11 : PH lt (n + 1) t [wD w10, .int 3] = .ok false (.int b') [wD w11] := e11
  obtain ⟨d', hd', ed'⟩ := menu124 hb'
  have hk' : ∃ m : Nat, m ≤ requests ∧ (requests : Int) - (a' : Int) / (d' : Int) = (m : Int) := by
    have h5 : a' / d' ≤ a' := Nat.div_le_self a' d'
    have h6 : (a' : Int) / (d' : Int) = ((a' / d' : Nat) : Int) := (Int.natCast_ediv a' d').symm
    rw [h6]
    generalize a' / d' = z at *
    exact ⟨requests - z, by omega, by omega⟩
  obtain ⟨many, hmany, em⟩ := hk'
  simp! [rt, show (requests : Int) + 1 = ((requests + 1 : Nat) : Int) by omega, e10, e11, ed', g5 (i := (a' : Int)) (j := (d' : Int)) (by omega) (by omega), em, rngV_ok (show many ≤ 1000000 by omega)]
  refine post_for (fun pre ρ => ∃ (w : Int × Int × Int) (hs : List Nat) (v' : Option FB.Slot), hs.length = pre.length ∧ (∀ h ∈ hs, h < k + 1) ∧ ρ = [some ⟨true, wD w⟩, some ⟨false, .int pools⟩, some ⟨false, .int requests⟩, some ⟨false, .int (k + 1 : Nat)⟩, some ⟨false, .int kind⟩, some ⟨false, .int full⟩, some ⟨true, .lst (par.map oD)⟩, some ⟨true, .lst (cs.map nD)⟩, v', v9, some ⟨true, .lst (hs.map nD)⟩])
    ⟨w11, [], v, rfl, (fun c h => nomatch h), rfl⟩ ?_ ?_
  · rintro pre x post e ρ ⟨w, hs, v', hhl, hhs, rfl⟩
    have hpl := congrArg List.length e
    simp at hpl
    obtain ⟨q, w12, hq, e12⟩ := htk.2 n w (k + 1) (by omega) (by omega)
    have e2k : (((k + 1 : Nat) : Int)) / 2 = (((k + 1) / 2 : Nat) : Int) := by omega
    obtain ⟨q2, w13, hq2, e13⟩ := htk.2 n w12 (1 + (k + 1) / 2) (by omega) (by omega)
    obtain ⟨m3, w14, hm3, e14⟩ := htk.2 n w13 3 (by omega) (by omega)
    have e14 : PH lt (n + 1) t [wD w13, .int 3] = .ok false (.int m3) [wD w14] := e14
    have key : ∃ r : Nat, r < k + 1 ∧ FB.atI [D.int q, .int (((k + 1 : Nat) : Int) - 1), .int (((k + 1 : Nat) : Int) - 1 - (q2 : Int))] (m3 : Int) = some (.int r) := by
      rcases (show m3 = 0 ∨ m3 = 1 ∨ m3 = 2 by omega) with h | h | h <;> subst h
      · exact ⟨q, hq, rfl⟩
      · exact ⟨k, by omega, by rw [show (((k + 1 : Nat) : Int) - 1) = (k : Int) by omega]; rfl⟩
      · exact ⟨k - q2, by omega, by rw [show (((k + 1 : Nat) : Int) - 1 - (q2 : Int)) = ((k - q2 : Nat) : Int) by omega]; rfl⟩
    obtain ⟨r, hr, er⟩ := key
    simp! [rt, e12, g5 (i := (((k + 1 : Nat) : Int))) (j := 2) (by omega) (by omega), e2k, show (1 : Int) + (((k + 1) / 2 : Nat) : Int) = ((1 + (k + 1) / 2 : Nat) : Int) by omega, e13, e14, er, app_nat (l := hs) (k := r) (by omega)]
    exact ⟨w14, hs ++ [r], _, by simp [hhl], mem_snoc hhs hr, rfl⟩
  rintro ρ ⟨w15, hs, v', hhl, hhs, rfl⟩
  rw [List.length_range] at hhl
  simp! []
  exact ⟨⟨par, cs, hs⟩, w15, ⟨T, by show par.length ≤ pools; omega, by show cs.length = par.length; omega, hcs, by show hs.length ≤ requests; omega, fun h hh => by show h < par.length; have := hhs h hh; omega⟩, is_rfl⟩
end
end FB

set_option Elab.async false
set_option linter.all false
set_option maxRecDepth 100000
set_option maxHeartbeats 400000
namespace FB
local macro_rules | `(tactic| simp! [$ts,*]) => `(tactic| simp -implicitDefEqProofs -dsimp only [th, ks, kn, Ka0, Ka1, Kb0, Kb1, Kb2, Kb3, Kb4, Kb5, Kb6, Kb7, Kb8, Kb9, Kb10, Kb11, Kc0, Kc1, Kc2, Kc3, Kc4, Kc5, Kc6, Kc7, Kc8, Kc9, Ke0, e1, e2, Ke3, Ke4, e4', Ke5, Ke6, Ke7, Ke8, Ke9, Ke10, Ke11, Ke12, Ke13, Ke14, Ke15, Ke16, Ke17, Ke17b, Ke18, Ke19, Ke20, Ke21, Ke22, Ke23, Ke24, Ke25, t0, Kt1, Kt2, t3, l0, Kl1, l2, Kl3, l4, Kl5, Kl5a, Kl5b, Kl6, o0, Ko1, o2, Ki0, Ki1, i1', Ki2, Ki3, Ki4, Ki5, s0, Ks1, Ks2, Ks3, s3', Ks4, Ks5, Ks6, Ks7, Ks8, Ks8', Ks9, Ks10, Ks11, s12, Ks13, Ks14, s15, s16, s17, s18, Kf0, Kf1, f3, nd0, nd1, body_name, Kbody_tup, setTg_name, setTg_2, setTg_3, mk0, mk1, w0, w1, k0, k1, p0, p1, p2, p3, p4, n0, n1, n2, q0, q1, q2, q3, q4, pt0, pc0, d0, d1, d2, d4, d5, d7, d8, d9, d10, d11, d12, d13, d14, d15, x0, x1, range_0, rangeC_down, enum_map, zip_map, g0, g1, h0, h1, h2, h3, h4, h5, h6, h7, h8, h9, u0, u1, u2, u3, u4, u5, u6, u7, u8, u9, u10, u11, Kct0, Kct1, mo0, mo1, mo2, mo3, mo4, Kmo5, Kmo6, Kmo7, Kmo8, mo9, Kv0, Kv1, Kv2, Kv3, Kv4, Kv5, va0, va1, va2, rd0, rd1, rd2, sl0, sl1, ow0, ow1, fz0, fz1, fz2, fz3, fz4, re0, re1, re2, re3, re4, st0, st1, st2, pv0, pv1, il0, it0, it1, po0, po1, po2, po3, so0, so1, so2, so3, ou0, ou1, ou2, is0, is1, is2, is3, is4, is6, is7, AV.d, List.getElem?_cons_zero, List.getElem?_cons_succ, List.set_cons_zero, List.set_cons_succ, List.map_cons, List.map_nil, List.mapM_cons, List.mapM_nil, Option.pure_def, Option.bind_eq_bind, Option.bind_some, Option.map_some, Option.map_none, Option.getD_some, Option.getD_none, List.length_cons, List.length_nil, List.length_map, List.replicate, Bool.false_eq_true, Bool.true_and, Bool.and_true, Bool.false_and, Bool.and_false, Bool.not_true, Bool.not_false, Bool.and_self, if_false, if_true, decide_true, decide_false, $ts,*])
local macro_rules | `(tactic| dsimp! [$ts,*]) => `(tactic| simp -implicitDefEqProofs -dsimp only [$ts,*, List.length_cons, List.length_nil, Nat.reduceAdd, Nat.reduceSub, List.replicate, List.cons_append, List.nil_append, List.append_nil])
open PySem
section
variable {lt : List FDef} {n t : Nat}
/-! ### fills -/
theorem r18 : (cfgG lt).raws 18 = some [false, false, false] := rfl
theorem r19 : (cfgG lt).raws 19 = some [false, false, false] := rfl
theorem r25 : (cfgG lt).raws 25 = some [false, false] := rfl
theorem r28 : (cfgG lt).raws 28 = some [false, false, false] := rfl
/-- the room of a placement -/
structure RoomIs (s : Su) (pl : List (Option Nat)) (f : List Int) : Prop where
  len : f.length = s.par.length
  at' : ∀ p, p < s.par.length → gI f p = ((s.cap.getD p 0 : Nat) : Int) - (pl.count (some p) : Nat)
theorem gI_nat {l : List Nat} {p : Nat} : gI (l.map Int.ofNat) p = ((l.getD p 0 : Nat) : Int) := by
  unfold gI
  rw [List.getD_eq_getElem?_getD, List.getElem?_map, List.getD_eq_getElem?_getD]
  cases l[p]? <;> rfl
theorem roomOf_at (p : Nat) : ∀ (pl : List (Option Nat)) (f : List Int), (∀ q, some q ∈ pl → q < f.length) → (pl.foldl roomStep f).length = f.length ∧ gI (pl.foldl roomStep f) p = gI f p - (pl.count (some p) : Nat)
  | [], f, _ => ⟨rfl, by simp⟩
  | none :: pl, f, h => by
    obtain ⟨h1, h2⟩ := roomOf_at p pl f fun q hq => h q (List.mem_cons_of_mem _ hq)
    rw [List.foldl_cons]
    refine ⟨h1, h2.trans ?_⟩
    simp
  | some q :: pl, f, h => by
    have hq := h q List.mem_cons_self
    obtain ⟨h1, h2⟩ := roomOf_at p pl (f.set q (gI f q - 1)) fun q' hq' => by rw [List.length_set]; exact h q' (List.mem_cons_of_mem _ hq')
    rw [List.foldl_cons]
    refine ⟨by rw [show roomStep f (some q) = f.set q (gI f q - 1) from rfl, h1, List.length_set], ?_⟩
    rw [show roomStep f (some q) = f.set q (gI f q - 1) from rfl, h2, gI_dec hq, List.count_cons]
    unfold ind
    by_cases e : p = q
    · subst e; simp; omega
    · simp [e, Ne.symm e]
theorem IsPl.room {s : Su} (ok : s.Ok) {pl : List (Option Nat)} (h : IsPl s pl) : RoomIs s pl (roomOf s.cap pl) := by
  have hb : ∀ q, some q ∈ pl → q < (s.cap.map Int.ofNat).length := fun q hq => by rw [List.length_map, ok.cap]; exact h.bd ok hq
  exact ⟨by rw [show roomOf s.cap pl = pl.foldl roomStep (s.cap.map Int.ofNat) from rfl, (roomOf_at 0 pl _ hb).1, List.length_map, ok.cap], fun p hp => by
    rw [show roomOf s.cap pl = pl.foldl roomStep (s.cap.map Int.ofNat) from rfl, (roomOf_at p pl _ hb).2, gI_nat]⟩
theorem find_congr {α : Type} {b c : α → Bool} : ∀ {l : List α}, (∀ p ∈ l, b p = c p) → l.find? b = l.find? c
  | [], _ => rfl
  | a :: l, h => by
    rw [List.find?_cons, List.find?_cons, h a List.mem_cons_self, find_congr fun p hp => h p (List.mem_cons_of_mem _ hp)]
theorem snap_oD {fr : Bool} {x : Option Nat} {ρ : FB.Env} : snapB (.ok fr (oD x) []) ρ = .ok (.imm (oD x)) ρ := by cases x <;> rfl
theorem with_pool_eq {pl : List (Option Nat)} {r : Nat} (hr : r < pl.length) (hl : pl.length ≤ 1000) (x : Option Nat) : PH lt (n + 1) 18 [.tup (pl.map oD), .int r, oD x] = .ok false (.tup ((pl.set r x).map oD)) [] := by
  refine PH_eq F18 rfl rfl ?_
  dsimp! [F18]
  simp! [slc_tup, cut_take, show ((r : Int) + 1) = ((r + 1 : Nat) : Int) by omega, cut_drop, g3 (a := (pl.map oD).take r) (b := [oD x]) (by simp; omega), g3 (a := (pl.map oD).take r ++ [oD x]) (b := (pl.map oD).drop (r + 1)) (by simp; omega)]
  rw [set_cut (by rw [List.length_map]; exact hr), ← List.map_set]
  exact is_rfl
theorem first_room_eq {s : Su} (ok : s.Ok) {f : List Int} (hf : f.length = s.par.length) {r : Nat} (hr : r < s.hom.length) : PH lt (n + 5) 19 [suD s, .lst (f.map .int), .int r] = .ok false (oD ((way s.par (s.hom.getD r 0)).find? (fun p => decide (0 < gI f p)))) [] := by
  have hh := ok.good.hom_lt hr
  refine PH_eq F19 rfl rfl ?_
  dsimp! [F19]
  simp! [at_N hr, r9, way_eq ok hh]
  refine post_for (fun pre ρ => ∃ v, (∀ p ∈ pre, decide (0 < gI f p) = false) ∧ ρ = [some ⟨false, suD s⟩, some ⟨false, .lst (f.map .int)⟩, some ⟨false, .int r⟩, v]) ⟨none, (fun p h => nomatch h), rfl⟩ ?_ ?_
  · rintro pre p post e ρ ⟨v, hpre, rfl⟩
    have hp : p < f.length := by rw [hf]; exact ok.T.way_mem (by rw [e]; simp) hh
    by_cases hb : 0 < gI f p
    · simp! [at_I hp, hb]
      rw [e, find_first hpre (by simpa using hb)]
      exact is_rfl
    · simp! [at_I hp, hb]
      exact ⟨_, mem_snoc hpre (by simpa using hb), rfl⟩
  · rintro ρ ⟨v, hpre, rfl⟩
    simp! []
    rw [find_none hpre]
    exact is_rfl
theorem beg_ne (s : Su) (pl : List (Option Nat)) {r r' : Nat} (h : r' ≠ r) : (beg s pl r).getD r' none = pl.getD r' none := by
  unfold beg
  split
  · rw [List.getD_eq_getElem?_getD, List.getD_eq_getElem?_getD, List.getElem?_set_ne (Ne.symm h)]
  · rfl
def fillAll (s : Su) (pl : List (Option Nat)) (rs : List Nat) : List (Option Nat) := rs.foldl (beg s) pl
theorem fillAll_ne (s : Su) : ∀ (rs : List Nat) (pl : List (Option Nat)) {r' : Nat}, r' ∉ rs → (fillAll s pl rs).getD r' none = pl.getD r' none
  | [], pl, r', _ => rfl
  | r :: rs, pl, r', h => by
    rw [show fillAll s pl (r :: rs) = fillAll s (beg s pl r) rs from rfl, fillAll_ne s rs _ (fun hm => h (List.mem_cons_of_mem _ hm)), beg_ne s pl (fun e : r' = r => h (by rw [e]; exact List.mem_cons_self))]
theorem IsReq.getD {s : Su} {pl : List (Option Nat)} {rs : List Nat} (h : IsReq s pl rs) {r : Nat} (hr : r ∈ rs) : pl.getD r none = none := by rw [List.getD_eq_getElem?_getD, h.free r hr]; rfl
theorem fillAll_pl {s : Su} : ∀ {rs : List Nat} {pl : List (Option Nat)}, IsPl s pl → IsReq s pl rs → IsPl s (fillAll s pl rs)
  | [], pl, h, _ => h
  | r :: rs, pl, h, hr => by
    have h1 := hr.lt r List.mem_cons_self
    have hn := (List.nodup_cons.mp hr.nd)
    refine fillAll_pl (rs := rs) (h.beg (by rw [h.len]; exact h1) (hr.getD List.mem_cons_self)) ⟨fun x hx => hr.lt x (List.mem_cons_of_mem _ hx), hn.2, fun x hx => ?_⟩
    have hxr : x ≠ r := fun e => hn.1 (e ▸ hx)
    have hxl : x < (beg s pl r).length := by rw [beg_len, h.len]; exact hr.lt x (List.mem_cons_of_mem _ hx)
    have h2 := beg_ne s pl hxr
    rw [hr.getD (List.mem_cons_of_mem _ hx), List.getD_eq_getElem?_getD, List.getElem?_eq_getElem hxl] at h2
    rw [List.getElem?_eq_getElem hxl]
    exact congrArg some h2
theorem beg_room {s : Su} {pl : List (Option Nat)} {f : List Int} (R : RoomIs s pl f) (T : Tree s.par) {r : Nat} (hh : s.hom.getD r 0 < s.par.length) : (way s.par (s.hom.getD r 0)).find? (fun p => decide (0 < gI f p)) = (way s.par (s.hom.getD r 0)).find? (fun p => decide (pl.count (some p) < s.cap.getD p 0)) := by
  apply find_congr
  intro p hp
  have := R.at' p (T.way_mem hp hh)
  rw [this]
  by_cases h : pl.count (some p) < s.cap.getD p 0
  · rw [decide_eq_true h, decide_eq_true (by omega)]
  · rw [decide_eq_false h, decide_eq_false (by omega)]
theorem RoomIs.set {s : Su} {pl : List (Option Nat)} {f : List Int} (R : RoomIs s pl f) {r q : Nat} (hr : r < pl.length) (hn : pl.getD r none = none) (hq : q < s.par.length) : RoomIs s (pl.set r (some q)) (f.set q (gI f q - 1)) := by
  refine ⟨by rw [List.length_set]; exact R.len, fun p hp => ?_⟩
  have h1 := count_set (l := pl) (r := r) (x := some q) (y := some p) hr
  rw [gI_dec (by rw [R.len]; exact hq), R.at' p hp]
  rw [hn] at h1
  unfold ind
  by_cases e : p = q
  · subst e; simp at h1 ⊢; omega
  · have e' : ¬ q = p := fun h => e h.symm
    simp [e'] at h1; simp [e, h1]
theorem set_same {pl : List (Option Nat)} {r : Nat} (hr : r < pl.length) (hn : pl.getD r none = none) : pl.set r none = pl := by
  apply List.ext_getElem
  · simp
  · intro i h1 h2
    rw [List.getElem_set]
    split
    · rename_i e
      subst e
      rw [List.getD_eq_getElem?_getD, List.getElem?_eq_getElem hr] at hn
      exact hn.symm
    · rfl
theorem fill_eq {s : Su} (ok : s.Ok) {pl : List (Option Nat)} (hp : IsPl s pl) {rs : List Nat} (hr : IsReq s pl rs) : PH lt (n + 7) 28 [suD s, .tup (pl.map oD), .lst (rs.map nD)] = .ok false (.tup ((fillAll s pl rs).map oD)) [] := by
  have hm := ok.homs
  refine PH_eq F28 rfl rfl ?_
  dsimp! [F28]
  simp! [r15, room_left_eq ok hp, r27, check_requests_eq ok hp.len hr]
  refine post_for (fun pre ρ => ∃ (f : List Int) (v4 v5 : Option FB.Slot), RoomIs s (fillAll s pl pre) f ∧ IsPl s (fillAll s pl pre) ∧ ρ = [some ⟨false, suD s⟩, some ⟨false, .tup ((fillAll s pl pre).map oD)⟩, some ⟨false, .lst (rs.map nD)⟩, some ⟨true, .lst (f.map .int)⟩, v4, v5])
    ⟨_, none, none, hp.room ok, hp, rfl⟩ ?_ ?_
  · rintro pre r post e ρ ⟨f, v4, v5, R, hpl, rfl⟩
    have hrm : r ∈ rs := by rw [e]; simp
    have h1 := hr.lt r hrm
    have hnp : r ∉ pre := by
      have := hr.nd
      rw [e] at this
      have h2 := List.nodup_append.mp this
      intro hm
      exact h2.2.2 r hm r List.mem_cons_self rfl
    have hn : (fillAll s pl pre).getD r none = none := by rw [fillAll_ne s pre pl hnp]; exact hr.getD hrm
    have hl : r < (fillAll s pl pre).length := by rw [hpl.len]; exact h1
    have hh := ok.good.hom_lt h1
    have ef : fillAll s pl (pre ++ [r]) = beg s (fillAll s pl pre) r := by unfold fillAll; rw [List.foldl_append]; rfl
    rw [ef]
    have hb := beg_room R ok.T hh
    have hI := hpl.beg hl hn
    simp! [r19, first_room_eq ok R.len h1, snap_oD, isNon_oD]
    unfold beg at hI ⊢
    rw [hb]
    cases hf : (way s.par (s.hom.getD r 0)).find? (fun p => decide ((fillAll s pl pre).count (some p) < s.cap.getD p 0)) with
    | none =>
      rw [hf] at hI
      have e3 := with_pool_eq (lt := lt) (n := n + 5) hl (by rw [hpl.len]; omega) none
      rw [set_same hl hn] at e3
      simp! [d3, r18, show PH lt (n + 6) 18 [.tup ((fillAll s pl pre).map oD), .int r, .non] = _ from e3]
      exact ⟨f, _, _, R, hI, rfl⟩
    | some q =>
      rw [hf] at hI
      have hq : q < s.par.length := ok.T.way_mem (List.mem_of_find?_eq_some hf) hh
      have hqf : q < f.length := by rw [R.len]; exact hq
      have e3 := with_pool_eq (lt := lt) (n := n + 5) hl (by rw [hpl.len]; omega) (some q)
      simp! [show ¬ (some q = (none : Option Nat)) from (fun h => nomatch h), at_I hqf, set_I hqf, r18, show PH lt (n + 6) 18 [.tup ((fillAll s pl pre).map oD), .int r, .int q] = _ from e3]
      exact ⟨f.set q (gI f q - 1), _, _, R.set hl hn hq, hI, rfl⟩
  · rintro ρ ⟨f, v4, v5, R, hpl, rfl⟩
    simp! []
    exact is_rfl
def loadsOf (s : Su) (pl : List (Option Nat)) : List Nat := (List.range s.par.length).map fun p => pl.count (some p)
theorem loads_eq {s : Su} (ok : s.Ok) {pl : List (Option Nat)} (hp : IsPl s pl) : PH lt (n + 7) 25 [suD s, .tup (pl.map oD)] = .ok true (.lst ((loadsOf s pl).map nD)) [] := by
  have sm := ok.small
  have R := hp.room ok
  refine PH_eq F25 rfl rfl ?_
  dsimp! [F25]
  simp! [r15, room_left_eq ok hp]
  refine post_map (fun p : Nat × Int => some (.int ((p.1 : Int) - p.2))) ?_ ?_
  · rintro ⟨x, y⟩ _
    simp! []
  rw [filterMap_some (e := fun p : Nat × Int => D.int ((p.1 : Int) - p.2))]
  have e : (s.cap.zip (roomOf s.cap pl)).map (fun p : Nat × Int => D.int ((p.1 : Int) - p.2)) = (loadsOf s pl).map nD := by
    apply List.ext_getElem
    · simp [loadsOf, ok.cap, R.len]
    · intro i h1 h2
      have hi : i < s.par.length := by simpa [loadsOf] using h2
      have hc : i < s.cap.length := by rw [ok.cap]; exact hi
      have hr : i < (roomOf s.cap pl).length := by rw [R.len]; exact hi
      have h3 := R.at' i hi
      unfold gI at h3
      rw [List.getD_eq_getElem?_getD, List.getElem?_eq_getElem hr, List.getD_eq_getElem?_getD, List.getElem?_eq_getElem hc] at h3
      simp only [Option.getD_some] at h3
      simp only [List.getElem_map, List.getElem_zip, loadsOf, List.getElem_range, nD]
      congr 1; omega
  rw [e]
  simp! [compE_ok (show (List.map nD (loadsOf s pl)).length ≤ SZ by simp [loadsOf]; show _ ≤ 16777216; omega)]
  exact is_rfl
/-! ### fills and flows -/
theorem Sq.full {par : Par} {room cnt left : Nat → Int} {ref : Int} {f : Nat → Int} (S : Sq par room cnt left ref f) {p : Nat} (hp : p < par.length) : fullB par (fun p => cnt p - room p) f p = !decide (0 < left p) := by
  have := S.left p hp
  unfold fullB
  by_cases e : 0 ≤ xs par (fun p => cnt p - room p) f p
  · simp [e]; omega
  · simp [e]; omega
theorem takeWhile_congr {b c : Nat → Bool} : ∀ {l : List Nat}, (∀ p ∈ l, b p = c p) → l.takeWhile b = l.takeWhile c
  | [], _ => rfl
  | a :: l, h => by
    rw [List.takeWhile_cons, List.takeWhile_cons, h a List.mem_cons_self, takeWhile_congr fun p hp => h p (List.mem_cons_of_mem _ hp)]
/-- the requests' homes -/
def homesOf (s : Su) (rs : List Nat) : List Nat := rs.map fun r => s.hom.getD r 0
/-- the pools that a request passes when it begins -/
def passed (s : Su) (pl : List (Option Nat)) (r : Nat) : List Nat := (way s.par (s.hom.getD r 0)).takeWhile (fun p => !decide (pl.count (some p) < s.cap.getD p 0))
/-- some requests have begun: f counts what passed each pool -/
structure FS (s : Su) (pl : List (Option Nat)) (pre : List Nat) (f : Nat → Int) : Prop where
  sq : ∃ left, Sq s.par (gI (roomOf s.cap pl)) (fun p => ((homesOf s pre).count p : Nat)) left (f 0) f ∧ ∀ p, p < s.par.length → left p = ((s.cap.getD p 0 : Nat) : Int) - ((fillAll s pl pre).count (some p) : Nat)
  ref : ((pre.filter fun r => decide ((fillAll s pl pre).getD r none = none)).length : Int) = f 0
theorem FS.init {s : Su} (ok : s.Ok) {pl : List (Option Nat)} (hp : IsPl s pl) : FS s pl [] (fun _ => 0) := by
  have R := hp.room ok
  refine ⟨⟨gI (roomOf s.cap pl), (Sq.init fun p h => ?_).congr (fun p => by simp [homesOf]) (fun p _ => rfl) rfl, fun p h => R.at' p h⟩, rfl⟩
  rw [R.at' p h]
  have := hp.cap p h
  omega
theorem fillAll_snoc (s : Su) (pl : List (Option Nat)) (pre : List Nat) (r : Nat) : fillAll s pl (pre ++ [r]) = beg s (fillAll s pl pre) r := by unfold fillAll; rw [List.foldl_append]; rfl
theorem beg_self {s : Su} {pl : List (Option Nat)} {r : Nat} (hr : r < pl.length) (hn : pl.getD r none = none) : (beg s pl r).getD r none = (way s.par (s.hom.getD r 0)).find? (fun p => decide (pl.count (some p) < s.cap.getD p 0)) := by
  unfold beg
  split
  · rename_i q hq
    rw [hq, List.getD_eq_getElem?_getD, List.getElem?_set_self hr]; rfl
  · rename_i hq
    rw [hq]; exact hn
theorem FS.step {s : Su} (ok : s.Ok) {pl : List (Option Nat)} {pre : List Nat} {f : Nat → Int} (F : FS s pl pre f) {r : Nat} (hr : r < s.hom.length) (hl : r < (fillAll s pl pre).length) (hn : (fillAll s pl pre).getD r none = none) (hnp : r ∉ pre) :
    ∃ f', FS s pl (pre ++ [r]) f' ∧ ∀ p, f' p = f p + inds (passed s (fillAll s pl pre) r) p := by
  obtain ⟨left, S, hleft⟩ := F.sq
  have hh := ok.good.hom_lt hr
  have hb : ∀ p ∈ way s.par (s.hom.getD r 0), decide (0 < left p) = decide ((fillAll s pl pre).count (some p) < s.cap.getD p 0) := by
    intro p hp
    rw [hleft p (ok.T.way_mem hp hh)]
    by_cases h : (fillAll s pl pre).count (some p) < s.cap.getD p 0
    · rw [decide_eq_true h, decide_eq_true (by omega)]
    · rw [decide_eq_false h, decide_eq_false (by omega)]
  have hpass : pass s.par (fun p => ((homesOf s pre).count p : Nat) - gI (roomOf s.cap pl) p) f (s.hom.getD r 0) = passed s (fillAll s pl pre) r := by
    unfold pass passed
    apply takeWhile_congr
    intro p hp
    rw [← hb p hp]
    exact S.full (ok.T.way_mem hp hh)
  have hst := S.step ok.T hh
  rw [find_congr hb] at hst
  have hcnt : ∀ p, ((homesOf s pre).count p : Int) + ind (s.hom.getD r 0) p = ((homesOf s (pre ++ [r])).count p : Nat) := by
    intro p
    rw [show homesOf s (pre ++ [r]) = homesOf s pre ++ [s.hom.getD r 0] by unfold homesOf; rw [List.map_append]; rfl, List.count_append, List.count_singleton, Int.natCast_add]
    unfold ind
    generalize s.hom.getD r 0 = h
    by_cases e : p = h
    · subst e; simp
    · have : ¬ (h == p) = true := by simp; exact fun e' => e e'.symm
      rw [if_neg e, if_neg this]; rfl
  have hfil : ∀ x ∈ pre, (beg s (fillAll s pl pre) r).getD x none = (fillAll s pl pre).getD x none := fun x hx => beg_ne s _ fun e => hnp (e ▸ hx)
  have hself := beg_self (s := s) hl hn
  have hfl : (pre.filter fun x => decide ((beg s (fillAll s pl pre) r).getD x none = none)) = pre.filter fun x => decide ((fillAll s pl pre).getD x none = none) := by
    apply List.filter_congr
    intro x hx
    rw [hfil x hx]
  cases hf : (way s.par (s.hom.getD r 0)).find? (fun p => decide ((fillAll s pl pre).count (some p) < s.cap.getD p 0)) with
  | some q =>
    obtain ⟨f', S', ef⟩ := hst.1 q hf
    rw [hf] at hself
    refine ⟨f', ⟨⟨_, S'.congr hcnt (fun p _ => rfl) ?_, fun p hp => ?_⟩, ?_⟩, fun p => by rw [ef, hpass]⟩
    · exact S'.ref
    · rw [fillAll_snoc, hleft p hp]
      unfold beg
      rw [hf]
      have h1 := count_set (l := fillAll s pl pre) (r := r) (x := some q) (y := some p) hl
      rw [hn] at h1
      unfold ind
      by_cases e : p = q
      · subst e; simp at h1 ⊢; omega
      · have e' : ¬ q = p := fun h => e h.symm
        simp [e'] at h1; simp [e, h1]
    · rw [fillAll_snoc, List.filter_append, hfl]
      have e0 : ([r].filter fun x => decide ((beg s (fillAll s pl pre) r).getD x none = none)) = [] := by
        rw [List.filter_cons, hself]; simp
      rw [e0, List.append_nil, F.ref, ← S'.ref]
  | none =>
    obtain ⟨f', S', ef⟩ := hst.2 hf
    rw [hf] at hself
    refine ⟨f', ⟨⟨_, S'.congr hcnt (fun p _ => rfl) ?_, fun p hp => ?_⟩, ?_⟩, fun p => by rw [ef, hpass]⟩
    · exact S'.ref
    · rw [fillAll_snoc, hleft p hp]
      unfold beg
      rw [hf]
    · rw [fillAll_snoc, List.filter_append, hfl]
      have e0 : ([r].filter fun x => decide ((beg s (fillAll s pl pre) r).getD x none = none)) = [r] := by
        rw [List.filter_cons, hself]; simp
      rw [e0, List.length_append, Int.natCast_add, F.ref, ← S'.ref]; rfl
theorem FS.flow {s : Su} {pl : List (Option Nat)} {pre : List Nat} {f : Nat → Int} (F : FS s pl pre f) : IsFlow s.par (fun p => ((homesOf s pre).count p : Nat) - gI (roomOf s.cap pl) p) f := by
  obtain ⟨left, S, _⟩ := F.sq
  exact S.flow
/-- the loads do not depend on the order -/
theorem FS.loads {s : Su} (ok : s.Ok) {pl : List (Option Nat)} {a b : List Nat} {f g : Nat → Int} (F : FS s pl a f) (G : FS s pl b g) (h : a.Perm b) : (∀ p, p < s.par.length → f p = g p) ∧ loadsOf s (fillAll s pl a) = loadsOf s (fillAll s pl b) := by
  obtain ⟨left, S, hl⟩ := F.sq
  obtain ⟨left', S', hl'⟩ := G.sq
  have hc : ∀ p, (homesOf s a).count p = (homesOf s b).count p := fun p => (h.map _).count_eq p
  have hfg := S.flow.unique ok.T (S'.flow.congr (fun p _ => by show ((((homesOf s b).count p : Nat) : Int) - _) = (((homesOf s a).count p : Nat) : Int) - _; rw [hc]) fun p _ => rfl)
  refine ⟨hfg, ?_⟩
  unfold loadsOf
  apply List.map_congr_left
  intro p hp
  have hp : p < s.par.length := by simpa using hp
  have h1 := S.left p hp
  have h2 := S'.left p hp
  have h3 : xs s.par (fun p => ((homesOf s a).count p : Nat) - gI (roomOf s.cap pl) p) f p = xs s.par (fun p => ((homesOf s b).count p : Nat) - gI (roomOf s.cap pl) p) g p := by
    show ((((homesOf s a).count p : Nat) : Int) - _ + _) = (((homesOf s b).count p : Nat) : Int) - _ + _
    rw [hc, kids_congr fun c hc _ => hfg c hc]
  rw [h3] at h1
  have h4 := hl p hp
  have h5 := hl' p hp
  omega
theorem fillAll_FS {s : Su} (ok : s.Ok) {pl : List (Option Nat)} (hp : IsPl s pl) {rs : List Nat} (hr : IsReq s pl rs) : ∃ f, FS s pl rs f := by
  have key : ∀ post pre : List Nat, rs = pre ++ post → (∃ f, FS s pl pre f) → ∃ f, FS s pl rs f := by
    intro post
    induction post with
    | nil => intro pre e h; rw [List.append_nil] at e; rw [e]; exact h
    | cons r post ih =>
      intro pre e h
      obtain ⟨f, F⟩ := h
      have hrm : r ∈ rs := by rw [e]; simp
      have hnp : r ∉ pre := by
        have := hr.nd
        rw [e] at this
        have h2 := List.nodup_append.mp this
        intro hm
        exact h2.2.2 r hm r List.mem_cons_self rfl
      have hn : (fillAll s pl pre).getD r none = none := by rw [fillAll_ne s pre pl hnp]; exact hr.getD hrm
      have hlen : ∀ (l : List Nat) (pl : List (Option Nat)), (fillAll s pl l).length = pl.length := by
        intro l
        induction l with
        | nil => intro pl; rfl
        | cons x l ih => intro pl; rw [show fillAll s pl (x :: l) = fillAll s (beg s pl x) l from rfl, ih, beg_len]
      obtain ⟨f', F', _⟩ := F.step ok (hr.lt r hrm) (by rw [hlen, hp.len]; exact hr.lt r hrm) hn hnp
      exact ih (pre ++ [r]) (by rw [e]; simp) ⟨f', F'⟩
  exact key rs [] rfl ⟨_, FS.init ok hp⟩
/-- two lists of numbers are one -/
theorem ext_gI {a b : List Int} {m : Nat} (ha : a.length = m) (hb : b.length = m) (h : ∀ p, p < m → gI a p = gI b p) : a = b := by
  apply List.ext_getElem
  · omega
  · intro i h1 h2
    have := h i (by omega)
    unfold gI at this
    rwa [List.getD_eq_getElem?_getD, List.getD_eq_getElem?_getD, List.getElem?_eq_getElem h1, List.getElem?_eq_getElem h2] at this
/-- overflows is the flow -/
theorem over_flow {s : Su} (ok : s.Ok) (pl : List (Option Nat)) {rs : List Nat} (hr : ∀ r ∈ rs, r < s.hom.length) :
    (passAll s.par (gI (roomOf s.cap pl)) (counts s.par.length (homesOf s rs))).length = s.par.length ∧ IsFlow s.par (fun p => ((homesOf s rs).count p : Nat) - gI (roomOf s.cap pl) p) (gI (passAll s.par (gI (roomOf s.cap pl)) (counts s.par.length (homesOf s rs)))) := by
  have h := pass_flow ok.T (room := gI (roomOf s.cap pl)) (counts_len s.par.length (homesOf s rs))
  have hh : ∀ x ∈ homesOf s rs, x < s.par.length := fun x hx => by
    obtain ⟨r, h1, rfl⟩ := List.mem_map.mp hx
    exact ok.good.hom_lt (hr r h1)
  exact ⟨h.1, h.2.congr (fun p hp => by rw [counts_at hh hp]) fun _ _ => rfl⟩
/-! ### sorted -/
theorem insI_sorted (x : Int) : ∀ {l : List Int}, l.Pairwise (· ≤ ·) → (insI x l).Pairwise (· ≤ ·)
  | [], _ => by unfold insI; simp
  | y :: l, h => by
    have h1 := List.pairwise_cons.mp h
    unfold insI
    split
    · rename_i hxy
      exact List.pairwise_cons.mpr ⟨fun z hz => by rcases List.mem_cons.mp hz with e | hz; (· rw [e]; exact hxy); (· exact Int.le_trans hxy (h1.1 z hz)), h⟩
    · rename_i hxy
      refine List.pairwise_cons.mpr ⟨fun z hz => ?_, insI_sorted x h1.2⟩
      rcases List.mem_cons.mp ((insI_perm x l).subset hz) with e | hz
      · rw [e]; omega
      · exact h1.1 z hz
theorem sortI_sorted : ∀ l : List Int, (sortI l).Pairwise (· ≤ ·)
  | [] => List.Pairwise.nil
  | x :: l => insI_sorted x (sortI_sorted l)
theorem sortI_eq {a b : List Int} (h : a.Perm b) (hb : b.Pairwise (· ≤ ·)) : sortI a = b :=
  List.Perm.eq_of_pairwise (le := (· ≤ ·)) (fun x y _ _ h1 h2 => Int.le_antisymm h1 h2) (sortI_sorted a) hb ((sortI_perm a).trans h)
theorem ints_map (l : List Int) : intsD (l.map D.int) = some l := by
  induction l with
  | nil => rfl
  | cons a l ih => rw [List.map_cons]; unfold intsD; rw [ih]; rfl
theorem sorted_nat {a b : List Nat} (h : a.Perm b) (hb : b.Pairwise (· ≤ ·)) : bltD .sorted [.lst (a.map nD)] = some (true, .lst (b.map nD)) := by
  unfold bltD
  dsimp only
  rw [nI_nD, ints_map]
  dsimp only
  rw [sortI_eq (b := b.map Int.ofNat) (h.map _) (List.pairwise_map.mpr (hb.imp fun h => Int.ofNat_le.mpr h)), nI_nD]
end
end FB

set_option Elab.async false
set_option linter.all false
set_option maxRecDepth 100000
set_option maxHeartbeats 400000
namespace FB
local macro_rules | `(tactic| simp! [$ts,*]) => `(tactic| simp -implicitDefEqProofs -dsimp only [th, ks, kn, Ka0, Ka1, Kb0, Kb1, Kb2, Kb3, Kb4, Kb5, Kb6, Kb7, Kb8, Kb9, Kb10, Kb11, Kc0, Kc1, Kc2, Kc3, Kc4, Kc5, Kc6, Kc7, Kc8, Kc9, Ke0, e1, e2, Ke3, Ke4, e4', Ke5, Ke6, Ke7, Ke8, Ke9, Ke10, Ke11, Ke12, Ke13, Ke14, Ke15, Ke16, Ke17, Ke17b, Ke18, Ke19, Ke20, Ke21, Ke22, Ke23, Ke24, Ke25, t0, Kt1, Kt2, t3, l0, Kl1, l2, Kl3, l4, Kl5, Kl5a, Kl5b, Kl6, o0, Ko1, o2, Ki0, Ki1, i1', Ki2, Ki3, Ki4, Ki5, s0, Ks1, Ks2, Ks3, s3', Ks4, Ks5, Ks6, Ks7, Ks8, Ks8', Ks9, Ks10, Ks11, s12, Ks13, Ks14, s15, s16, s17, s18, Kf0, Kf1, f3, nd0, nd1, body_name, Kbody_tup, setTg_name, setTg_2, setTg_3, mk0, mk1, w0, w1, k0, k1, p0, p1, p2, p3, p4, n0, n1, n2, q0, q1, q2, q3, q4, pt0, pc0, d0, d1, d2, d4, d5, d7, d8, d9, d10, d11, d12, d13, d14, d15, x0, x1, range_0, rangeC_down, enum_map, zip_map, g0, g1, h0, h1, h2, h3, h4, h5, h6, h7, h8, h9, u0, u1, u2, u3, u4, u5, u6, u7, u8, u9, u10, u11, Kct0, Kct1, mo0, mo1, mo2, mo3, mo4, Kmo5, Kmo6, Kmo7, Kmo8, mo9, Kv0, Kv1, Kv2, Kv3, Kv4, Kv5, va0, va1, va2, rd0, rd1, rd2, sl0, sl1, ow0, ow1, fz0, fz1, fz2, fz3, fz4, re0, re1, re2, re3, re4, st0, st1, st2, pv0, pv1, il0, it0, it1, po0, po1, po2, po3, so0, so1, so2, so3, ou0, ou1, ou2, is0, is1, is2, is3, is4, is6, is7, AV.d, List.getElem?_cons_zero, List.getElem?_cons_succ, List.set_cons_zero, List.set_cons_succ, List.map_cons, List.map_nil, List.mapM_cons, List.mapM_nil, Option.pure_def, Option.bind_eq_bind, Option.bind_some, Option.map_some, Option.map_none, Option.getD_some, Option.getD_none, List.length_cons, List.length_nil, List.length_map, List.replicate, Bool.false_eq_true, Bool.true_and, Bool.and_true, Bool.false_and, Bool.and_false, Bool.not_true, Bool.not_false, Bool.and_self, if_false, if_true, decide_true, decide_false, $ts,*])
local macro_rules | `(tactic| dsimp! [$ts,*]) => `(tactic| simp -implicitDefEqProofs -dsimp only [$ts,*, List.length_cons, List.length_nil, Nat.reduceAdd, Nat.reduceSub, List.replicate, List.cons_append, List.nil_append, List.append_nil])
open PySem
/-! ### the loop that counts what comes to each pool -/
def ov (room g : Nat → Int) (p : Nat) : Int := max 0 (g p - room p)
def inStep (par : Par) (room : Nat → Int) (f : List Int) (p : Nat) : List Int := match up par p with
  | some q => f.set q (gI f q + ov room (gI f) p)
  | none => f
theorem inStep_len (par : Par) (room : Nat → Int) (f : List Int) (p : Nat) : (inStep par room f p).length = f.length := by unfold inStep; split <;> simp
def inAll (par : Par) (room : Nat → Int) (f : List Int) : List Int := ((List.range' 1 (par.length - 1)).reverse).foldl (inStep par room) f
structure NInv (par : Par) (room : Nat → Int) (f0 : Nat → Int) (m : Nat) (g : List Int) : Prop where
  len : g.length = par.length
  eq : ∀ p, p < par.length → gI g p = f0 p + (kids par p (ov room (gI g)) par.length - kids par p (ov room (gI g)) m)
theorem NInv.step {par : Par} (T : Tree par) {room f0 : Nat → Int} {m : Nat} {g : List Int} (h0 : 0 < m) (hm : m < par.length) (I : NInv par room f0 (m + 1) g) : NInv par room f0 m (inStep par room g m) := by
  obtain ⟨q, hq, hlt⟩ := T.upS h0 hm
  have hl := I.len
  have hql : q < g.length := by omega
  have e1 : inStep par room g m = g.set q (gI g q + ov room (gI g) m) := by unfold inStep; rw [hq]
  have at' : ∀ p, gI (inStep par room g m) p = if p = q then gI g q + ov room (gI g) m else gI g p := fun p => by rw [e1, gI_set hql]
  have hge : ∀ c, m ≤ c → gI (inStep par room g m) c = gI g c := fun c hc => by rw [at', if_neg (by omega)]
  have hov : ∀ c, m ≤ c → ov room (gI (inStep par room g m)) c = ov room (gI g) c := fun c hc => by unfold ov; rw [hge c hc]
  refine ⟨by rw [inStep_len]; exact hl, fun p hp => ?_⟩
  have ek := kids_sub_congr (par := par) (p := p) (f := ov room (gI (inStep par room g m))) (g := ov room (gI g)) (a := m) (b := par.length) (by omega) fun c h1 h2 _ => hov c h1
  have h3 := I.eq p hp
  rw [kids_succ (n := m), hq] at h3
  rw [at' p]
  by_cases e : p = q
  · subst e
    rw [if_pos rfl] at h3 ⊢
    omega
  · rw [if_neg (show ¬ some q = some p from fun h => e (Option.some.inj h).symm)] at h3
    rw [if_neg e]
    omega
theorem inAll_flow {par : Par} (T : Tree par) {room : Nat → Int} {f : List Int} (hl : f.length = par.length) :
    (inAll par room f).length = par.length ∧ IsFlow par (fun p => gI f p - room p) (ov room (gI (inAll par room f))) ∧ ∀ p, p < par.length → xs par (fun p => gI f p - room p) (ov room (gI (inAll par room f))) p = gI (inAll par room f) p - room p := by
  have hpos := T.pos
  have key : ∀ m g, m + 1 ≤ par.length → NInv par room (gI f) (m + 1) g → NInv par room (gI f) 1 ((List.range' 1 m).foldr (fun p f => inStep par room f p) g) := by
    intro m
    induction m with
    | zero => intro g _ h; exact h
    | succ m ih =>
      intro g hm h
      rw [List.range'_concat, List.foldr_append]
      refine ih _ (by omega) ?_
      have := h.step T (by omega) (by omega)
      rw [show 1 + 1 * m = m + 1 by omega]
      exact this
  have h := key (par.length - 1) f (by omega) ⟨hl, fun p hp => by rw [show par.length - 1 + 1 = par.length by omega]; omega⟩
  have e : inAll par room f = (List.range' 1 (par.length - 1)).foldr (fun p f => inStep par room f p) f := by unfold inAll; rw [List.foldl_reverse]
  rw [← e] at h
  have hx : ∀ p, p < par.length → gI (inAll par room f) p = gI f p + kids par p (ov room (gI (inAll par room f))) par.length := fun p hp => by
    have := h.eq p hp
    rw [show kids par p (ov room (gI (inAll par room f))) 1 = 0 by rw [kids_succ, T.up0]; rfl] at this
    omega
  refine ⟨h.len, fun p hp => ?_, fun p hp => ?_⟩
  · have := hx p hp
    show max 0 (gI (inAll par room f) p - room p) = max 0 (gI f p - room p + kids par p (ov room (gI (inAll par room f))) par.length)
    congr 1; omega
  · have := hx p hp
    show gI f p - room p + kids par p (ov room (gI (inAll par room f))) par.length = _
    omega
section
variable {lt : List FDef} {n t : Nat}
theorem r30 : (cfgG lt).raws 30 = some [false, false, false] := rfl
theorem r31 : (cfgG lt).raws 31 = some [false, false, false] := rfl
theorem r33 : (cfgG lt).raws 33 = some [false, false, false] := rfl
theorem r54 : (cfgG lt).raws 54 = some [false, false, false] := rfl
theorem r56 : (cfgG lt).raws 56 = some [false, false, false] := rfl
theorem r59 : (cfgG lt).raws 59 = some [false, false] := rfl
theorem r78 : (cfgG lt).raws 78 = some [false, false] := rfl
theorem r79 : (cfgG lt).raws 79 = some [false, false, false] := rfl
theorem r80 : (cfgG lt).raws 80 = some [false, false, false] := rfl
theorem r81 : (cfgG lt).raws 81 = some [false, false] := rfl
/-- the requests that are not active -/
def freeOf (pl : List (Option Nat)) : List Nat := (List.range pl.length).filter fun r => decide (pl.getD r none = none)
def othersOf (pl : List (Option Nat)) (x : Nat) : List Nat := (List.range pl.length).filter fun r => decide (pl.getD r none = none) && decide (r ≠ x)
theorem ne_int {a b : Nat} : (!((a : Int) == (b : Int))) = decide (a ≠ b) := by
  by_cases h : a = b
  · subst h; simp
  · have : ((a : Int) == (b : Int)) = false := by simp; omega
    rw [this]; simp [h]
theorem others_of_eq {s : Su} (hm : s.hom.length ≤ 60) {pl : List (Option Nat)} (hl : pl.length = s.hom.length) {x : Nat} : PH lt (n + 2) 30 [suD s, .tup (pl.map oD), .int x] = .ok true (.lst ((othersOf pl x).map nD)) [] := by
  refine PH_eq F30 rfl rfl ?_
  dsimp! [F30]
  simp! [len_eq, f4 (show (0 : Int) ≤ s.hom.length ∧ (s.hom.length : Int) < 1000000 by omega), rngV_ok (show s.hom.length ≤ 1000000 by omega)]
  refine post_map (fun r : Nat => if (decide (pl.getD r none = none) && decide (r ≠ x)) then some (nD r) else none) ?_ ?_
  · intro r hr
    have hr' : r < pl.length := by rw [hl]; simpa using hr
    simp! [at_O hr', isNon_oD]
    by_cases h : pl.getD r none = none
    · simp! [h, ne_int]
      by_cases h2 : r ≠ x
      · simp! [h2]
        simp! []
      · simp! [h2]
    · simp! [h]
  rw [filterMap_enc, ← hl]
  have hc : ((List.range pl.length).filter fun r => decide (pl.getD r none = none) && decide (r ≠ x)).length ≤ SZ := by
    have := List.length_filter_le (fun r => decide (pl.getD r none = none) && decide (r ≠ x)) (List.range pl.length)
    rw [List.length_range] at this
    show _ ≤ 16777216; omega
  simp! [compE_ok (show (((List.range pl.length).filter fun r => decide (pl.getD r none = none) && decide (r ≠ x)).map nD).length ≤ SZ by rw [List.length_map]; exact hc)]
  exact is_rfl
theorem mem_free {pl : List (Option Nat)} {r : Nat} : r ∈ freeOf pl ↔ r < pl.length ∧ pl.getD r none = none := by
  unfold freeOf; rw [List.mem_filter, List.mem_range]; simp
theorem mem_others {pl : List (Option Nat)} {r x : Nat} : r ∈ othersOf pl x ↔ r < pl.length ∧ pl.getD r none = none ∧ r ≠ x := by
  unfold othersOf; rw [List.mem_filter, List.mem_range]; simp
theorem free_get {pl : List (Option Nat)} {r : Nat} (h : r < pl.length) (h2 : pl.getD r none = none) : pl[r]? = some none := by
  rw [List.getD_eq_getElem?_getD, List.getElem?_eq_getElem h] at h2
  rw [List.getElem?_eq_getElem h]
  exact congrArg some h2
theorem free_req {s : Su} {pl : List (Option Nat)} (hl : pl.length = s.hom.length) : IsReq s pl (freeOf pl) :=
  ⟨fun r hr => by rw [← hl]; exact (mem_free.mp hr).1, List.nodup_range.filter _, fun r hr => free_get (mem_free.mp hr).1 (mem_free.mp hr).2⟩
theorem others_req {s : Su} {pl : List (Option Nat)} (hl : pl.length = s.hom.length) (x : Nat) : IsReq s pl (othersOf pl x) :=
  ⟨fun r hr => by rw [← hl]; exact (mem_others.mp hr).1, List.nodup_range.filter _, fun r hr => free_get (mem_others.mp hr).1 (mem_others.mp hr).2.1⟩
/-- the flow when some requests begin -/
def netOf (s : Su) (pl : List (Option Nat)) (rs : List Nat) (p : Nat) : Int := ((homesOf s rs).count p : Nat) - gI (roomOf s.cap pl) p
def flowOf (s : Su) (pl : List (Option Nat)) (rs : List Nat) : Nat → Int := gI (passAll s.par (gI (roomOf s.cap pl)) (counts s.par.length (homesOf s rs)))
def fullOf (s : Su) (pl : List (Option Nat)) (rs : List Nat) (p : Nat) : Bool := fullB s.par (netOf s pl rs) (flowOf s pl rs) p
theorem flowOf_is {s : Su} (ok : s.Ok) (pl : List (Option Nat)) {rs : List Nat} (hr : ∀ r ∈ rs, r < s.hom.length) : IsFlow s.par (netOf s pl rs) (flowOf s pl rs) := (over_flow ok pl hr).2
theorem fullB_congr {par : Par} (T : Tree par) {net net' f f' : Nat → Int} (h : IsFlow par net f) (h' : IsFlow par net' f') (hn : ∀ p, p < par.length → net p = net' p) {p : Nat} (hp : p < par.length) : fullB par net f p = fullB par net' f' p := by
  have := h.unique T (h'.congr (fun p hp => (hn p hp).symm) fun _ _ => rfl)
  unfold fullB xs
  rw [hn p hp, kids_congr fun c hc _ => this c hc]
theorem rangeC_1 : ∀ (m : Nat), rangeC (m : Int) (-1) m = (List.range' 1 m).reverse.map nD
  | 0 => rfl
  | m + 1 => by
    show D.int ((m + 1 : Nat) : Int) :: rangeC (((m + 1 : Nat) : Int) + (-1)) (-1) m = _
    rw [show (((m + 1 : Nat) : Int) + (-1)) = (m : Int) by omega, rangeC_1 m, List.range'_concat, List.reverse_append, List.map_append]
    rw [show 1 + 1 * m = m + 1 by omega]
    rfl
theorem rngC_1 {ρ : FB.Env} {m : Nat} (h0 : 0 < m) (h : m ≤ 1000) : rngC ((m : Int) - 1) 0 ρ = .ok ((List.range' 1 (m - 1)).reverse.map nD) ρ := by
  unfold rngC
  rw [small_ok (by omega) (by omega), small_ok (by omega) (by omega)]
  rw [show (((m : Int) - 1) - 0).toNat = m - 1 by omega, show ((m : Int) - 1) = ((m - 1 : Nat) : Int) by omega, rangeC_1]
  rfl
theorem at_rangeB {F : Nat → Bool} {m p : Nat} (h : p < m) : FB.atI ((List.range m).map fun p => D.bl (F p)) (p : Int) = some (.bl (F p)) := by
  rw [at_map (f := List.range m) (e := fun p => D.bl (F p)) (by simpa using h) 0]
  rw [List.getD_eq_getElem?_getD, List.getElem?_range h]; rfl
theorem full_pools_eq {s : Su} (ok : s.Ok) {pl : List (Option Nat)} (hp : IsPl s pl) {rs : List Nat} (hr : ∀ r ∈ rs, r < s.hom.length) :
    PH lt (n + 2) 31 [suD s, .lst ((roomOf s.cap pl).map .int), .lst (rs.map nD)] = .ok true (.lst ((List.range s.par.length).map fun p => .bl (fullOf s pl rs p))) [] := by
  have sm := ok.small
  have hpos := ok.T.pos
  have R := hp.room ok
  have hh : ∀ x ∈ homesOf s rs, x < s.par.length := fun x hx => by
    obtain ⟨r, h1, rfl⟩ := List.mem_map.mp hx
    exact ok.good.hom_lt (hr r h1)
  have hA := inAll_flow ok.T (room := gI (roomOf s.cap pl)) (f := counts s.par.length (homesOf s rs)) (counts_len _ _)
  refine PH_eq F31 rfl rfl ?_
  dsimp! [F31]
  simp! [r4, size_eq, rep0 (show s.par.length ≤ 1000 by omega)]
  refine post_fold (fun f (v : Option FB.Slot) => [some ⟨false, suD s⟩, some ⟨false, .lst ((roomOf s.cap pl).map .int)⟩, some ⟨false, .lst (rs.map nD)⟩, some ⟨true, .lst (f.map .int)⟩, v, none])
    (fun f r => addAt f (s.hom.getD r 0)) (fun f => f.length = s.par.length) (List.replicate s.par.length 0) none rfl (by simp) ?_ ?_
  · intro r hrm f v hI
    have h1 := hr r hrm
    have h2 : s.hom.getD r 0 < f.length := by rw [hI]; exact ok.good.hom_lt h1
    simp! [at_N h1, at_I h2, set_I h2]
    exact ⟨_, rfl, by rw [addAt_len]; exact hI⟩
  intro v hI
  have ec : List.foldl (fun f r => addAt f (s.hom.getD r 0)) (List.replicate s.par.length 0) rs = counts s.par.length (homesOf s rs) := by unfold counts homesOf; rw [List.foldl_map]
  rw [ec]
  simp! [r4, size_eq, neg1, rngC_1 hpos (show s.par.length ≤ 1000 by omega)]
  refine post_fold (fun f (v' : Option FB.Slot) => [some ⟨false, suD s⟩, some ⟨false, .lst ((roomOf s.cap pl).map .int)⟩, some ⟨false, .lst (rs.map nD)⟩, some ⟨true, .lst (f.map .int)⟩, v, v'])
    (inStep s.par (gI (roomOf s.cap pl))) (fun f => f.length = s.par.length) (counts s.par.length (homesOf s rs)) none rfl (counts_len _ _) ?_ ?_
  · intro p hpm f v' hI
    have hp0 : 0 < p ∧ p < s.par.length := by
      have := List.mem_reverse.mp hpm
      rw [List.mem_range'_1] at this
      omega
    obtain ⟨q, hq, hlt⟩ := ok.T.upS hp0.1 hp0.2
    have hq' : s.par.getD p none = some q := hq
    have h1 : p < f.length := by omega
    have h2 : p < (roomOf s.cap pl).length := by rw [R.len]; exact hp0.2
    have hq2 : q < f.length := by omega
    simp! [at_O hp0.2, hq', at_I h1, at_I h2, at_I hq2, set_I hq2]
    refine ⟨some ⟨false, .int p⟩, ?_, by rw [inStep_len]; exact hI⟩
    unfold inStep
    rw [hq]; rfl
  intro v' _
  rw [show List.foldl (inStep s.par (gI (roomOf s.cap pl))) (counts s.par.length (homesOf s rs)) (List.range' 1 (s.par.length - 1)).reverse = inAll s.par (gI (roomOf s.cap pl)) (counts s.par.length (homesOf s rs)) from rfl]
  have hF := hA.2.1.congr (net' := netOf s pl rs) (fun p hp => by rw [counts_at hh hp]; rfl) (fun _ _ => rfl)
  have hX := hA.2.2
  have hL := hA.1
  have hfull : ∀ p, p < s.par.length → fullOf s pl rs p = decide (gI (roomOf s.cap pl) p ≤ gI (inAll s.par (gI (roomOf s.cap pl)) (counts s.par.length (homesOf s rs))) p) := by
    intro p hp'
    unfold fullOf
    rw [fullB_congr ok.T (flowOf_is ok pl hr) hA.2.1 (fun p hp => by rw [counts_at hh hp]; rfl) hp']
    unfold fullB
    rw [hX p hp']
    by_cases h : gI (roomOf s.cap pl) p ≤ gI (inAll s.par (gI (roomOf s.cap pl)) (counts s.par.length (homesOf s rs))) p
    · rw [decide_eq_true h, decide_eq_true (by omega)]
    · rw [decide_eq_false h, decide_eq_false (by omega)]
  generalize inAll s.par (gI (roomOf s.cap pl)) (counts s.par.length (homesOf s rs)) = g at *
  simp! [r4, size_eq, rngV_ok (show s.par.length ≤ 1000000 by omega)]
  refine post_map (fun p : Nat => some (.bl (fullOf s pl rs p))) ?_ ?_
  · intro p hpm
    have hp' : p < s.par.length := by simpa using hpm
    have h1 : p < g.length := by omega
    have h2 : p < (roomOf s.cap pl).length := by rw [R.len]; exact hp'
    simp! [at_I h1, at_I h2, hfull p hp']
  rw [filterMap_some (e := fun p : Nat => D.bl (fullOf s pl rs p))]
  simp! [compE_ok (show ((List.range s.par.length).map fun p : Nat => D.bl (fullOf s pl rs p)).length ≤ SZ by rw [List.length_map, List.length_range]; show _ ≤ 16777216; omega)]
  exact is_rfl
theorem check_free_eq {s : Su} (ok : s.Ok) {pl : List (Option Nat)} (hp : IsPl s pl) {r : Nat} (hr : r < s.hom.length) (hn : pl.getD r none = none) : PH lt (n + 6) 33 [suD s, .tup (pl.map oD), .int r] = .ok false .non [] := by
  have hrl : r < pl.length := by rw [hp.len]; exact hr
  refine PH_eq F33 rfl rfl ?_
  dsimp! [F33]
  simp! [r14, check_placement_eq ok hp, r11, check_request_eq s hr, at_O hrl, hn, d3]
  exact is_rfl
/-! ### groups -/
def wbStep (par : Par) (over : Nat → Int) (found : List Nat) (p : Nat) : List Nat := if (!decide (p ∈ found) && ((match up par p with | some q => decide (q ∈ found) | none => false) && decide (0 < over p))) = true then found ++ [p] else found
def withBranches (par : Par) (over : Nat → Int) (pools : List Nat) : List Nat := ((List.range' 1 (par.length - 1)).foldl (wbStep par over) pools).mergeSort (· ≤ ·)
theorem wbStep_len (par : Par) (over : Nat → Int) (found : List Nat) (p : Nat) : (wbStep par over found p).length ≤ found.length + 1 := by
  unfold wbStep
  generalize (!decide (p ∈ found) && _) = b
  cases b <;> simp
theorem sorted_ms (l : List Nat) : bltD .sorted [.lst (l.map nD)] = some (true, .lst ((l.mergeSort (· ≤ ·)).map nD)) := by
  refine sorted_nat (List.mergeSort_perm l _).symm ?_
  have := List.pairwise_mergeSort (le := fun a b : Nat => decide (a ≤ b)) (fun a b c h1 h2 => by simp at *; omega) (fun a b => by simp; omega) l
  exact this.imp fun h => by simpa using h
theorem with_branches_eq {s : Su} (ok : s.Ok) {over : List Int} (ho : over.length = s.par.length) {pools : List Nat} (hp : pools.length ≤ 1000) :
    PH lt (n + 2) 54 [suD s, .lst (over.map .int), .lst (pools.map nD)] = .ok false (.tup ((withBranches s.par (gI over) pools).map nD)) [] := by
  have sm := ok.small
  have hpos := ok.T.pos
  refine PH_eq F54 rfl rfl ?_
  dsimp! [F54]
  simp! [r4, size_eq, rngV_1 (show s.par.length ≤ 1000000 by omega)]
  refine post_for (fun pre ρ => ∃ (f : List Nat) (v : Option FB.Slot), f = pre.foldl (wbStep s.par (gI over)) pools ∧ f.length ≤ pools.length + pre.length ∧ ρ = [some ⟨false, suD s⟩, some ⟨false, .lst (over.map .int)⟩, some ⟨false, .lst (pools.map nD)⟩, some ⟨true, .lst (f.map nD)⟩, v])
    ⟨pools, none, rfl, by simp, rfl⟩ ?_ ?_
  · rintro pre p post e ρ ⟨f, v, ef, hl, rfl⟩
    have hx := range'_split e
    have hpl := congrArg List.length e
    simp at hpl
    have hps : p < s.par.length := by omega
    have hpo : p < over.length := by omega
    obtain ⟨q, hq, hlt⟩ := ok.T.upS (show 0 < p by omega) hps
    have hq' : s.par.getD p none = some q := hq
    have estep : (pre ++ [p]).foldl (wbStep s.par (gI over)) pools = wbStep s.par (gI over) f p := by rw [List.foldl_append, ← ef]; rfl
    have hsl := wbStep_len s.par (gI over) f p
    simp! [notin_nat, at_O hps, hq', in_nat, at_I hpo]
    unfold wbStep at hsl
    have estep : (pre ++ [p]).foldl (wbStep s.par (gI over)) pools = if (!decide (p ∈ f) && (decide (q ∈ f) && decide (0 < gI over p))) = true then f ++ [p] else f := by rw [estep]; unfold wbStep; rw [hq]
    by_cases h1 : p ∈ f
    · simp! [h1]
      exact ⟨f, _, by rw [estep]; simp [h1], by simp; omega, rfl⟩
    · simp! [h1, at_O hps, hq', in_nat]
      by_cases h2 : q ∈ f
      · simp! [h2, at_I hpo]
        by_cases h3 : 0 < gI over p
        · simp! [h3, app_nat (l := f) (k := p) (by omega)]
          exact ⟨f ++ [p], _, by rw [estep]; simp [h1, h2, h3], by simp; omega, rfl⟩
        · simp! [h3]
          exact ⟨f, _, by rw [estep]; simp [h3], by simp; omega, rfl⟩
      · simp! [h2]
        exact ⟨f, _, by rw [estep]; simp [h2], by simp; omega, rfl⟩
  · rintro ρ ⟨f, v, ef, hl, rfl⟩
    simp! [sorted_ms]
    rw [ef]
    exact is_rfl
theorem all_bools (bs : List Bool) : bltD .all [.lst (bs.map D.bl)] = some (false, .bl (bs.all id)) := by
  have : ∀ bs : List Bool, boolsD (bs.map D.bl) = some bs := by
    intro bs
    induction bs with
    | nil => rfl
    | cons a l ih => rw [List.map_cons]; unfold boolsD; rw [ih]; rfl
  unfold bltD
  dsimp only
  rw [this]
/-- can it be refused -/
def refusable (s : Su) (pl : List (Option Nat)) (r : Nat) : Bool := (way s.par (s.hom.getD r 0)).all (fullOf s pl (othersOf pl r))
def refGroup (s : Su) (pl : List (Option Nat)) (r : Nat) : List Nat := withBranches s.par (flowOf s pl (othersOf pl r)) (way s.par (s.hom.getD r 0))
theorem refusing_group_eq {s : Su} (ok : s.Ok) {pl : List (Option Nat)} (hp : IsPl s pl) {r : Nat} (hr : r < s.hom.length) (hn : pl.getD r none = none) :
    PH lt (n + 8) 56 [suD s, .tup (pl.map oD), .int r] = .ok false (if refusable s pl r then .tup ((refGroup s pl r).map nD) else .non) [] := by
  have sm := ok.small
  have hm := ok.homs
  have hh := ok.good.hom_lt hr
  have hwl := way_len s.par (s.hom.getD r 0)
  have hrq := others_req hp.len r
  refine PH_eq F56 rfl rfl ?_
  dsimp! [F56]
  simp! [r33, check_free_eq ok hp hr hn, r30, others_of_eq hm hp.len, r16, room_of_eq s pl (fun p h => by rw [ok.cap]; exact hp.bd ok h), r31, full_pools_eq ok hp hrq.lt, at_N hr, r9, way_eq ok hh]
  refine post_map (fun p : Nat => some (.bl (fullOf s pl (othersOf pl r) p))) ?_ ?_
  · intro p hpm
    have hp' : p < s.par.length := ok.T.way_mem hpm hh
    simp! [at_rangeB hp']
  rw [filterMap_some (e := fun p : Nat => D.bl (fullOf s pl (othersOf pl r) p))]
  have e : (way s.par (s.hom.getD r 0)).map (fun p : Nat => D.bl (fullOf s pl (othersOf pl r) p)) = ((way s.par (s.hom.getD r 0)).map (fullOf s pl (othersOf pl r))).map D.bl := by rw [List.map_map]; rfl
  have e2 : ((way s.par (s.hom.getD r 0)).map (fullOf s pl (othersOf pl r))).all id = refusable s pl r := by rw [List.all_map]; rfl
  rw [e]
  simp! [compE_ok (show (((way s.par (s.hom.getD r 0)).map (fullOf s pl (othersOf pl r))).map D.bl).length ≤ SZ by rw [List.length_map, List.length_map]; show _ ≤ 16777216; omega), all_bools, e2]
  cases hrf : refusable s pl r with
  | false =>
    simp! []
    exact is_rfl
  | true =>
    have hov := overflows_eq (lt := lt) (n := n) ok hp hrq
    have hol := (over_flow ok pl hrq.lt).1
    have hfl : gI (passAll s.par (gI (roomOf s.cap pl)) (counts s.par.length (homesOf s (othersOf pl r)))) = flowOf s pl (othersOf pl r) := rfl
    rw [show ((othersOf pl r).map fun r => s.hom.getD r 0) = homesOf s (othersOf pl r) from rfl] at hov
    unfold refGroup
    generalize passAll s.par (gI (roomOf s.cap pl)) (counts s.par.length (homesOf s (othersOf pl r))) = L at *
    rw [← hfl]
    simp! [r29, hov, r54, with_branches_eq ok (over := L) hol (pools := way s.par (s.hom.getD r 0)) (by omega)]
    exact is_rfl
/-- the requests that are never refused -/
def neverOf (s : Su) (pl : List (Option Nat)) : List Nat := (freeOf pl).filter fun r => !refusable s pl r
theorem never_refused_eq {s : Su} (ok : s.Ok) {pl : List (Option Nat)} (hp : IsPl s pl) : PH lt (n + 9) 59 [suD s, .tup (pl.map oD)] = .ok false (.tup ((neverOf s pl).map nD)) [] := by
  have sm := ok.small
  have hm := ok.homs
  have hl := hp.len
  refine PH_eq F59 rfl rfl ?_
  dsimp! [F59]
  simp! [r14, check_placement_eq ok hp, len_eq, f4 (show (0 : Int) ≤ s.hom.length ∧ (s.hom.length : Int) < 1000000 by omega), rngV_ok (show s.hom.length ≤ 1000000 by omega)]
  refine post_map (fun r : Nat => if decide (pl.getD r none = none) then some (nD r) else none) ?_ ?_
  · intro r hr
    have hr' : r < pl.length := by rw [hl]; simpa using hr
    simp! [at_O hr', isNon_oD]
    by_cases h : pl.getD r none = none
    · simp! [h]
    · simp! [h]
  rw [filterMap_enc, ← hl, show ((List.range pl.length).filter fun r => decide (pl.getD r none = none)) = freeOf pl from rfl]
  have hfl : (freeOf pl).length ≤ pl.length := by
    have := List.length_filter_le (fun r => decide (pl.getD r none = none)) (List.range pl.length)
    rw [List.length_range] at this
    exact this
  simp! [compE_ok (show ((freeOf pl).map nD).length ≤ SZ by rw [List.length_map]; show _ ≤ 16777216; omega)]
  refine post_map (fun r : Nat => if !refusable s pl r then some (nD r) else none) ?_ ?_
  · intro r hr
    have h1 := (mem_free.mp hr).1
    have h2 := (mem_free.mp hr).2
    simp! [r56, refusing_group_eq ok hp (show r < s.hom.length by omega) h2]
    cases refusable s pl r with
    | true => simp! [show D.isNon (.tup ((refGroup s pl r).map nD)) = false from rfl]
    | false => simp! []
  rw [filterMap_enc, show ((freeOf pl).filter fun r => !refusable s pl r) = neverOf s pl from rfl]
  have hnl : (neverOf s pl).length ≤ (freeOf pl).length := List.length_filter_le _ _
  simp! [compE_ok (show ((neverOf s pl).map nD).length ≤ SZ by rw [List.length_map]; show _ ≤ 16777216; omega)]
  exact is_rfl
end
end FB

set_option Elab.async false
set_option linter.all false
set_option maxRecDepth 100000
set_option maxHeartbeats 400000
namespace FB
local macro_rules | `(tactic| simp! [$ts,*]) => `(tactic| simp -implicitDefEqProofs -dsimp only [th, ks, kn, Ka0, Ka1, Kb0, Kb1, Kb2, Kb3, Kb4, Kb5, Kb6, Kb7, Kb8, Kb9, Kb10, Kb11, Kc0, Kc1, Kc2, Kc3, Kc4, Kc5, Kc6, Kc7, Kc8, Kc9, Ke0, e1, e2, Ke3, Ke4, e4', Ke5, Ke6, Ke7, Ke8, Ke9, Ke10, Ke11, Ke12, Ke13, Ke14, Ke15, Ke16, Ke17, Ke17b, Ke18, Ke19, Ke20, Ke21, Ke22, Ke23, Ke24, Ke25, t0, Kt1, Kt2, t3, l0, Kl1, l2, Kl3, l4, Kl5, Kl5a, Kl5b, Kl6, o0, Ko1, o2, Ki0, Ki1, i1', Ki2, Ki3, Ki4, Ki5, s0, Ks1, Ks2, Ks3, s3', Ks4, Ks5, Ks6, Ks7, Ks8, Ks8', Ks9, Ks10, Ks11, s12, Ks13, Ks14, s15, s16, s17, s18, Kf0, Kf1, f3, nd0, nd1, body_name, Kbody_tup, setTg_name, setTg_2, setTg_3, mk0, mk1, w0, w1, k0, k1, p0, p1, p2, p3, p4, n0, n1, n2, q0, q1, q2, q3, q4, pt0, pc0, d0, d1, d2, d4, d5, d7, d8, d9, d10, d11, d12, d13, d14, d15, x0, x1, range_0, rangeC_down, enum_map, zip_map, g0, g1, h0, h1, h2, h3, h4, h5, h6, h7, h8, h9, u0, u1, u2, u3, u4, u5, u6, u7, u8, u9, u10, u11, Kct0, Kct1, mo0, mo1, mo2, mo3, mo4, Kmo5, Kmo6, Kmo7, Kmo8, mo9, Kv0, Kv1, Kv2, Kv3, Kv4, Kv5, va0, va1, va2, rd0, rd1, rd2, sl0, sl1, ow0, ow1, fz0, fz1, fz2, fz3, fz4, re0, re1, re2, re3, re4, st0, st1, st2, pv0, pv1, il0, it0, it1, po0, po1, po2, po3, so0, so1, so2, so3, ou0, ou1, ou2, is0, is1, is2, is3, is4, is6, is7, AV.d, List.getElem?_cons_zero, List.getElem?_cons_succ, List.set_cons_zero, List.set_cons_succ, List.map_cons, List.map_nil, List.mapM_cons, List.mapM_nil, Option.pure_def, Option.bind_eq_bind, Option.bind_some, Option.map_some, Option.map_none, Option.getD_some, Option.getD_none, List.length_cons, List.length_nil, List.length_map, List.replicate, Bool.false_eq_true, Bool.true_and, Bool.and_true, Bool.false_and, Bool.and_false, Bool.not_true, Bool.not_false, Bool.and_self, if_false, if_true, decide_true, decide_false, $ts,*])
local macro_rules | `(tactic| dsimp! [$ts,*]) => `(tactic| simp -implicitDefEqProofs -dsimp only [$ts,*, List.length_cons, List.length_nil, Nat.reduceAdd, Nat.reduceSub, List.replicate, List.cons_append, List.nil_append, List.append_nil])
open PySem
section
variable {lt : List FDef} {n t : Nat}
/-! ### changes -/
theorem check_capacity_eq {c : Nat} {x : D} (hc : c ≤ 60) : PH lt (n + 3) 78 [.int c, x] = .ok false .non [] := by
  refine PH_eq F78 rfl rfl ?_
  dsimp! [F78]
  simp! [r1, from_ok (show (0 : Int) ≤ c by omega) (show (c : Int) ≤ 60 by omega)]
  exact is_rfl
theorem iset_nat {l : List Nat} {p : Nat} {v : Nat} (h : p < l.length) : setIdx (.lst (l.map nD)) (.int p) (.int v) = some (.lst ((l.set p v).map nD)) := by
  unfold setIdx
  simp only [List.length_map, ixN_nat h, List.map_set, nD]
def withCap (s : Su) (p c : Nat) : Su := ⟨s.par, s.cap.set p c, s.hom⟩
theorem withCap_ok {s : Su} (ok : s.Ok) {p c : Nat} (hc : c ≤ 60) : (withCap s p c).Ok := by
  refine ⟨ok.T, ok.small, by show (s.cap.set p c).length = _; rw [List.length_set]; exact ok.cap, fun x hx => ?_, ok.homs, ok.hom⟩
  rcases List.mem_or_eq_of_mem_set hx with h | h
  · exact ok.caps x h
  · rw [h]; exact hc
theorem init0 : (cfgG lt).init 0 = some 2 := rfl
theorem with_capacity_eq {s : Su} (ok : s.Ok) {p c : Nat} (hp : p < s.par.length) (hc : c ≤ 60) : PH lt (n + 5) 80 [suD s, .int p, .int c] = .ok false (suD (withCap s p c)) [] := by
  have ei := init_eq (lt := lt) (n := n) (withCap_ok ok (p := p) hc)
  have hpc : p < s.cap.length := by rw [ok.cap]; exact hp
  refine PH_eq F80 rfl rfl ?_
  dsimp! [F80]
  simp! [r10, check_pool_eq s hp, r78, check_capacity_eq hc, iset_nat hpc, init0, r2, show PH lt (n + 4) 2 [.obj 0 [], .lst (s.par.map oD), .lst ((s.cap.set p c).map nD), .lst (s.hom.map nD)] = _ from ei]
  exact is_rfl
def withReqs (s : Su) (hs : List Nat) : Su := ⟨s.par, s.cap, s.hom ++ hs⟩
theorem with_requests_eq {s : Su} (ok : s.Ok) {hs : List Nat} (hl : s.hom.length + hs.length ≤ 60) (hh : ∀ h ∈ hs, h < s.par.length) : (withReqs s hs).Ok ∧ PH lt (n + 5) 81 [suD s, .lst (hs.map nD)] = .ok false (suD (withReqs s hs)) [] := by
  have ok' : (withReqs s hs).Ok := ⟨ok.T, ok.small, ok.cap, ok.caps, by show (s.hom ++ hs).length ≤ 60; rw [List.length_append]; exact hl, fun h hm => by
    rcases List.mem_append.mp hm with h1 | h1
    · exact ok.hom h h1
    · exact hh h h1⟩
  refine ⟨ok', ?_⟩
  have ei := init_eq (lt := lt) (n := n) ok'
  have hm := ok.homs
  refine PH_eq F81 rfl rfl ?_
  dsimp! [F81]
  simp! [len_eq, f4 (show (0 : Int) ≤ s.hom.length ∧ (s.hom.length : Int) < 1000000 by omega), show ¬ ((60 : Int) < (s.hom.length : Int) + (hs.length : Int)) by omega, g2 (a := s.hom.map nD) (b := hs.map nD) (by simp; omega), init0, r2, ← List.map_append,
    show PH lt (n + 4) 2 [.obj 0 [], .lst (s.par.map oD), .lst (s.cap.map nD), .lst ((s.hom ++ hs).map nD)] = _ from ei]
  exact is_rfl
def grownSu (s : Su) (q c : Nat) : Su := ⟨s.par ++ [some q], s.cap ++ [c], s.hom⟩
theorem grown_eq {s : Su} (ok : s.Ok) (hl : s.par.length < 60) {q c : Nat} (hq : q < s.par.length) (hc : c ≤ 60) : (grownSu s q c).Ok ∧ PH lt (n + 5) 79 [suD s, .int q, .int c] = .ok false (suD (grownSu s q c)) [] := by
  have hcl := ok.cap
  have ok' : (grownSu s q c).Ok := ⟨ok.T.snoc hq, by show (s.par ++ [some q]).length ≤ 60; simp; omega, by show (s.cap ++ [c]).length = (s.par ++ [some q]).length; simp; exact hcl, mem_snoc ok.caps hc, ok.homs, fun h hm => by
    show h < (s.par ++ [some q]).length
    have := ok.hom h hm
    simp; omega⟩
  refine ⟨ok', ?_⟩
  have ei := init_eq (lt := lt) (n := n) ok'
  have e1 : s.par.map oD ++ [.int (q : Int)] = (s.par ++ [some q]).map oD := by rw [List.map_append]; rfl
  have e2 : s.cap.map nD ++ [.int (c : Int)] = (s.cap ++ [c]).map nD := by rw [List.map_append]; rfl
  refine PH_eq F79 rfl rfl ?_
  dsimp! [F79]
  simp! [r10, check_pool_eq s hq, r4, size_eq, show ((s.par.length : Int) == 60) = false by simp; omega, r78, check_capacity_eq hc, g2 (a := s.par.map oD) (b := [.int (q : Int)]) (by simp; omega), g2 (a := s.cap.map nD) (b := [.int (c : Int)]) (by simp; omega), e1, e2, init0, r2,
    show PH lt (n + 4) 2 [.obj 0 [], .lst ((s.par ++ [some q]).map oD), .lst ((s.cap ++ [c]).map nD), .lst (s.hom.map nD)] = _ from ei]
  exact is_rfl
theorem capacity_eq {s : Su} (ok : s.Ok) {p : Nat} (hp : p < s.par.length) : PH lt (n + 4) 7 [suD s, .int p] = .ok false (.int (s.cap.getD p 0 : Nat)) [] := by
  have hpc : p < s.cap.length := by rw [ok.cap]; exact hp
  refine PH_eq F7 rfl rfl ?_
  dsimp! [F7]
  simp! [r10, check_pool_eq s hp, at_N hpc]
  exact is_rfl
/-! ### family B -/
def bRoom : FDef := ⟨[false, false], 4, (.cons (.asg true 2 (.blt .list (.cons (.var 0) .nil))) (.cons (.for (.name 3) (.val (.var 1)) (.cons (.ife (.cmp .IsNot (.var 3) (.lit .non)) (.cons (.setI 2 (.var 3) (.bin .Sub (.idx (.var 2) (.var 3)) (.lit (.int 1)))) .nil) .nil) .nil)) (.cons (.ret (.var 2)) .nil)))⟩
theorem bRoom_eq (ht : tabG lt t = some bRoom) {cap : List Nat} {pl : List (Option Nat)} (hp : ∀ p, some p ∈ pl → p < cap.length) : PH lt (n + 1) t [.lst (cap.map nD), .tup (pl.map oD)] = .ok true (.lst ((roomOf cap pl).map .int)) [] := by
  refine PH_eq bRoom ht rfl ?_
  dsimp! [bRoom]
  simp! []
  refine post_fold (fun r (v : Option FB.Slot) => [some ⟨false, .lst (cap.map nD)⟩, some ⟨false, .tup (pl.map oD)⟩, some ⟨true, .lst (r.map .int)⟩, v]) roomStep (fun r => r.length = cap.length) (cap.map Int.ofNat) none (by rw [← nI_nD]) (by simp) ?_ ?_
  · intro x hx r v hI
    cases x with
    | none =>
      simp! [d3]
      exact ⟨_, rfl, hI⟩
    | some p =>
      have hl : p < r.length := by rw [hI]; exact hp p hx
      simp! [at_I hl, set_I hl]
      exact ⟨_, rfl, by simp [roomStep, hI]⟩
  · intro v _
    simp! []
    exact is_rfl
def bFree : FDef := ⟨[false], 3, (.cons (.ret (.comp (.var 1) [1, 2] (.tup [1, 2]) (.enum (.var 0)) (.cons (.cmp .Is (.var 2) (.lit .non)) .nil))) .nil)⟩
theorem free_zip (pl : List (Option Nat)) : (pl.zipIdx.filterMap fun p : Option Nat × Nat => if decide (p.1 = none) then some (D.int (p.2 : Int)) else none) = (freeOf pl).map nD := by
  rw [← List.map_congr_left (g := nD) (f := fun r : Nat => D.int (r : Int)) fun _ _ => rfl]
  rw [filterMap_enc (p := fun p : Option Nat × Nat => decide (p.1 = none)) (e := fun p : Option Nat × Nat => D.int (p.2 : Int))]
  have h1 : pl.zipIdx = (List.range pl.length).map fun r => (pl.getD r none, r) := by
    apply List.ext_getElem
    · simp
    · intro i h1 h2
      have hi : i < pl.length := by simpa using h2
      simp [List.getD_eq_getElem?_getD, hi]
  rw [h1, List.filter_map, List.map_map]
  rfl
theorem bFree_eq (ht : tabG lt t = some bFree) {pl : List (Option Nat)} (hl : pl.length ≤ 1000) : PH lt (n + 1) t [.tup (pl.map oD)] = .ok true (.lst ((freeOf pl).map nD)) [] := by
  refine PH_eq bFree ht rfl ?_
  dsimp! [bFree]
  simp! []
  refine post_map (fun p : Option Nat × Nat => if decide (p.1 = none) then some (D.int (p.2 : Int)) else none) ?_ ?_
  · rintro ⟨x, i⟩ _
    simp! [isNon_oD]
    by_cases h : x = none
    · simp! [h]
    · simp! [h]
  rw [free_zip]
  have hfl : (freeOf pl).length ≤ pl.length := by
    have := List.length_filter_le (fun r => decide (pl.getD r none = none)) (List.range pl.length)
    rw [List.length_range] at this
    exact this
  simp! [compE_ok (show ((freeOf pl).map nD).length ≤ SZ by rw [List.length_map]; show _ ≤ 16777216; omega)]
  exact is_rfl
def bSetup (t : Nat) : FDef := ⟨[true, false, false], 13, (.cons (.par 3 4 false false (.bin .Add (.lit (.int 1)) (.call t false (.cons (.var 0) (.cons (.var 1) .nil)))) (.call t false (.cons (.var 0) (.cons (.bin .Add (.var 2) (.lit (.int 1))) .nil)))) (.cons (.par 5 6 false false (.call t false (.cons (.var 0) (.cons (.lit (.int 4)) .nil))) (.bin .Add (.lit (.int 1)) (.call t false (.cons (.var 0) (.cons (.lit (.int 4)) .nil))))) (.cons (.asg true 7 (.lstD (.cons (.lit .non) .nil))) (.cons (.for (.name 8) (.rng2 (.lit (.int 1)) (.var 3)) (.cons (.expr (.mth .append (.var 7) (.cons (.idx (.lstD (.cons (.call t false (.cons (.var 0) (.cons (.var 8) .nil))) (.cons (.bin .Sub (.var 8) (.lit (.int 1))) (.cons (.lit (.int 0)) (.cons (.blt .max2 (.cons (.lit (.int 0)) (.cons (.bin .Sub (.bin .Sub (.var 8) (.lit (.int 1))) (.call t false (.cons (.var 0) (.cons (.lit (.int 3)) .nil)))) .nil))) .nil))))) (.var 5)) .nil))) .nil)) (.cons (.asg false 9 (.comp (.call t false (.cons (.var 0) (.cons (.bin .Add (.var 6) (.lit (.int 1))) .nil))) [8] (.name 8) (.rng1 (.var 3)) .nil)) (.cons (.asg false 10 (.call t false (.cons (.var 0) (.cons (.var 3) .nil)))) (.cons (.asg false 11 (.comp (.idx (.lstD (.cons (.call t false (.cons (.var 0) (.cons (.var 3) .nil))) (.cons (.bin .Sub (.var 3) (.lit (.int 1))) (.cons (.var 10) .nil)))) (.call t false (.cons (.var 0) (.cons (.lit (.int 3)) .nil)))) [12] (.name 12) (.rng1 (.var 4)) .nil)) (.cons (.ret (.tupD (.cons (.var 7) (.cons (.var 9) (.cons (.var 11) .nil))))) .nil))))))))⟩
theorem bSetup_eq {m : Nat} (htk : TakeOk lt t [true, false]) (ht : tabG lt m = some (bSetup t)) (w : Int × Int × Int) {pools requests : Nat} (h1 : 0 < pools) (h1' : pools ≤ 1000) (h2 : requests ≤ 1000) :
    ∃ (s : Su) (w' : Int × Int × Int), Drawn s pools requests 4 ∧ PH lt (n + 2) m [wD w, .int pools, .int requests] = .ok false (setupD s) [wD w'] := by
  have rt := htk.1
  refine PH_run (P := fun r => ∃ (s : Su) (w' : Int × Int × Int), Drawn s pools requests 4 ∧ Is (.ok false (setupD s) [wD w']) r) (bSetup t) ht rfl ?_
  dsimp! [bSetup]
  obtain ⟨k, w1, hk, e1⟩ := htk.2 n w pools h1 (by omega)
  obtain ⟨many, w2, hmany, e2⟩ := htk.2 n w1 (requests + 1) (by omega) (by omega)
  obtain ⟨kind, w3, hkind, e3⟩ := htk.2 n w2 4 (by omega) (by omega)
  have e3 : PH lt (n + 1) t [wD w2, .int 4] = .ok false (.int kind) [wD w3] := e3
  obtain ⟨wide, w4, hwide, e4⟩ := htk.2 n w3 4 (by omega) (by omega)
  have e4 : PH lt (n + 1) t [wD w3, .int 4] = .ok false (.int wide) [wD w4] := e4
  simp! [rt, e1, show (1 : Int) + (k : Int) = ((k + 1 : Nat) : Int) by omega, show (requests : Int) + 1 = ((requests + 1 : Nat) : Int) by omega, e2, e3, e4, show (1 : Int) + (wide : Int) = ((wide + 1 : Nat) : Int) by omega, rngV_1 (show k + 1 ≤ 1000000 by omega), show ((3 : Nat) = 4) = False by simp, show ((5 : Nat) = 6) = False by simp]
  refine post_for (fun pre ρ => ∃ (par : Par) (w : Int × Int × Int) (v : Option FB.Slot), Tree par ∧ par.length = pre.length + 1 ∧ ρ = [some ⟨true, wD w⟩, some ⟨false, .int pools⟩, some ⟨false, .int requests⟩, some ⟨false, .int (k + 1 : Nat)⟩, some ⟨false, .int many⟩, some ⟨false, .int kind⟩, some ⟨false, .int (wide + 1 : Nat)⟩, some ⟨true, .lst (par.map oD)⟩, v, none, none, none, none])
    ⟨[none], w4, none, tree_one, rfl, rfl⟩ ?_ ?_
  · rintro pre x post e ρ ⟨par, w, v, T, hl, rfl⟩
    have hx := range'_split e
    have hpl := congrArg List.length e
    simp at hpl
    obtain ⟨q, w5, hq, e5⟩ := htk.2 n w x (by omega) (by omega)
    obtain ⟨q3, w6, hq3, e6⟩ := htk.2 n w5 3 (by omega) (by omega)
    have e6 : PH lt (n + 1) t [wD w5, .int 3] = .ok false (.int q3) [wD w6] := e6
    have key : ∃ r : Nat, r < par.length ∧ FB.atI [D.int q, .int ((x : Int) - 1), .int 0, .int (max 0 ((x : Int) - 1 - (q3 : Int)))] (kind : Int) = some (.int r) := by
      rcases (show kind = 0 ∨ kind = 1 ∨ kind = 2 ∨ kind = 3 by omega) with h | h | h | h <;> subst h
      · exact ⟨q, by omega, rfl⟩
      · exact ⟨x - 1, by omega, by rw [show ((x : Int) - 1) = ((x - 1 : Nat) : Int) by omega]; rfl⟩
      · exact ⟨0, by omega, rfl⟩
      · exact ⟨(max 0 ((x : Int) - 1 - (q3 : Int))).toNat, by omega, by
          have : max 0 ((x : Int) - 1 - (q3 : Int)) = (((max 0 ((x : Int) - 1 - (q3 : Int))).toNat : Nat) : Int) := by omega
          rw [← this]; rfl⟩
    obtain ⟨r, hr, er⟩ := key
    simp! [rt, e5, e6, er, y1 (xs := par.map oD) (y := .int r) (by rw [List.length_map]; omega)]
    exact ⟨par ++ [some r], w6, _, T.snoc hr, by simp; omega, by rw [List.map_append]; rfl⟩
  rintro ρ ⟨par, w7, v, T, hl, rfl⟩
  rw [List.length_range'] at hl
  simp! [rngV_ok (show k + 1 ≤ 1000000 by omega)]
  refine post_comp (fun pre ys ρ => ∃ (w : Int × Int × Int) (cs : List Nat), ys = cs.map nD ∧ cs.length = pre.length ∧ (∀ c ∈ cs, c ≤ 4) ∧ ρ = [some ⟨true, wD w⟩, some ⟨false, .int pools⟩, some ⟨false, .int requests⟩, some ⟨false, .int (k + 1 : Nat)⟩, some ⟨false, .int many⟩, some ⟨false, .int kind⟩, some ⟨false, .int (wide + 1 : Nat)⟩, some ⟨true, .lst (par.map oD)⟩, none, none, none, none, none])
    ⟨w7, [], rfl, rfl, (fun c h => nomatch h), rfl⟩ ?_ ?_
  · rintro pre x post e ys ρ ⟨w, cs, rfl, hcl, hcs, rfl⟩
    obtain ⟨c, w', hc, e8⟩ := htk.2 n w (wide + 1 + 1) (by omega) (by omega)
    simp! [rt, show ((wide + 1 : Nat) : Int) + 1 = ((wide + 1 + 1 : Nat) : Int) by omega, e8]
    exact ⟨w', cs ++ [c], by rw [List.map_append]; rfl, by simp [hcl], mem_snoc hcs (by omega), rfl⟩
  rintro ys ρ ⟨w8, cs, rfl, hcl, hcs, rfl⟩
  rw [List.length_range] at hcl
  obtain ⟨low, w9, hlow, e9⟩ := htk.2 n w8 (k + 1) (by omega) (by omega)
  simp! [compE_ok (show (cs.map nD).length ≤ SZ by rw [List.length_map]; show cs.length ≤ 16777216; omega), rt, e9, rngV_ok (show many ≤ 1000000 by omega)]
  refine post_comp (fun pre ys ρ => ∃ (w : Int × Int × Int) (hs : List Nat), ys = hs.map nD ∧ hs.length = pre.length ∧ (∀ h ∈ hs, h < k + 1) ∧ ρ = [some ⟨true, wD w⟩, some ⟨false, .int pools⟩, some ⟨false, .int requests⟩, some ⟨false, .int (k + 1 : Nat)⟩, some ⟨false, .int many⟩, some ⟨false, .int kind⟩, some ⟨false, .int (wide + 1 : Nat)⟩, some ⟨true, .lst (par.map oD)⟩, v, some ⟨false, .lst (cs.map nD)⟩, some ⟨false, .int low⟩, none, none])
    ⟨w9, [], rfl, rfl, (fun c h => nomatch h), rfl⟩ ?_ ?_
  · rintro pre x post e ys ρ ⟨w, hs, rfl, hhl, hhs, rfl⟩
    obtain ⟨q, w10, hq, e10⟩ := htk.2 n w (k + 1) (by omega) (by omega)
    obtain ⟨m3, w11, hm3, e11⟩ := htk.2 n w10 3 (by omega) (by omega)
    have e11 : PH lt (n + 1) t [wD w10, .int 3] = .ok false (.int m3) [wD w11] := e11
    have key : ∃ r : Nat, r < k + 1 ∧ FB.atI [D.int q, .int (((k + 1 : Nat) : Int) - 1), .int low] (m3 : Int) = some (.int r) := by
      rcases (show m3 = 0 ∨ m3 = 1 ∨ m3 = 2 by omega) with h | h | h <;> subst h
      · exact ⟨q, hq, rfl⟩
      · exact ⟨k, by omega, by rw [show (((k + 1 : Nat) : Int) - 1) = (k : Int) by omega]; rfl⟩
      · exact ⟨low, hlow, rfl⟩
    obtain ⟨r, hr, er⟩ := key
    simp! [rt, e10, e11, er]
    exact ⟨w11, hs ++ [r], by rw [List.map_append]; rfl, by simp [hhl], mem_snoc hhs hr, rfl⟩
  rintro ys ρ ⟨w12, hs, rfl, hhl, hhs, rfl⟩
  rw [List.length_range] at hhl
  simp! [compE_ok (show (hs.map nD).length ≤ SZ by rw [List.length_map]; show hs.length ≤ 16777216; omega)]
  exact ⟨⟨par, cs, hs⟩, w12, ⟨T, by show par.length ≤ pools; omega, by show cs.length = par.length; omega, hcs, by show hs.length ≤ requests; omega, fun h hh => by show h < par.length; have := hhs h hh; omega⟩, is_rfl⟩
/-- a placement of the first requests -/
structure PlPre (s : Su) (pl : List (Option Nat)) : Prop where
  way : ∀ r p, pl[r]? = some (some p) → p ∈ way s.par (s.hom.getD r 0)
  cap : ∀ p, p < s.par.length → pl.count (some p) ≤ s.cap.getD p 0
theorem PlPre.bd {s : Su} (g : s.Good) {pl : List (Option Nat)} (h : PlPre s pl) (hl : pl.length ≤ s.hom.length) {p : Nat} (hp : some p ∈ pl) : p < s.par.length := by
  obtain ⟨r, hr, e⟩ := List.mem_iff_getElem.mp hp
  have h1 := h.way r p (by rw [List.getElem?_eq_getElem hr, e])
  exact g.T.way_mem h1 (g.hom_lt (by omega))
theorem PlPre.snoc {s : Su} {pl : List (Option Nat)} (h : PlPre s pl) {x : Option Nat} (hx : ∀ q, x = some q → q ∈ FB.way s.par (s.hom.getD pl.length 0) ∧ pl.count (some q) < s.cap.getD q 0) : PlPre s (pl ++ [x]) := by
  refine ⟨fun r p hr => ?_, fun p hp => ?_⟩
  · rcases Nat.lt_trichotomy r pl.length with h1 | h1 | h1
    · rw [List.getElem?_append_left h1] at hr; exact h.way r p hr
    · subst h1
      rw [List.getElem?_append_right (Nat.le_refl _), Nat.sub_self] at hr
      injection hr with hr
      exact (hx p hr).1
    · rw [List.getElem?_append_right (by omega)] at hr
      have : ([x] : List (Option Nat))[r - pl.length]? = none := List.getElem?_eq_none (by simp; omega)
      rw [this] at hr; cases hr
  · rw [List.count_append, List.count_singleton]
    have h1 := h.cap p hp
    by_cases e : x = some p
    · have := (hx p e).2
      rw [if_pos (by rw [e]; simp)]; omega
    · have : ¬ (x == some p) = true := by simpa using e
      rw [if_neg this]; omega
def bPlacement (dr wy rm : Nat) : FDef := ⟨[true, false, false, false], 10, (.cons (.asg false 4 (.tupD .nil)) (.cons (.asg false 5 (.bin .Add (.lit (.int 1)) (.call dr false (.cons (.var 0) (.cons (.lit (.int 4)) .nil))))) (.cons (.for (.name 6) (.val (.var 3)) (.cons (.asg false 7 (.call rm false (.cons (.var 2) (.cons (.var 4) .nil)))) (.cons (.asg false 8 (.comp (.var 9) [9] (.name 9) (.val (.call wy false (.cons (.var 1) (.cons (.var 6) .nil)))) (.cons (.cmp .Gt (.idx (.var 7) (.var 9)) (.lit (.int 0))) .nil))) (.cons (.asg false 9 (.lit .non)) (.cons (.ife (.and (.cmp .NotEq (.var 8) (.lstD .nil)) (.cmp .Eq (.call dr false (.cons (.var 0) (.cons (.var 5) .nil))) (.lit (.int 0)))) (.cons (.asg false 9 (.idx (.var 8) (.call dr false (.cons (.var 0) (.cons (.blt .len (.cons (.var 8) .nil)) .nil))))) .nil) .nil) (.cons (.asg false 4 (.bin .Add (.var 4) (.tupD (.cons (.var 9) .nil)))) .nil)))))) (.cons (.ret (.var 4)) .nil))))⟩
theorem getD_mid {l pre post : List Nat} {x : Nat} (e : l = pre ++ x :: post) : l.getD pre.length 0 = x := by
  rw [e, List.getD_eq_getElem?_getD]; simp
theorem bPlacement_eq {dr wy rm : Nat} (hd : TakeOk lt dr [true, false]) (hw : tabG lt wy = some cWay) (hr : tabG lt rm = some bRoom) (ht : tabG lt t = some (bPlacement dr wy rm)) {s : Su} (ok : s.Ok) (w : Int × Int × Int) :
    ∃ (pl : List (Option Nat)) (w' : Int × Int × Int), IsPl s pl ∧ PH lt (n + 2) t [wD w, .lst (s.par.map oD), .lst (s.cap.map nD), .lst (s.hom.map nD)] = .ok false (.tup (pl.map oD)) [wD w'] := by
  have sm := ok.small
  have hm := ok.homs
  have rd := hd.1
  have rw0 : (cfgG lt).raws wy = some [false, false] := raws_of hw rfl
  have rr0 : (cfgG lt).raws rm = some [false, false] := raws_of hr rfl
  refine PH_run (P := fun r => ∃ (pl : List (Option Nat)) (w' : Int × Int × Int), IsPl s pl ∧ Is (.ok false (.tup (pl.map oD)) [wD w']) r) (bPlacement dr wy rm) ht rfl ?_
  dsimp! [bPlacement]
  obtain ⟨rare, w1, hrare, e1⟩ := hd.2 n w 4 (by omega) (by omega)
  have e1 : PH lt (n + 1) dr [wD w, .int 4] = .ok false (.int rare) [wD w1] := e1
  simp! [rd, e1, show (1 : Int) + (rare : Int) = ((rare + 1 : Nat) : Int) by omega]
  refine post_for (fun pre ρ => ∃ (pl : List (Option Nat)) (w : Int × Int × Int) (v6 v7 v8 v9 : Option FB.Slot), PlPre s pl ∧ pl.length = pre.length ∧ ρ = [some ⟨true, wD w⟩, some ⟨false, .lst (s.par.map oD)⟩, some ⟨false, .lst (s.cap.map nD)⟩, some ⟨false, .lst (s.hom.map nD)⟩, some ⟨false, .tup (pl.map oD)⟩, some ⟨false, .int (rare + 1 : Nat)⟩, v6, v7, v8, v9])
    ⟨[], w1, none, none, none, none, ⟨fun r p h => by simp at h, fun p _ => by simp⟩, rfl, rfl⟩ ?_ ?_
  · rintro pre h post e ρ ⟨pl, w, v6, v7, v8, v9, hP, hl, rfl⟩
    have hlen := congrArg List.length e
    simp at hlen
    have hmem : h ∈ s.hom := by rw [e]; simp
    have hh := ok.hom h hmem
    have hhom : s.hom.getD pl.length 0 = h := by rw [hl]; exact getD_mid e
    have hbd : ∀ p, some p ∈ pl → p < s.cap.length := fun p hp => by rw [ok.cap]; exact hP.bd ok.good (by omega) hp
    have hroom := roomOf_at
    have hR : ∀ p, p < s.par.length → gI (roomOf s.cap pl) p = ((s.cap.getD p 0 : Nat) : Int) - (pl.count (some p) : Nat) := fun p hp => by
      have := (roomOf_at p pl (s.cap.map Int.ofNat) (fun q hq => by rw [List.length_map]; exact hbd q hq)).2
      rw [show roomOf s.cap pl = pl.foldl roomStep (s.cap.map Int.ofNat) from rfl, this, gI_nat]
    have hRl : (roomOf s.cap pl).length = s.par.length := by
      have := (roomOf_at 0 pl (s.cap.map Int.ofNat) (fun q hq => by rw [List.length_map]; exact hbd q hq)).1
      rw [show roomOf s.cap pl = pl.foldl roomStep (s.cap.map Int.ofNat) from rfl, this, List.length_map, ok.cap]
    simp! [rr0, bRoom_eq hr hbd, rw0, cWay_eq hw ok.T hh (by omega)]
    refine post_map (fun p : Nat => if decide (0 < gI (roomOf s.cap pl) p) then some (nD p) else none) ?_ ?_
    · intro p hp
      have hp' : p < (roomOf s.cap pl).length := by rw [hRl]; exact ok.T.way_mem hp hh
      simp! [at_I hp']
      by_cases hb : 0 < gI (roomOf s.cap pl) p
      · simp! [hb]
      · simp! [hb]
    rw [filterMap_enc]
    have hL : ∀ q ∈ (way s.par h).filter (fun p => decide (0 < gI (roomOf s.cap pl) p)), q ∈ way s.par (s.hom.getD pl.length 0) ∧ pl.count (some q) < s.cap.getD q 0 := fun q hq => by
      rw [List.mem_filter] at hq
      have h3 := hR q (ok.T.way_mem hq.1 hh)
      have h4 : 0 < gI (roomOf s.cap pl) q := by simpa using hq.2
      rw [hhom]
      exact ⟨hq.1, by omega⟩
    have hLl : ((way s.par h).filter (fun p => decide (0 < gI (roomOf s.cap pl) p))).length ≤ 61 := by
      have h3 := List.length_filter_le (fun p => decide (0 < gI (roomOf s.cap pl) p)) (way s.par h)
      have h4 := way_len s.par h
      omega
    generalize (way s.par h).filter (fun p => decide (0 < gI (roomOf s.cap pl) p)) = L at *
    simp! [compE_ok (show (L.map nD).length ≤ SZ by rw [List.length_map]; show _ ≤ 16777216; omega), ne_nil]
    cases L with
    | nil =>
      simp! [List.isEmpty_nil, g3 (a := pl.map oD) (b := [.non]) (by simp; omega)]
      exact ⟨pl ++ [none], w, _, _, _, _, hP.snoc (fun q hq => nomatch hq), by simp [hl], by rw [List.map_append]; rfl⟩
    | cons a L =>
      obtain ⟨b, w2, hb, e2⟩ := hd.2 n w (rare + 1) (by omega) (by omega)
      obtain ⟨k, w3, hk, e3⟩ := hd.2 n w2 (a :: L).length (by simp) (by omega)
      generalize hA : a :: L = A at *
      have hne : A.isEmpty = false := by rw [← hA]; rfl
      simp! [hne, rd, e2]
      by_cases hb0 : ((b : Int) == 0) = true
      · simp! [hb0, rd, e3, at_N hk, g3 (a := pl.map oD) (b := [.int ((A.getD k 0 : Nat) : Int)]) (by simp; omega)]
        have hkm : A.getD k 0 ∈ A := by rw [List.getD_eq_getElem?_getD, List.getElem?_eq_getElem hk]; exact List.getElem_mem hk
        exact ⟨pl ++ [some (A.getD k 0)], w3, _, _, _, _, hP.snoc (fun q hq => by injection hq with hq; subst hq; exact hL _ hkm), by simp [hl], by rw [List.map_append]; rfl⟩
      · simp! [hb0, g3 (a := pl.map oD) (b := [.non]) (by simp; omega)]
        exact ⟨pl ++ [none], w2, _, _, _, _, hP.snoc (fun q hq => nomatch hq), by simp [hl], by rw [List.map_append]; rfl⟩
  · rintro ρ ⟨pl, w, v6, v7, v8, v9, hP, hl, rfl⟩
    simp! []
    exact ⟨pl, w, ⟨hl, hP.way, hP.cap⟩, is_rfl⟩
end
end FB

set_option Elab.async false
set_option linter.all false
set_option maxRecDepth 100000
namespace FB
open PySem PySem.Spec PyProof.Rows L2
/-! ### the table: printed by gen.py -/
def top (i : Nat) : Stmt := PySem.Challenge.pw_fallbackpools_k54_whole_more_room_and_re.main.body.getD i (.Pass ⟨0, 0, 0, 0⟩)
def en0 : Ent := ⟨"is_int", "is_int", top 9, ["value"], ["value"], F0⟩
def en1 : Ent := ⟨"is_from", "is_from", top 10, ["value", "low", "high"], ["value", "low", "high"], F1⟩
def en2 : Ent := ⟨"__init__", "Setup.__init__", inClass (top 11) 0, ["self", "parents", "capacities", "homes"], ["self", "parents", "capacities", "homes"], F2⟩
def en3 : Ent := ⟨"__eq__", "Setup.__eq__", inClass (top 11) 1, ["self", "other"], ["self", "other", "mine"], F3⟩
def en4 : Ent := ⟨"size", "Setup.size", inClass (top 11) 2, ["self"], ["self"], F4⟩
def en5 : Ent := ⟨"__len__", "Setup.__len__", inClass (top 11) 3, ["self"], ["self"], F5⟩
def en6 : Ent := ⟨"parent", "Setup.parent", inClass (top 11) 4, ["self", "pool"], ["self", "pool"], F6⟩
def en7 : Ent := ⟨"capacity", "Setup.capacity", inClass (top 11) 5, ["self", "pool"], ["self", "pool"], F7⟩
def en8 : Ent := ⟨"home", "Setup.home", inClass (top 11) 6, ["self", "request"], ["self", "request"], F8⟩
def en9 : Ent := ⟨"way", "Setup.way", inClass (top 11) 7, ["self", "pool"], ["self", "pool", "found"], F9⟩
def en10 : Ent := ⟨"check_pool", "Setup.check_pool", inClass (top 11) 8, ["self", "pool"], ["self", "pool"], F10⟩
def en11 : Ent := ⟨"check_request", "Setup.check_request", inClass (top 11) 9, ["self", "request"], ["self", "request"], F11⟩
def en12 : Ent := ⟨"check_parents", "check_parents", top 12, ["parents"], ["parents", "index", "parent"], F12⟩
def en13 : Ent := ⟨"check_items", "check_items", top 13, ["part", "values", "least", "most", "high"], ["part", "values", "least", "most", "high", "index", "value"], F13⟩
def en14 : Ent := ⟨"check_placement", "check_placement", top 15, ["setup", "placement"], ["setup", "placement", "used", "index", "pool"], F14⟩
def en15 : Ent := ⟨"room_left", "room_left", top 16, ["setup", "placement"], ["setup", "placement"], F15⟩
def en16 : Ent := ⟨"room_of", "room_of", top 17, ["setup", "placement"], ["setup", "placement", "found", "pool"], F16⟩
def en18 : Ent := ⟨"with_pool", "with_pool", top 18, ["placement", "request", "pool"], ["placement", "request", "pool"], F18⟩
def en19 : Ent := ⟨"first_room", "first_room", top 19, ["setup", "room", "request"], ["setup", "room", "request", "pool"], F19⟩
def en27 : Ent := ⟨"check_requests", "check_requests", top 26, ["setup", "placement", "requests"], ["setup", "placement", "requests", "index", "request"], F27⟩
def en28 : Ent := ⟨"fill", "fill", top 27, ["setup", "placement", "requests"], ["setup", "placement", "requests", "room", "request", "pool"], F28⟩
def en29 : Ent := ⟨"overflows", "overflows", top 28, ["setup", "placement", "requests"], ["setup", "placement", "requests", "room", "found", "request", "pool"], F29⟩
def en30 : Ent := ⟨"others_of", "others_of", top 30, ["setup", "placement", "request"], ["setup", "placement", "request", "one"], F30⟩
def en31 : Ent := ⟨"full_pools", "full_pools", top 31, ["setup", "room", "requests"], ["setup", "room", "requests", "inflow", "request", "pool"], F31⟩
def en33 : Ent := ⟨"check_free", "check_free", top 32, ["setup", "placement", "request"], ["setup", "placement", "request"], F33⟩
def en54 : Ent := ⟨"with_branches", "with_branches", top 34, ["setup", "over", "pools"], ["setup", "over", "pools", "found", "pool"], F54⟩
def en56 : Ent := ⟨"refusing_group", "refusing_group", top 35, ["setup", "placement", "request"], ["setup", "placement", "request", "others", "full", "way", "pool"], F56⟩
def en59 : Ent := ⟨"never_refused", "never_refused", top 36, ["setup", "placement"], ["setup", "placement", "some", "request"], F59⟩
def en78 : Ent := ⟨"check_capacity", "check_capacity", top 21, ["capacity", "index"], ["capacity", "index"], F78⟩
def en79 : Ent := ⟨"grown", "grown", top 22, ["setup", "parent", "capacity"], ["setup", "parent", "capacity"], F79⟩
def en80 : Ent := ⟨"with_capacity", "with_capacity", top 23, ["setup", "pool", "capacity"], ["setup", "pool", "capacity", "some"], F80⟩
def en81 : Ent := ⟨"with_requests", "with_requests", top 24, ["setup", "homes"], ["setup", "homes"], F81⟩
def F100 : FDef := ⟨[true, false], 4, (.cons (.ife (.cmp .Gt (.idx (.var 0) (.lit (.int 0))) (.lit (.int 0))) (.cons (.asg false 2 (.bin .Mod (.idx (.var 0) (.lit (.int 0))) (.var 1))) (.cons (.setI 0 (.lit (.int 0)) (.bin .FloorDiv (.idx (.var 0) (.lit (.int 0))) (.var 1))) (.cons (.ret (.var 2)) .nil))) .nil) (.cons (.setI 0 (.lit (.int 2)) (.bin .Add (.idx (.var 0) (.lit (.int 2))) (.lit (.int 1)))) (.cons (.asg false 3 (.bin .Mod (.bin .Mult (.bin .Add (.bin .Add (.idx (.var 0) (.lit (.int 1))) (.bin .Mult (.lit (.int 104729)) (.idx (.var 0) (.lit (.int 2))))) (.lit (.int 1))) (.lit (.int 48271))) (.lit (.int 2147483647)))) (.cons (.asg false 3 (.bin .Mod (.bin .Mult (.var 3) (.bin .Add (.bin .FloorDiv (.var 3) (.lit (.int 1009))) (.lit (.int 69621)))) (.lit (.int 2147483647)))) (.cons (.ret (.bin .Mod (.bin .Mod (.bin .Mult (.var 3) (.bin .Add (.bin .FloorDiv (.var 3) (.lit (.int 2003))) (.lit (.int 40692)))) (.lit (.int 2147483399))) (.var 1))) .nil)))))⟩
def en100 : Ent := ⟨"_law_draw", "_law_draw", top 38, ["_law_well", "_law_limit"], ["_law_well", "_law_limit", "_law_found", "_law_number"], F100⟩
def F101 : FDef := ⟨[true, false, false], 13, (.cons (.par 3 4 false false (.bin .Add (.lit (.int 1)) (.call 100 false (.cons (.var 0) (.cons (.var 1) .nil)))) (.call 100 false (.cons (.var 0) (.cons (.bin .Add (.var 2) (.lit (.int 1))) .nil)))) (.cons (.par 5 6 false false (.call 100 false (.cons (.var 0) (.cons (.lit (.int 4)) .nil))) (.bin .Add (.lit (.int 1)) (.call 100 false (.cons (.var 0) (.cons (.lit (.int 4)) .nil))))) (.cons (.asg true 7 (.lstD (.cons (.lit .non) .nil))) (.cons (.for (.name 8) (.rng2 (.lit (.int 1)) (.var 3)) (.cons (.expr (.mth .append (.var 7) (.cons (.idx (.lstD (.cons (.call 100 false (.cons (.var 0) (.cons (.var 8) .nil))) (.cons (.bin .Sub (.var 8) (.lit (.int 1))) (.cons (.lit (.int 0)) (.cons (.blt .max2 (.cons (.lit (.int 0)) (.cons (.bin .Sub (.bin .Sub (.var 8) (.lit (.int 1))) (.call 100 false (.cons (.var 0) (.cons (.lit (.int 3)) .nil)))) .nil))) .nil))))) (.var 5)) .nil))) .nil)) (.cons (.asg false 9 (.comp (.call 100 false (.cons (.var 0) (.cons (.bin .Add (.var 6) (.lit (.int 1))) .nil))) [8] (.name 8) (.rng1 (.var 3)) .nil)) (.cons (.asg false 10 (.call 100 false (.cons (.var 0) (.cons (.var 3) .nil)))) (.cons (.asg false 11 (.comp (.idx (.lstD (.cons (.call 100 false (.cons (.var 0) (.cons (.var 3) .nil))) (.cons (.bin .Sub (.var 3) (.lit (.int 1))) (.cons (.var 10) .nil)))) (.call 100 false (.cons (.var 0) (.cons (.lit (.int 3)) .nil)))) [12] (.name 12) (.rng1 (.var 4)) .nil)) (.cons (.ret (.tupD (.cons (.var 7) (.cons (.var 9) (.cons (.var 11) .nil))))) .nil))))))))⟩
def en101 : Ent := ⟨"_law_setup", "_law_setup", top 39, ["_law_well", "_law_pools_most", "_law_requests_most"], ["_law_well", "_law_pools_most", "_law_requests_most", "_law_size", "_law_many", "_law_kind", "_law_wide", "_law_parents", "_law_pool", "_law_capacities", "_law_low", "_law_homes", "_law_request"], F101⟩
def F102 : FDef := ⟨[false, false], 3, (.cons (.asg true 2 (.lstD .nil)) (.cons (.whl (.cmp .IsNot (.var 1) (.lit .non)) (.cons (.expr (.mth .append (.var 2) (.cons (.var 1) .nil))) (.cons (.asg false 1 (.idx (.var 0) (.var 1))) .nil))) (.cons (.ret (.var 2)) .nil)))⟩
def en102 : Ent := ⟨"_law_way", "_law_way", top 40, ["_law_parents", "_law_pool"], ["_law_parents", "_law_pool", "_law_found"], F102⟩
def F103 : FDef := ⟨[false, false], 4, (.cons (.asg true 2 (.blt .list (.cons (.var 0) .nil))) (.cons (.for (.name 3) (.val (.var 1)) (.cons (.ife (.cmp .IsNot (.var 3) (.lit .non)) (.cons (.setI 2 (.var 3) (.bin .Sub (.idx (.var 2) (.var 3)) (.lit (.int 1)))) .nil) .nil) .nil)) (.cons (.ret (.var 2)) .nil)))⟩
def en103 : Ent := ⟨"_law_room", "_law_room", top 41, ["_law_capacities", "_law_placement_here"], ["_law_capacities", "_law_placement_here", "_law_found", "_law_pool"], F103⟩
def F104 : FDef := ⟨[true, false, false, false], 10, (.cons (.asg false 4 (.tupD .nil)) (.cons (.asg false 5 (.bin .Add (.lit (.int 1)) (.call 100 false (.cons (.var 0) (.cons (.lit (.int 4)) .nil))))) (.cons (.for (.name 6) (.val (.var 3)) (.cons (.asg false 7 (.call 103 false (.cons (.var 2) (.cons (.var 4) .nil)))) (.cons (.asg false 8 (.comp (.var 9) [9] (.name 9) (.val (.call 102 false (.cons (.var 1) (.cons (.var 6) .nil)))) (.cons (.cmp .Gt (.idx (.var 7) (.var 9)) (.lit (.int 0))) .nil))) (.cons (.asg false 9 (.lit .non)) (.cons (.ife (.and (.cmp .NotEq (.var 8) (.lstD .nil)) (.cmp .Eq (.call 100 false (.cons (.var 0) (.cons (.var 5) .nil))) (.lit (.int 0)))) (.cons (.asg false 9 (.idx (.var 8) (.call 100 false (.cons (.var 0) (.cons (.blt .len (.cons (.var 8) .nil)) .nil))))) .nil) .nil) (.cons (.asg false 4 (.bin .Add (.var 4) (.tupD (.cons (.var 9) .nil)))) .nil)))))) (.cons (.ret (.var 4)) .nil))))⟩
def en104 : Ent := ⟨"_law_placement", "_law_placement", top 42, ["_law_well", "_law_parents", "_law_capacities", "_law_homes"], ["_law_well", "_law_parents", "_law_capacities", "_law_homes", "_law_found", "_law_rare", "_law_home", "_law_room_here", "_law_some", "_law_pool"], F104⟩
def F105 : FDef := ⟨[false], 3, (.cons (.ret (.comp (.var 1) [1, 2] (.tup [1, 2]) (.enum (.var 0)) (.cons (.cmp .Is (.var 2) (.lit .non)) .nil))) .nil)⟩
def en105 : Ent := ⟨"_law_free", "_law_free", top 43, ["_law_placement_here"], ["_law_placement_here", "_law_request", "_law_pool"], F105⟩
def F106 : FDef := ⟨[true, false, false, false], 11, (.cons (.asg false 4 (.call 100 false (.cons (.var 0) (.cons (.meth 4 "size" (.var 1) .nil) .nil)))) (.cons (.asg false 5 (.call 80 false (.cons (.var 1) (.cons (.var 4) (.cons (.bin .Add (.meth 7 "capacity" (.var 1) (.cons (.var 4) .nil)) (.lit (.int 1))) .nil))))) (.cons (.asg false 6 (.call 29 false (.cons (.var 5) (.cons (.var 2) (.cons (.call 105 false (.cons (.var 2) .nil)) .nil))))) (.cons (.ife (.cmp .NotEq (.comp (.var 7) [7, 8] (.tup [7, 8]) (.zip (.var 3) (.var 6)) (.cons (.cmp .NotIn (.bin .Sub (.var 7) (.var 8)) (.tupD (.cons (.lit (.int 0)) (.cons (.lit (.int 1)) .nil)))) .nil)) (.lstD .nil)) (.cons (.ret (.lit (.bl false))) .nil) .nil) (.cons (.ife (.cmp .NotEq (.idx (.var 6) (.var 4)) (.blt .max2 (.cons (.lit (.int 0)) (.cons (.bin .Sub (.idx (.var 3) (.var 4)) (.lit (.int 1))) .nil)))) (.cons (.ret (.lit (.bl false))) .nil) .nil) (.cons (.asg false 9 (.call 59 false (.cons (.var 5) (.cons (.var 2) .nil)))) (.cons (.ret (.cmp .Eq (.comp (.var 10) [10] (.name 10) (.val (.call 59 false (.cons (.var 1) (.cons (.var 2) .nil)))) (.cons (.cmp .NotIn (.var 10) (.var 9)) .nil)) (.lstD .nil))) .nil)))))))⟩
def en106 : Ent := ⟨"_law_room_right", "_law_room_right", top 44, ["_law_well", "_law_setup_here", "_law_placement_here", "_law_over"], ["_law_well", "_law_setup_here", "_law_placement_here", "_law_over", "_law_pool", "_law_wide", "_law_later", "_law_one", "_law_two", "_law_safe", "_law_request"], F106⟩
def F107 : FDef := ⟨[true, false, false, false], 8, (.cons (.asg false 4 (.call 81 false (.cons (.var 1) (.cons (.lstD (.cons (.call 100 false (.cons (.var 0) (.cons (.meth 4 "size" (.var 1) .nil) .nil))) .nil)) .nil)))) (.cons (.asg false 5 (.call 29 false (.cons (.var 4) (.cons (.bin .Add (.var 2) (.tupD (.cons (.lit .non) .nil))) (.cons (.bin .Add (.call 105 false (.cons (.var 2) .nil)) (.lstD (.cons (.blt .len (.cons (.var 1) .nil)) .nil))) .nil))))) (.cons (.ret (.cmp .Eq (.comp (.var 6) [6, 7] (.tup [6, 7]) (.zip (.var 3) (.var 5)) (.cons (.cmp .NotIn (.bin .Sub (.var 7) (.var 6)) (.tupD (.cons (.lit (.int 0)) (.cons (.lit (.int 1)) .nil)))) .nil)) (.lstD .nil))) .nil)))⟩
def en107 : Ent := ⟨"_law_request_right", "_law_request_right", top 45, ["_law_well", "_law_setup_here", "_law_placement_here", "_law_over"], ["_law_well", "_law_setup_here", "_law_placement_here", "_law_over", "_law_more", "_law_later", "_law_one", "_law_two"], F107⟩
def F108 : FDef := ⟨[true, false, false, false], 5, (.cons (.asg false 4 (.call 79 false (.cons (.var 1) (.cons (.call 100 false (.cons (.var 0) (.cons (.meth 4 "size" (.var 1) .nil) .nil))) (.cons (.call 100 false (.cons (.var 0) (.cons (.lit (.int 4)) .nil))) .nil))))) (.cons (.ife (.cmp .NotEq (.call 29 false (.cons (.var 4) (.cons (.var 2) (.cons (.call 105 false (.cons (.var 2) .nil)) .nil)))) (.bin .Add (.var 3) (.lstD (.cons (.lit (.int 0)) .nil)))) (.cons (.ret (.lit (.bl false))) .nil) .nil) (.cons (.ret (.cmp .Eq (.call 59 false (.cons (.var 4) (.cons (.var 2) .nil))) (.call 59 false (.cons (.var 1) (.cons (.var 2) .nil))))) .nil)))⟩
def en108 : Ent := ⟨"_law_pool_right", "_law_pool_right", top 46, ["_law_well", "_law_setup_here", "_law_placement_here", "_law_over"], ["_law_well", "_law_setup_here", "_law_placement_here", "_law_over", "_law_more"], F108⟩
def F109 : FDef := ⟨[true, false], 9, (.cons (.asgT [2, 3, 4] (.call 101 false (.cons (.var 0) (.cons (.ife (.cmp .Eq (.var 1) (.lit (.int 0))) (.lit (.int 40)) (.lit (.int 9))) (.cons (.ife (.cmp .Eq (.var 1) (.lit (.int 0))) (.lit (.int 40)) (.lit (.int 12))) .nil))))) (.cons (.asg false 5 (.make 0 (.cons (.var 2) (.cons (.var 3) (.cons (.var 4) .nil))))) (.cons (.asg false 6 (.call 104 false (.cons (.var 0) (.cons (.var 2) (.cons (.var 3) (.cons (.var 4) .nil)))))) (.cons (.asg false 7 (.call 29 false (.cons (.var 5) (.cons (.var 6) (.cons (.call 105 false (.cons (.var 6) .nil)) .nil))))) (.cons (.asg false 8 (.call 28 false (.cons (.var 5) (.cons (.var 6) (.cons (.call 105 false (.cons (.var 6) .nil)) .nil))))) (.cons (.ife (.cmp .NotEq (.blt .len (.cons (.call 105 false (.cons (.var 8) .nil)) .nil)) (.idx (.var 7) (.lit (.int 0)))) (.cons (.ret (.lit (.bl false))) .nil) .nil) (.cons (.ife (.or (.not (.call 106 false (.cons (.var 0) (.cons (.var 5) (.cons (.var 6) (.cons (.var 7) .nil)))))) (.not (.call 107 false (.cons (.var 0) (.cons (.var 5) (.cons (.var 6) (.cons (.var 7) .nil))))))) (.cons (.ret (.lit (.bl false))) .nil) .nil) (.cons (.ret (.call 108 false (.cons (.var 0) (.cons (.var 5) (.cons (.var 6) (.cons (.var 7) .nil)))))) .nil))))))))⟩
def en109 : Ent := ⟨"_law_right", "_law_right", top 47, ["_law_well", "_law_k"], ["_law_well", "_law_k", "_law_parents", "_law_capacities", "_law_homes", "_law_setup_here", "_law_placement_here", "_law_over", "_law_later"], F109⟩
def F110 : FDef := ⟨[false], 3, (.cons (.for (.tup [1, 2]) (.enum (.slc (.bin .Add (.var 0) (.lstD (.cons (.lit (.int 0)) .nil))) .none (.some (.lit (.int 4))))) (.cons (.ife (.not (.call 109 false (.cons (.lstD (.cons (.bin .Mult (.var 2) (.blt .int (.cons (.cmp .GtE (.var 2) (.bin .Pow (.lit (.int 10)) (.lit (.int 18)))) .nil))) (.cons (.bin .Add (.bin .Mod (.var 2) (.lit (.int 2147483647))) (.bin .Mult (.lit (.int 7919)) (.var 1))) (.cons (.lit (.int 0)) .nil)))) (.cons (.var 1) .nil)))) (.cons (.ret (.lit (.bl false))) .nil) .nil) .nil)) (.cons (.ret (.lit (.bl true))) .nil))⟩
def en110 : Ent := ⟨"law", "law", top 48, ["_law_script"], ["_law_script", "_law_k", "_law_cell"], F110⟩
def es : List (Option Ent) := [some en0, some en1, some en2, some en3, some en4, some en5, some en6, some en7, some en8, some en9, some en10, some en11, some en12, some en13, some en14, some en15, some en16, none, some en18, some en19, none, none, none, none, none, none, none, some en27, some en28, some en29, some en30, some en31, none, some en33, none, none, none, none, none, none, none, none, none, none, none, none, none, none, none, none, none, none, none, none, some en54, none, some en56, none, none, some en59, none, none, none, none, none, none, none, none, none, none, none, none, none, none, none, none, none, none, some en78, some en79, some en80, some en81, none, none, none, none, none, none, none, none, none, none, none, none, none, none, none, none, none, none, some en100, some en101, some en102, some en103, some en104, some en105, some en106, some en107, some en108, some en109, some en110]
def lt : List FDef := [F100, F101, F102, F103, F104, F105, F106, F107, F108, F109, F110]
def lay : Lay where
  fns := [(0, ("is_int" : Str)), (1, ("is_from" : Str)), (12, ("check_parents" : Str)), (13, ("check_items" : Str)), (14, ("check_placement" : Str)), (15, ("room_left" : Str)), (16, ("room_of" : Str)), (18, ("with_pool" : Str)), (19, ("first_room" : Str)), (27, ("check_requests" : Str)), (28, ("fill" : Str)), (29, ("overflows" : Str)), (30, ("others_of" : Str)), (31, ("full_pools" : Str)), (33, ("check_free" : Str)), (54, ("with_branches" : Str)), (56, ("refusing_group" : Str)), (59, ("never_refused" : Str)), (78, ("check_capacity" : Str)), (79, ("grown" : Str)), (80, ("with_capacity" : Str)), (81, ("with_requests" : Str)), (100, ("_law_draw" : Str)), (101, ("_law_setup" : Str)), (102, ("_law_way" : Str)), (103, ("_law_room" : Str)), (104, ("_law_placement" : Str)), (105, ("_law_free" : Str)), (106, ("_law_room_right" : Str)), (107, ("_law_request_right" : Str)), (108, ("_law_pool_right" : Str)), (109, ("_law_right" : Str)), (110, ("law" : Str))]
  mts := [(4, "size"), (6, "parent"), (7, "capacity"), (8, "home"), (9, "way"), (10, "check_pool"), (11, "check_request")]
  mks := [(0, "Setup")]
  cons := [("MAX_SIZE", 60)]
  flds := ["parents", "capacities", "homes"]
  clsT := [(0, "Setup")]
local macro_rules | `(tactic| simp! [$ts,*]) => `(tactic| simp -implicitDefEqProofs -dsimp only [th, ks, kn, Ka0, Ka1, Kb0, Kb1, Kb2, Kb3, Kb4, Kb5, Kb6, Kb7, Kb8, Kb9, Kb10, Kb11, Kc0, Kc1, Kc2, Kc3, Kc4, Kc5, Kc6, Kc7, Kc8, Kc9, Ke0, e1, e2, Ke3, Ke4, e4', Ke5, Ke6, Ke7, Ke8, Ke9, Ke10, Ke11, Ke12, Ke13, Ke14, Ke15, Ke16, Ke17, Ke17b, Ke18, Ke19, Ke20, Ke21, Ke22, Ke23, Ke24, Ke25, t0, Kt1, Kt2, t3, l0, Kl1, l2, Kl3, l4, Kl5, Kl5a, Kl5b, Kl6, o0, Ko1, o2, Ki0, Ki1, i1', Ki2, Ki3, Ki4, Ki5, s0, Ks1, Ks2, Ks3, s3', Ks4, Ks5, Ks6, Ks7, Ks8, Ks8', Ks9, Ks10, Ks11, s12, Ks13, Ks14, s15, s16, s17, s18, Kf0, Kf1, f3, nd0, nd1, body_name, Kbody_tup, setTg_name, setTg_2, setTg_3, mk0, mk1, w0, w1, k0, k1, p0, p1, p2, p3, p4, n0, n1, n2, q0, q1, q2, q3, q4, pt0, pc0, d0, d1, d2, d4, d5, d7, d8, d9, d10, d11, d12, d13, d14, d15, x0, x1, range_0, rangeC_down, enum_map, zip_map, g0, g1, h0, h1, h2, h3, h4, h5, h6, h7, h8, h9, u0, u1, u2, u3, u4, u5, u6, u7, u8, u9, u10, u11, Kct0, Kct1, mo0, mo1, mo2, mo3, mo4, Kmo5, Kmo6, Kmo7, Kmo8, mo9, Kv0, Kv1, Kv2, Kv3, Kv4, Kv5, va0, va1, va2, rd0, rd1, rd2, sl0, sl1, ow0, ow1, fz0, fz1, fz2, fz3, fz4, re0, re1, re2, re3, re4, st0, st1, st2, pv0, pv1, il0, it0, it1, po0, po1, po2, po3, so0, so1, so2, so3, ou0, ou1, ou2, is0, is1, is2, is3, is4, is6, is7, AV.d, List.getElem?_cons_zero, List.getElem?_cons_succ, List.set_cons_zero, List.set_cons_succ, List.map_cons, List.map_nil, List.mapM_cons, List.mapM_nil, Option.pure_def, Option.bind_eq_bind, Option.bind_some, Option.map_some, Option.map_none, Option.getD_some, Option.getD_none, List.length_cons, List.length_nil, List.length_map, List.replicate, Bool.false_eq_true, Bool.true_and, Bool.and_true, Bool.false_and, Bool.and_false, Bool.not_true, Bool.not_false, Bool.and_self, if_false, if_true, decide_true, decide_false, $ts,*])
local macro_rules | `(tactic| dsimp! [$ts,*]) => `(tactic| simp -implicitDefEqProofs -dsimp only [$ts,*, List.length_cons, List.length_nil, Nat.reduceAdd, Nat.reduceSub, List.replicate, List.cons_append, List.nil_append, List.append_nil])
set_option maxHeartbeats 400000
theorem tk : TakeOk lt 100 [true, false] := aDraw_ok rfl
theorem overflows_fl {lt : List FDef} {n : Nat} {s : Su} (ok : s.Ok) {pl : List (Option Nat)} (hp : IsPl s pl) {rs : List Nat} (hr : IsReq s pl rs) :
    ∃ L : List Int, L.length = s.par.length ∧ IsFlow s.par (netOf s pl rs) (gI L) ∧ PH lt (n + 7) 29 [suD s, .tup (pl.map oD), .lst (rs.map nD)] = .ok true (.lst (L.map .int)) [] :=
  ⟨_, (over_flow ok pl hr.lt).1, (over_flow ok pl hr.lt).2, overflows_eq ok hp hr⟩
theorem netOf_at {s : Su} (ok : s.Ok) {pl : List (Option Nat)} (hp : IsPl s pl) (rs : List Nat) {p : Nat} (h : p < s.par.length) : netOf s pl rs p = ((homesOf s rs).count p : Nat) - (((s.cap.getD p 0 : Nat) : Int) - (pl.count (some p) : Nat)) := by
  unfold netOf; rw [(hp.room ok).at' p h]
theorem inds01 (l : List Nat) (p : Nat) : inds l p = 0 ∨ inds l p = 1 := by unfold inds; split <;> simp
theorem mem_zip_gI {a b : List Int} {m : Nat} (ha : a.length = m) (hb : b.length = m) {x y : Int} (h : (x, y) ∈ a.zip b) : ∃ p, p < m ∧ x = gI a p ∧ y = gI b p := by
  obtain ⟨i, hi, e⟩ := List.mem_iff_getElem.mp h
  have h1 : i < a.length := by simp at hi; omega
  have h2 : i < b.length := by simp at hi; omega
  rw [List.getElem_zip] at e
  injection e with e1 e2
  exact ⟨i, by omega, by unfold gI; rw [List.getD_eq_getElem?_getD, List.getElem?_eq_getElem h1]; exact e1.symm, by unfold gI; rw [List.getD_eq_getElem?_getD, List.getElem?_eq_getElem h2]; exact e2.symm⟩
theorem zip_all {a b : List Int} {m : Nat} (ha : a.length = m) (hb : b.length = m) {P : Int → Int → Prop} (h : ∀ p, p < m → P (gI a p) (gI b p)) : ∀ x y, (x, y) ∈ a.zip b → P x y := by
  intro x y hxy
  obtain ⟨q, hq, rfl, rfl⟩ := mem_zip_gI ha hb hxy
  exact h q hq
theorem filterMap_none {α β : Type} (l : List α) : l.filterMap (fun _ => (none : Option β)) = [] := by induction l <;> simp_all
theorem notin01 {i : Int} (h : i = 0 ∨ i = 1) : cmpop .NotIn (.int i) (.tup [.int 0, .int 1]) = some false := by rcases h with h | h <;> subst h <;> rfl
theorem ne_nn : cmpop .NotEq (.lst []) (.lst []) = some false := by rfl
theorem eq_nn : cmpop .Eq (.lst []) (.lst []) = some true := by rfl
theorem fullB_mono {par : Par} (T : Tree par) {net net' f f' : Nat → Int} (h : IsFlow par net f) (h' : IsFlow par net' f') (hn : ∀ p, p < par.length → net p ≤ net' p) {p : Nat} (hp : p < par.length) (hf : fullB par net f p = true) : fullB par net' f' p = true := by
  have hm := h.mono T h' hn
  have hk := kids_le (par := par) (p := p) (f := f) (g := f') (n := par.length) fun c hc _ => hm c hc
  unfold fullB xs at *
  have := hn p hp
  simp at hf ⊢
  omega
theorem never_sub {s s' : Su} {pl pl' : List (Option Nat)} (h : ∀ r, r ∈ freeOf pl → r ∈ freeOf pl') (hr : ∀ r, r ∈ freeOf pl → refusable s' pl' r = true → refusable s pl r = true) : ∀ r ∈ neverOf s pl, r ∈ neverOf s' pl' := by
  intro r hm
  unfold neverOf at *
  rw [List.mem_filter] at *
  refine ⟨h r hm.1, ?_⟩
  cases e : refusable s' pl' r with
  | false => rfl
  | true => have := hm.2; rw [hr r hm.1 e] at this; cases this
section
variable {n : Nat} {s : Su} {pl : List (Option Nat)} {L0 : List Int}
theorem room_right (ok : s.Ok) (hc59 : ∀ c ∈ s.cap, c ≤ 59) (hp : IsPl s pl) (hl0 : L0.length = s.par.length) (hf0 : IsFlow s.par (netOf s pl (freeOf pl)) (gI L0)) (w : Int × Int × Int) :
    ∃ w', PH lt (n + 10) 106 [wD w, suD s, .tup (pl.map oD), .lst (L0.map .int)] = .ok false (.bl true) [wD w'] := by
  have sm := ok.small
  have hm := ok.homs
  have hpos := ok.T.pos
  have hplen := hp.len
  refine PH_run (P := fun r => ∃ w', Is (.ok false (.bl true) [wD w']) r) F106 rfl rfl ?_
  dsimp! [F106]
  obtain ⟨p, w1, hp1, e1⟩ := tk.2 (n + 8) w s.par.length (by omega) (by omega)
  have hpc : p < s.cap.length := by rw [ok.cap]; exact hp1
  have hcp : s.cap.getD p 0 ≤ 59 := by
    rw [List.getD_eq_getElem?_getD, List.getElem?_eq_getElem hpc]
    exact hc59 _ (List.getElem_mem hpc)
  have ok' := withCap_ok ok (p := p) (c := s.cap.getD p 0 + 1) (by omega)
  have hcapq : ∀ q, (s.cap.set p (s.cap.getD p 0 + 1)).getD q 0 = s.cap.getD q 0 + (if q = p then 1 else 0) := fun q => by
    rw [List.getD_eq_getElem?_getD, List.getElem?_set]
    by_cases e : p = q
    · subst e; simp [hpc]
    · rw [if_neg e, if_neg (Ne.symm e)]; rfl
  have hp' : IsPl (withCap s p (s.cap.getD p 0 + 1)) pl := ⟨hp.len, hp.way, fun q hq => by
    have := hp.cap q hq
    show pl.count (some q) ≤ (s.cap.set p (s.cap.getD p 0 + 1)).getD q 0
    rw [hcapq]; omega⟩
  have hfr := free_req (s := s) (pl := pl) hp.len
  have hfr' : IsReq (withCap s p (s.cap.getD p 0 + 1)) pl (freeOf pl) := ⟨hfr.lt, hfr.nd, hfr.free⟩
  obtain ⟨L1, hl1, hf1, eo⟩ := overflows_fl (lt := lt) (n := n + 2) ok' hp' hfr'
  have hnet : ∀ rs q, q < s.par.length → netOf s pl rs q = netOf (withCap s p (s.cap.getD p 0 + 1)) pl rs q + ind p q := fun rs q hq => by
    rw [netOf_at ok hp rs hq, netOf_at ok' hp' rs (show q < (withCap s p (s.cap.getD p 0 + 1)).par.length from hq)]
    show _ = ((homesOf s rs).count q : Int) - ((((s.cap.set p (s.cap.getD p 0 + 1)).getD q 0 : Nat) : Int) - _) + _
    rw [hcapq]
    unfold ind
    split <;> omega
  have hins := (hf1.insert ok.T hp1).congr (net' := netOf s pl (freeOf pl)) (fun q hq => (hnet _ q hq).symm) (fun _ _ => rfl)
  have hrel := hf0.unique ok.T hins
  have hwc : PH lt (n + 9) 80 [suD s, .int p, .int ((s.cap.getD p 0 : Nat) + 1 : Int)] = .ok false (suD (withCap s p (s.cap.getD p 0 + 1))) [] := by
    rw [show (((s.cap.getD p 0 : Nat) : Int) + 1) = ((s.cap.getD p 0 + 1 : Nat) : Int) by omega]
    exact with_capacity_eq (lt := lt) (n := n + 4) ok hp1 (c := s.cap.getD p 0 + 1) (by omega)
  have hnv := never_refused_eq (lt := lt) (n := n) ok hp
  have hnv' := never_refused_eq (lt := lt) (n := n) ok' hp'
  have efr := bFree_eq (lt := lt) (n := n + 8) (t := 105) rfl (pl := pl) (by omega)
  have sub : ∀ r ∈ neverOf s pl, r ∈ neverOf (withCap s p (s.cap.getD p 0 + 1)) pl := never_sub (fun r h => h) fun r hr he => by
    have hlt : r < s.hom.length := by have := (mem_free.mp hr).1; omega
    unfold refusable at he ⊢
    rw [List.all_eq_true] at he ⊢
    intro q hq
    have hq' := ok.T.way_mem hq (ok.good.hom_lt hlt)
    refine fullB_mono ok.T (flowOf_is ok' pl (others_req (s := withCap s p (s.cap.getD p 0 + 1)) hp.len r).lt) (flowOf_is ok pl (others_req hp.len r).lt) (fun q hq => ?_) hq' (he q hq)
    rw [hnet _ q hq]
    unfold ind; split <;> omega
  have h01 : ∀ x y, (x, y) ∈ L0.zip L1 → x - y = 0 ∨ x - y = 1 := by
    refine zip_all hl0 (show L1.length = s.par.length from hl1) fun q hq => ?_
    have h := hrel q hq
    rcases inds01 (pass s.par (netOf (withCap s p (s.cap.getD p 0 + 1)) pl (freeOf pl)) (gI L1) p) q with h' | h' <;> omega
  simp! [tk.1, r4, size_eq, e1, r80, show (cfgG lt).raws 7 = some [false, false] from rfl, capacity_eq ok hp1, hwc, r29, show (cfgG lt).raws 105 = some [false] from rfl, efr, eo]
  refine post_map (fun _ : Int × Int => none) ?_ ?_
  · rintro ⟨x, y⟩ hxy
    simp! [notin01 (h01 x y hxy)]
  rw [filterMap_none]
  have hpl0 : p < L0.length := by rw [hl0]; exact hp1
  have hpl1 : p < L1.length := by rw [hl1]; exact hp1
  have hmx : gI L1 p = max 0 (gI L0 p - 1) := by
    have h1 := hrel p hp1
    have h2 := hf1 p hp1
    have h3 : inds (pass s.par (netOf (withCap s p (s.cap.getD p 0 + 1)) pl (freeOf pl)) (gI L1) p) p = if fullB s.par (netOf (withCap s p (s.cap.getD p 0 + 1)) pl (freeOf pl)) (gI L1) p = true then 1 else 0 := by
      unfold pass
      cases hb : fullB s.par (netOf (withCap s p (s.cap.getD p 0 + 1)) pl (freeOf pl)) (gI L1) p with
      | true => rw [way, List.takeWhile_cons, hb]; simp [inds]
      | false => rw [way, List.takeWhile_cons, hb]; simp [inds]
    have h1 : gI L0 p = gI L1 p + inds (pass s.par (netOf (withCap s p (s.cap.getD p 0 + 1)) pl (freeOf pl)) (gI L1) p) p := h1
    rw [h3] at h1
    unfold fullB xs at h1
    have h2 : gI L1 p = max 0 (netOf (withCap s p (s.cap.getD p 0 + 1)) pl (freeOf pl) p + kids s.par p (gI L1) s.par.length) := h2
    by_cases hb : 0 ≤ netOf (withCap s p (s.cap.getD p 0 + 1)) pl (freeOf pl) p + kids s.par p (gI L1) s.par.length
    · rw [decide_eq_true hb, if_pos rfl] at h1; omega
    · rw [decide_eq_false hb, if_neg (by simp)] at h1; omega
  simp! [compE_ok (show ([] : List D).length ≤ SZ by decide), ne_nn, at_I hpl0, at_I hpl1, ← hmx, beq_self_eq_true, r59, hnv', hnv]
  refine post_map (fun _ : Nat => none) ?_ ?_
  · intro r hr
    simp! [notin_natT, sub r hr]
  rw [filterMap_none]
  simp! [compE_ok (show ([] : List D).length ≤ SZ by decide), eq_nn]
  exact ⟨w1, is_rfl⟩
theorem snoc_get {l : List (Option Nat)} {r : Nat} (h : r < l.length) : (l ++ [none]).getD r none = l.getD r none := by
  rw [List.getD_eq_getElem?_getD, List.getD_eq_getElem?_getD, List.getElem?_append_left h]
theorem request_right (ok : s.Ok) (hm59 : s.hom.length ≤ 59) (hp : IsPl s pl) (hl0 : L0.length = s.par.length) (hf0 : IsFlow s.par (netOf s pl (freeOf pl)) (gI L0)) (w : Int × Int × Int) :
    ∃ w', PH lt (n + 10) 107 [wD w, suD s, .tup (pl.map oD), .lst (L0.map .int)] = .ok false (.bl true) [wD w'] := by
  have sm := ok.small
  have hpos := ok.T.pos
  have hplen := hp.len
  refine PH_run (P := fun r => ∃ w', Is (.ok false (.bl true) [wD w']) r) F107 rfl rfl ?_
  dsimp! [F107]
  obtain ⟨h, w1, hh, e1⟩ := tk.2 (n + 8) w s.par.length (by omega) (by omega)
  obtain ⟨ok', ew⟩ := with_requests_eq (lt := lt) (n := n + 4) ok (hs := [h]) (by simp; omega) (by simpa using hh)
  have ew : PH lt (n + 9) 81 [suD s, .lst [.int h]] = .ok false (suD (withReqs s [h])) [] := ew
  have hhom : ∀ r, r < s.hom.length → (s.hom ++ [h]).getD r 0 = s.hom.getD r 0 := fun r hr => by
    rw [List.getD_eq_getElem?_getD, List.getD_eq_getElem?_getD, List.getElem?_append_left hr]
  have hp' : IsPl (withReqs s [h]) (pl ++ [none]) := by
    refine ⟨by show (pl ++ [none]).length = (s.hom ++ [h]).length; simp; exact hp.len, fun r p hr => ?_, fun p hq => ?_⟩
    · have hrl : r < pl.length := by
        by_cases hc : r < pl.length
        · exact hc
        · rw [List.getElem?_append_right (by omega)] at hr
          have h2 := List.mem_of_getElem? hr
          simp at h2
      rw [List.getElem?_append_left hrl] at hr
      show p ∈ way s.par ((s.hom ++ [h]).getD r 0)
      rw [hhom r (by omega)]
      exact hp.way r p hr
    · rw [List.count_append]
      have := hp.cap p hq
      show _ + List.count (some p) [none] ≤ s.cap.getD p 0
      simp; exact this
  have hfr := free_req (s := s) (pl := pl) hp.len
  have hq' : IsReq (withReqs s [h]) (pl ++ [none]) (freeOf pl ++ [s.hom.length]) := by
    refine ⟨fun r hr => ?_, ?_, fun r hr => ?_⟩
    · show r < (s.hom ++ [h]).length
      rcases List.mem_append.mp hr with h1 | h1
      · have := hfr.lt r h1; simp; omega
      · rw [List.mem_singleton.mp h1]; simp
    · refine List.nodup_append.mpr ⟨hfr.nd, by simp, fun a ha b hb e => ?_⟩
      have := hfr.lt a ha
      rw [List.mem_singleton.mp hb] at e
      omega
    · rcases List.mem_append.mp hr with h1 | h1
      · rw [List.getElem?_append_left (by have := hfr.lt r h1; omega)]; exact hfr.free r h1
      · rw [List.mem_singleton.mp h1, ← hp.len, List.getElem?_append_right (Nat.le_refl _), Nat.sub_self]; rfl
  obtain ⟨L1, hl1, hf1, eo⟩ := overflows_fl (lt := lt) (n := n + 2) ok' hp' hq'
  have hhm : homesOf (withReqs s [h]) (freeOf pl ++ [s.hom.length]) = homesOf s (freeOf pl) ++ [h] := by
    have e1 : (freeOf pl).map (fun r => (s.hom ++ [h]).getD r 0) = (freeOf pl).map (fun r => s.hom.getD r 0) := List.map_congr_left fun r hr => hhom r (hfr.lt r hr)
    have e2 : (s.hom ++ [h]).getD s.hom.length 0 = h := by rw [List.getD_eq_getElem?_getD]; simp
    show (freeOf pl ++ [s.hom.length]).map (fun r => (s.hom ++ [h]).getD r 0) = (freeOf pl).map (fun r => s.hom.getD r 0) ++ [h]
    rw [List.map_append, e1, List.map_cons, e2]; rfl
  have hnet : ∀ q, q < s.par.length → netOf (withReqs s [h]) (pl ++ [none]) (freeOf pl ++ [s.hom.length]) q = netOf s pl (freeOf pl) q + ind h q := fun q hq => by
    rw [netOf_at ok hp _ hq, netOf_at ok' hp' _ (show q < (withReqs s [h]).par.length from hq), hhm, List.count_append, List.count_append, List.count_singleton]
    show _ - (((s.cap.getD q 0 : Nat) : Int) - _) = _
    have : List.count (some q) ([none] : List (Option Nat)) = 0 := by simp
    rw [this]
    unfold ind
    by_cases e : q = h
    · subst e; simp; omega
    · have : ¬ (h == q) = true := by simpa using (Ne.symm e)
      rw [if_neg e, if_neg this]; omega
  have hins := (hf0.insert ok.T hh).congr (net' := netOf (withReqs s [h]) (pl ++ [none]) (freeOf pl ++ [s.hom.length])) (fun q hq => (hnet q hq).symm) (fun _ _ => rfl)
  have hrel := IsFlow.unique ok.T hf1 hins
  have h01 : ∀ x y, (x, y) ∈ L0.zip L1 → y - x = 0 ∨ y - x = 1 := by
    refine zip_all hl0 (show L1.length = s.par.length from hl1) fun q hq => ?_
    have hr := hrel q hq
    rcases inds01 (pass s.par (netOf s pl (freeOf pl)) (gI L0) h) q with h' | h' <;> omega
  have efr := bFree_eq (lt := lt) (n := n + 8) (t := 105) rfl (pl := pl) (by omega)
  have hfl : (freeOf pl).length ≤ pl.length := by
    have := List.length_filter_le (fun r => decide (pl.getD r none = none)) (List.range pl.length)
    rw [List.length_range] at this
    exact this
  have e2 : pl.map oD ++ [.non] = (pl ++ [none]).map oD := by rw [List.map_append]; rfl
  have e3 : (freeOf pl).map nD ++ [.int (s.hom.length : Int)] = (freeOf pl ++ [s.hom.length]).map nD := by rw [List.map_append]; rfl
  simp! [tk.1, r4, size_eq, e1, r81, ew, r29, show (cfgG lt).raws 105 = some [false] from rfl, efr, g3 (a := pl.map oD) (b := [.non]) (by simp; omega), e2, len_eq, f4 (show (0 : Int) ≤ s.hom.length ∧ (s.hom.length : Int) < 1000000 by omega), g2 (a := (freeOf pl).map nD) (b := [.int (s.hom.length : Int)]) (by simp; omega), e3, eo]
  refine post_map (fun _ : Int × Int => none) ?_ ?_
  · rintro ⟨x, y⟩ hxy
    simp! [notin01 (h01 x y hxy)]
  rw [filterMap_none]
  simp! [compE_ok (show ([] : List D).length ≤ SZ by decide), eq_nn]
  exact ⟨w1, is_rfl⟩
theorem up_snoc {par : Par} {x : Option Nat} {p : Nat} (h : p < par.length) : up (par ++ [x]) p = up par p := by
  unfold up; rw [List.getD_eq_getElem?_getD, List.getD_eq_getElem?_getD, List.getElem?_append_left h]
theorem way_snoc {par : Par} (T : Tree par) {x : Option Nat} : ∀ {p : Nat}, p < par.length → way (par ++ [x]) p = way par p := by
  intro p
  induction p using Nat.strongRecOn with
  | _ p ih =>
    intro hp
    cases hu : up par p with
    | none => rw [way_none hu, way_none (by rw [up_snoc hp, hu])]
    | some q =>
      have hq := T.lt hu
      rw [T.way_up hu, way_some (by rw [up_snoc hp, hu]) hq.1, ih q hq.1 (by omega)]
theorem kids_snoc {par : Par} {x : Option Nat} {f : Nat → Int} {p : Nat} : ∀ {m : Nat}, m ≤ par.length → kids (par ++ [x]) p f m = kids par p f m
  | 0, _ => rfl
  | m + 1, h => by rw [kids_succ, kids_succ, kids_snoc (by omega), up_snoc (by omega)]
theorem flow_snoc {par : Par} (T : Tree par) {q : Nat} {net net' f : Nat → Int} (h : IsFlow par net f) (hn : ∀ p, p < par.length → net' p = net p) (h0 : net' par.length ≤ 0) (hq : q < par.length) :
    IsFlow (par ++ [some q]) net' (fun p => if p < par.length then f p else 0) := by
  intro p hp
  rw [List.length_append] at hp
  have hp : p < par.length + 1 := hp
  have e : ∀ p, kids (par ++ [some q]) p (fun p => if p < par.length then f p else 0) (par ++ [some q]).length = kids par p f par.length := by
    intro p
    rw [show (par ++ [some q]).length = par.length + 1 by simp, kids_succ, kids_snoc (Nat.le_refl _)]
    rw [kids_congr (g := f) fun c hc _ => if_pos hc, if_neg (Nat.lt_irrefl _)]
    split <;> omega
  rw [e]
  dsimp only
  by_cases h1 : p < par.length
  · rw [if_pos h1, h p h1, hn p h1]
  · obtain rfl : p = par.length := by omega
    rw [if_neg h1]
    have : kids par par.length f par.length = 0 := kids_zero' fun c hc hu => by
      have := T.lt hu
      omega
    omega
theorem pool_right (ok : s.Ok) (hs59 : s.par.length ≤ 59) (hp : IsPl s pl) (hl0 : L0.length = s.par.length) (hf0 : IsFlow s.par (netOf s pl (freeOf pl)) (gI L0)) (w : Int × Int × Int) :
    ∃ w', PH lt (n + 10) 108 [wD w, suD s, .tup (pl.map oD), .lst (L0.map .int)] = .ok false (.bl true) [wD w'] := by
  have sm := ok.small
  have hm := ok.homs
  have hpos := ok.T.pos
  have hplen := hp.len
  have hcl := ok.cap
  refine PH_run (P := fun r => ∃ w', Is (.ok false (.bl true) [wD w']) r) F108 rfl rfl ?_
  dsimp! [F108]
  obtain ⟨q, w1, hq, e1⟩ := tk.2 (n + 8) w s.par.length (by omega) (by omega)
  obtain ⟨c, w2, hc, e2⟩ := tk.2 (n + 8) w1 4 (by omega) (by omega)
  have e2 : PH lt (n + 9) 100 [wD w1, .int 4] = .ok false (.int c) [wD w2] := e2
  obtain ⟨ok', eg⟩ := grown_eq (lt := lt) (n := n + 4) ok (by omega) hq (c := c) (by omega)
  have hcap : ∀ p, p < s.par.length → (s.cap ++ [c]).getD p 0 = s.cap.getD p 0 := fun p h => by
    rw [List.getD_eq_getElem?_getD, List.getD_eq_getElem?_getD, List.getElem?_append_left (by omega)]
  have hbd : ∀ p, some p ∈ pl → p < s.par.length := fun p h => hp.bd ok h
  have hp' : IsPl (grownSu s q c) pl := by
    refine ⟨hp.len, fun r p hr => ?_, fun p hpp => ?_⟩
    · have h1 := hp.way r p hr
      have hrl : r < s.hom.length := by
        rw [← hp.len]
        exact (List.getElem?_eq_some_iff.mp hr).1
      show p ∈ way (s.par ++ [some q]) (s.hom.getD r 0)
      rw [way_snoc ok.T (ok.good.hom_lt hrl)]
      exact h1
    · show pl.count (some p) ≤ (s.cap ++ [c]).getD p 0
      by_cases h1 : p < s.par.length
      · rw [hcap p h1]; exact hp.cap p h1
      · rw [List.count_eq_zero.mpr fun h => h1 (hbd p h)]; omega
  have hfr := free_req (s := s) (pl := pl) hp.len
  have hfr' : IsReq (grownSu s q c) pl (freeOf pl) := ⟨hfr.lt, hfr.nd, hfr.free⟩
  have hpl' : (grownSu s q c).par.length = s.par.length + 1 := by show (s.par ++ [some q]).length = _; simp
  have hnet : ∀ rs p, p < s.par.length → netOf (grownSu s q c) pl rs p = netOf s pl rs p := fun rs p h => by
    rw [netOf_at ok hp rs h, netOf_at ok' hp' rs (by omega)]
    show _ - ((((s.cap ++ [c]).getD p 0 : Nat) : Int) - _) = _
    rw [hcap p h]; rfl
  have hnet0 : ∀ rs, (∀ r ∈ rs, r < s.hom.length) → netOf (grownSu s q c) pl rs s.par.length ≤ 0 := fun rs hr => by
    rw [netOf_at ok' hp' rs (by omega)]
    have h1 : (homesOf (grownSu s q c) rs).count s.par.length = 0 := List.count_eq_zero.mpr fun h => by
      obtain ⟨r, hr1, hr2⟩ := List.mem_map.mp h
      have := ok.good.hom_lt (hr r hr1)
      have h3 : s.hom.getD r 0 = s.par.length := hr2
      omega
    have h2 : pl.count (some s.par.length) = 0 := List.count_eq_zero.mpr fun h => by have := hbd _ h; omega
    rw [h1, h2]
    omega
  obtain ⟨L1, hl1, hf1, eo⟩ := overflows_fl (lt := lt) (n := n + 2) ok' hp' hfr'
  have hext := flow_snoc ok.T hf0 (net' := netOf (grownSu s q c) pl (freeOf pl)) (fun p h => hnet _ p h) (hnet0 _ hfr.lt) hq
  have hL : L1 = L0 ++ [0] := by
    refine ext_gI (m := s.par.length + 1) (by rw [hl1, hpl']) (by simp [hl0]) fun p h => ?_
    have h1 := hf1.unique ok'.T hext p (by omega)
    rw [h1]
    unfold gI
    rw [List.getD_eq_getElem?_getD (l := L0 ++ [0])]
    by_cases h2 : p < s.par.length
    · rw [if_pos h2, List.getElem?_append_left (by omega), List.getD_eq_getElem?_getD]
    · rw [if_neg h2, List.getElem?_append_right (by omega), show p - L0.length = 0 by omega]; rfl
  have hnv := never_refused_eq (lt := lt) (n := n) ok hp
  have hnv' := never_refused_eq (lt := lt) (n := n) ok' hp'
  have hne : neverOf (grownSu s q c) pl = neverOf s pl := by
    unfold neverOf
    apply List.filter_congr
    intro r hr
    have hlt : r < s.hom.length := by have := (mem_free.mp hr).1; omega
    have ho := others_req (s := s) hp.len r
    have hext2 := flow_snoc ok.T (flowOf_is ok pl ho.lt) (net' := netOf (grownSu s q c) pl (othersOf pl r)) (fun p h => hnet _ p h) (hnet0 _ ho.lt) hq
    have hfeq := (flowOf_is ok' pl (others_req (s := grownSu s q c) hp.len r).lt).unique ok'.T hext2
    have key : refusable (grownSu s q c) pl r = refusable s pl r := by
      unfold refusable
      rw [show way (grownSu s q c).par ((grownSu s q c).hom.getD r 0) = way s.par (s.hom.getD r 0) from way_snoc ok.T (ok.good.hom_lt hlt)]
      have hal : ∀ l : List Nat, (∀ p ∈ l, p < s.par.length) → l.all (fullOf (grownSu s q c) pl (othersOf pl r)) = l.all (fullOf s pl (othersOf pl r)) := by
        intro l
        induction l with
        | nil => intro _; rfl
        | cons a l ih =>
          intro hl
          have ha := hl a List.mem_cons_self
          rw [List.all_cons, List.all_cons, ih fun p hp => hl p (List.mem_cons_of_mem _ hp)]
          have : fullOf (grownSu s q c) pl (othersOf pl r) a = fullOf s pl (othersOf pl r) a := by
            unfold fullOf fullB xs
            rw [hnet _ a ha, hpl', kids_succ]
            rw [show (grownSu s q c).par = s.par ++ [some q] from rfl, kids_snoc (Nat.le_refl _)]
            have h1 := hfeq s.par.length (by omega)
            rw [if_neg (Nat.lt_irrefl _)] at h1
            rw [h1]
            rw [kids_congr (g := flowOf s pl (othersOf pl r)) fun c' hc' _ => by rw [hfeq c' (by omega), if_pos hc']]
            rw [ite_self, Int.add_zero]
          rw [this]
      exact hal _ fun p hpm => ok.T.way_mem hpm (ok.good.hom_lt hlt)
    rw [key]
  have efr := bFree_eq (lt := lt) (n := n + 8) (t := 105) rfl (pl := pl) (by omega)
  have e3 : L0.map D.int ++ [.int 0] = (L0 ++ [0]).map .int := by rw [List.map_append]; rfl
  rw [hL] at eo
  rw [hne] at hnv'
  simp! [tk.1, r4, size_eq, e1, e2, r79, eg, r29, show (cfgG lt).raws 105 = some [false] from rfl, efr, eo, g2 (a := L0.map D.int) (b := [.int 0]) (by simp; omega), e3, encI.neL, r59, hnv, hnv', encN.eqT]
  exact ⟨w2, is_rfl⟩
theorem right_eq {n : Nat} (w : Int × Int × Int) (k : Nat) : ∃ w', PH lt (n + 11) 109 [wD w, .int k] = .ok false (.bl true) [wD w'] := by
  refine PH_run (P := fun r => ∃ w', Is (.ok false (.bl true) [wD w']) r) F109 rfl rfl ?_
  dsimp! [F109]
  have key : ∃ pools reqs : Nat, 0 < pools ∧ pools ≤ 40 ∧ reqs ≤ 40 ∧ (((k : Int) == 0) = true ∧ pools = 40 ∧ reqs = 40 ∨ ((k : Int) == 0) = false ∧ pools = 9 ∧ reqs = 12) := by
    cases h : ((k : Int) == 0) with
    | true => exact ⟨40, 40, by omega, by omega, by omega, Or.inl ⟨rfl, rfl, rfl⟩⟩
    | false => exact ⟨9, 12, by omega, by omega, by omega, Or.inr ⟨rfl, rfl, rfl⟩⟩
  obtain ⟨pools, reqs, h1, h2, h3, hk⟩ := key
  obtain ⟨s, w1, hs, e1⟩ := bSetup_eq (lt := lt) (n := n + 8) (t := 100) (m := 101) tk rfl w (pools := pools) (requests := reqs) h1 (by omega) (by omega)
  have ok := hs.ok (by omega) (by omega) (by omega)
  have sm := hs.pools
  have hm := hs.homs
  have hpos := ok.T.pos
  have ei := init_eq (lt := lt) (n := n + 6) ok
  obtain ⟨pl, w2, hp, e2⟩ := bPlacement_eq (lt := lt) (n := n + 8) (t := 104) (dr := 100) (wy := 102) (rm := 103) tk rfl rfl rfl ok w1
  have hplen := hp.len
  have hfr := free_req (s := s) (pl := pl) hp.len
  obtain ⟨L0, hl0, hf0, eo⟩ := overflows_fl (lt := lt) (n := n + 3) ok hp hfr
  have efr := bFree_eq (lt := lt) (n := n + 9) (t := 105) rfl (pl := pl) (by omega)
  have efl := fill_eq (lt := lt) (n := n + 3) ok hp hfr
  have hp2 := fillAll_pl hp hfr
  have hp2l := hp2.len
  have efr2 := bFree_eq (lt := lt) (n := n + 9) (t := 105) rfl (pl := fillAll s pl (freeOf pl)) (by omega)
  obtain ⟨w3, e3⟩ := room_right (n := n) ok (fun c hc => by have := hs.caps c hc; omega) hp hl0 hf0 w2
  obtain ⟨w4, e4⟩ := request_right (n := n) ok (by omega) hp hl0 hf0 w3
  obtain ⟨w5, e5⟩ := pool_right (n := n) ok (by omega) hp hl0 hf0 w4
  have hcnt : ((freeOf (fillAll s pl (freeOf pl))).length : Int) = gI L0 0 := by
    obtain ⟨f, F⟩ := fillAll_FS ok hp hfr
    rw [hf0.unique ok.T F.flow 0 hpos, ← F.ref]
    refine congrArg (fun n : Nat => (n : Int)) (List.Perm.length_eq ?_)
    refine (List.perm_ext_iff_of_nodup (List.nodup_range.filter _) (hfr.nd.filter _)).mpr fun r => ?_
    rw [show List.filter (fun r => decide ((fillAll s pl (freeOf pl)).getD r none = none)) (List.range (fillAll s pl (freeOf pl)).length) = freeOf (fillAll s pl (freeOf pl)) from rfl, mem_free, List.mem_filter, mem_free]
    constructor
    · rintro ⟨ha, hb⟩
      refine ⟨⟨by omega, ?_⟩, by simpa using hb⟩
      by_cases hr : r ∈ freeOf pl
      · exact (mem_free.mp hr).2
      · rw [fillAll_ne s _ pl hr] at hb; exact hb
    · rintro ⟨⟨ha, hb⟩, hc⟩
      exact ⟨by omega, by simpa using hc⟩
  have hL00 : FB.atI (L0.map D.int) 0 = some (.int (gI L0 0)) := at_I (p := 0) (by rw [hl0]; exact hpos)
  have e1' : PH lt (n + 10) 101 [wD w, .int pools, .int reqs] = .ok false (.tup [.lst (s.par.map oD), .lst (s.cap.map nD), .lst (s.hom.map nD)]) [wD w1] := e1
  rcases hk with ⟨hk0, rfl, rfl⟩ | ⟨hk0, rfl, rfl⟩
  · have e1'' : PH lt (n + 10) 101 [wD w, .int 40, .int 40] = .ok false (.tup [.lst (s.par.map oD), .lst (s.cap.map nD), .lst (s.hom.map nD)]) [wD w1] := e1'
    simp! [hk0, show (cfgG lt).raws 101 = some [true, false, false] from rfl, e1'', init0, r2, ei, show (cfgG lt).raws 104 = some [true, false, false, false] from rfl, e2, show (cfgG lt).raws 105 = some [false] from rfl, efr, r29, eo, r28, efl, efr2, hcnt, hL00, beq_self_eq_true, show (cfgG lt).raws 106 = some [true, false, false, false] from rfl, e3, show (cfgG lt).raws 107 = some [true, false, false, false] from rfl, e4, show (cfgG lt).raws 108 = some [true, false, false, false] from rfl, e5]
    exact ⟨w5, is_rfl⟩
  · have e1'' : PH lt (n + 10) 101 [wD w, .int 9, .int 12] = .ok false (.tup [.lst (s.par.map oD), .lst (s.cap.map nD), .lst (s.hom.map nD)]) [wD w1] := e1'
    simp! [hk0, show (cfgG lt).raws 101 = some [true, false, false] from rfl, e1'', init0, r2, ei, show (cfgG lt).raws 104 = some [true, false, false, false] from rfl, e2, show (cfgG lt).raws 105 = some [false] from rfl, efr, r29, eo, r28, efl, efr2, hcnt, hL00, beq_self_eq_true, show (cfgG lt).raws 106 = some [true, false, false, false] from rfl, e3, show (cfgG lt).raws 107 = some [true, false, false, false] from rfl, e4, show (cfgG lt).raws 108 = some [true, false, false, false] from rfl, e5]
    exact ⟨w5, is_rfl⟩
end
theorem law_eq {n : Nat} (ns : List Int) (hl : ns.length ≤ 63) : PH lt (n + 12) 110 [.lst (ns.map .int)] = .ok false (.bl true) [] := by
  refine PH_eq F110 rfl rfl ?_
  dsimp! [F110]
  have e0 : (ns.map D.int ++ [D.int 0]) = (ns ++ [0]).map D.int := by rw [List.map_append]; rfl
  have e1 : cutD ((ns ++ [0]).map D.int) none (some 4) = ((ns ++ [0]).take 4).map D.int := by rw [List.map_take]; exact cut_take _ 4
  simp! [g2 (a := ns.map D.int) (b := [.int 0]) (by simp; omega), e0, slc_lst, e1]
  refine post_look (fun (j : Option FB.Slot × Option FB.Slot) => [some ⟨false, .lst (ns.map .int)⟩, j.1, j.2]) (none, none) rfl ?_ ?_
  · rintro ⟨x, i⟩ hx j
    obtain ⟨w', e3⟩ := right_eq (n := n) (x * (if decide (1000000000000000000 ≤ x) = true then 1 else 0), x % 2147483647 + 7919 * i, 0) i
    unfold wD at e3
    simp! [show (cfgG lt).raws 109 = some [true, false] from rfl, pow18, g4 (i := x) (j := if decide (1000000000000000000 ≤ x) = true then 1 else 0) (Or.inr (by split <;> omega)), g6 (i := x) (j := 2147483647) (by omega), g4 (i := 7919) (j := (i : Int)) (Or.inl (by omega)), e3]
    exact ⟨(_, _), rfl⟩
  · intro j
    simp! []
    exact is_rfl
theorem law_run : ∀ ns : List Int, ns.length ≤ 63 → Phi (cfgG lt) (tabG lt) 12 110 [.lst (ns.map .int)] = .ok false (.bl true) [] := fun ns h => law_eq (n := 0) ns h

end FB

set_option Elab.async false
set_option linter.all false
set_option maxRecDepth 100000
namespace FB
open PySem PySem.Spec PyProof.Rows L2
theorem chk_all : okEs lay es = true := by decide +kernel
theorem cfg_ok : CfgOk (cfgG lt) (tabG lt) es := by
  have h : ∀ f e, es[f]? = some (some e) → tabG lt f = some e.F := by
    intro f e h
    have hf : f < 111 := (List.getElem?_eq_some_iff.mp h).1
    match f, hf, h with
    | 0, _, h => cases (Option.some.inj (Option.some.inj h)); rfl
    | 1, _, h => cases (Option.some.inj (Option.some.inj h)); rfl
    | 2, _, h => cases (Option.some.inj (Option.some.inj h)); rfl
    | 3, _, h => cases (Option.some.inj (Option.some.inj h)); rfl
    | 4, _, h => cases (Option.some.inj (Option.some.inj h)); rfl
    | 5, _, h => cases (Option.some.inj (Option.some.inj h)); rfl
    | 6, _, h => cases (Option.some.inj (Option.some.inj h)); rfl
    | 7, _, h => cases (Option.some.inj (Option.some.inj h)); rfl
    | 8, _, h => cases (Option.some.inj (Option.some.inj h)); rfl
    | 9, _, h => cases (Option.some.inj (Option.some.inj h)); rfl
    | 10, _, h => cases (Option.some.inj (Option.some.inj h)); rfl
    | 11, _, h => cases (Option.some.inj (Option.some.inj h)); rfl
    | 12, _, h => cases (Option.some.inj (Option.some.inj h)); rfl
    | 13, _, h => cases (Option.some.inj (Option.some.inj h)); rfl
    | 14, _, h => cases (Option.some.inj (Option.some.inj h)); rfl
    | 15, _, h => cases (Option.some.inj (Option.some.inj h)); rfl
    | 16, _, h => cases (Option.some.inj (Option.some.inj h)); rfl
    | 17, _, h => exact nomatch (Option.some.inj (show some none = some (some e) from h))
    | 18, _, h => cases (Option.some.inj (Option.some.inj h)); rfl
    | 19, _, h => cases (Option.some.inj (Option.some.inj h)); rfl
    | 20, _, h => exact nomatch (Option.some.inj (show some none = some (some e) from h))
    | 21, _, h => exact nomatch (Option.some.inj (show some none = some (some e) from h))
    | 22, _, h => exact nomatch (Option.some.inj (show some none = some (some e) from h))
    | 23, _, h => exact nomatch (Option.some.inj (show some none = some (some e) from h))
    | 24, _, h => exact nomatch (Option.some.inj (show some none = some (some e) from h))
    | 25, _, h => exact nomatch (Option.some.inj (show some none = some (some e) from h))
    | 26, _, h => exact nomatch (Option.some.inj (show some none = some (some e) from h))
    | 27, _, h => cases (Option.some.inj (Option.some.inj h)); rfl
    | 28, _, h => cases (Option.some.inj (Option.some.inj h)); rfl
    | 29, _, h => cases (Option.some.inj (Option.some.inj h)); rfl
    | 30, _, h => cases (Option.some.inj (Option.some.inj h)); rfl
    | 31, _, h => cases (Option.some.inj (Option.some.inj h)); rfl
    | 32, _, h => exact nomatch (Option.some.inj (show some none = some (some e) from h))
    | 33, _, h => cases (Option.some.inj (Option.some.inj h)); rfl
    | 34, _, h => exact nomatch (Option.some.inj (show some none = some (some e) from h))
    | 35, _, h => exact nomatch (Option.some.inj (show some none = some (some e) from h))
    | 36, _, h => exact nomatch (Option.some.inj (show some none = some (some e) from h))
    | 37, _, h => exact nomatch (Option.some.inj (show some none = some (some e) from h))
    | 38, _, h => exact nomatch (Option.some.inj (show some none = some (some e) from h))
    | 39, _, h => exact nomatch (Option.some.inj (show some none = some (some e) from h))
    | 40, _, h => exact nomatch (Option.some.inj (show some none = some (some e) from h))
    | 41, _, h => exact nomatch (Option.some.inj (show some none = some (some e) from h))
    | 42, _, h => exact nomatch (Option.some.inj (show some none = some (some e) from h))
    | 43, _, h => exact nomatch (Option.some.inj (show some none = some (some e) from h))
    | 44, _, h => exact nomatch (Option.some.inj (show some none = some (some e) from h))
    | 45, _, h => exact nomatch (Option.some.inj (show some none = some (some e) from h))
    | 46, _, h => exact nomatch (Option.some.inj (show some none = some (some e) from h))
    | 47, _, h => exact nomatch (Option.some.inj (show some none = some (some e) from h))
    | 48, _, h => exact nomatch (Option.some.inj (show some none = some (some e) from h))
    | 49, _, h => exact nomatch (Option.some.inj (show some none = some (some e) from h))
    | 50, _, h => exact nomatch (Option.some.inj (show some none = some (some e) from h))
    | 51, _, h => exact nomatch (Option.some.inj (show some none = some (some e) from h))
    | 52, _, h => exact nomatch (Option.some.inj (show some none = some (some e) from h))
    | 53, _, h => exact nomatch (Option.some.inj (show some none = some (some e) from h))
    | 54, _, h => cases (Option.some.inj (Option.some.inj h)); rfl
    | 55, _, h => exact nomatch (Option.some.inj (show some none = some (some e) from h))
    | 56, _, h => cases (Option.some.inj (Option.some.inj h)); rfl
    | 57, _, h => exact nomatch (Option.some.inj (show some none = some (some e) from h))
    | 58, _, h => exact nomatch (Option.some.inj (show some none = some (some e) from h))
    | 59, _, h => cases (Option.some.inj (Option.some.inj h)); rfl
    | 60, _, h => exact nomatch (Option.some.inj (show some none = some (some e) from h))
    | 61, _, h => exact nomatch (Option.some.inj (show some none = some (some e) from h))
    | 62, _, h => exact nomatch (Option.some.inj (show some none = some (some e) from h))
    | 63, _, h => exact nomatch (Option.some.inj (show some none = some (some e) from h))
    | 64, _, h => exact nomatch (Option.some.inj (show some none = some (some e) from h))
    | 65, _, h => exact nomatch (Option.some.inj (show some none = some (some e) from h))
    | 66, _, h => exact nomatch (Option.some.inj (show some none = some (some e) from h))
    | 67, _, h => exact nomatch (Option.some.inj (show some none = some (some e) from h))
    | 68, _, h => exact nomatch (Option.some.inj (show some none = some (some e) from h))
    | 69, _, h => exact nomatch (Option.some.inj (show some none = some (some e) from h))
    | 70, _, h => exact nomatch (Option.some.inj (show some none = some (some e) from h))
    | 71, _, h => exact nomatch (Option.some.inj (show some none = some (some e) from h))
    | 72, _, h => exact nomatch (Option.some.inj (show some none = some (some e) from h))
    | 73, _, h => exact nomatch (Option.some.inj (show some none = some (some e) from h))
    | 74, _, h => exact nomatch (Option.some.inj (show some none = some (some e) from h))
    | 75, _, h => exact nomatch (Option.some.inj (show some none = some (some e) from h))
    | 76, _, h => exact nomatch (Option.some.inj (show some none = some (some e) from h))
    | 77, _, h => exact nomatch (Option.some.inj (show some none = some (some e) from h))
    | 78, _, h => cases (Option.some.inj (Option.some.inj h)); rfl
    | 79, _, h => cases (Option.some.inj (Option.some.inj h)); rfl
    | 80, _, h => cases (Option.some.inj (Option.some.inj h)); rfl
    | 81, _, h => cases (Option.some.inj (Option.some.inj h)); rfl
    | 82, _, h => exact nomatch (Option.some.inj (show some none = some (some e) from h))
    | 83, _, h => exact nomatch (Option.some.inj (show some none = some (some e) from h))
    | 84, _, h => exact nomatch (Option.some.inj (show some none = some (some e) from h))
    | 85, _, h => exact nomatch (Option.some.inj (show some none = some (some e) from h))
    | 86, _, h => exact nomatch (Option.some.inj (show some none = some (some e) from h))
    | 87, _, h => exact nomatch (Option.some.inj (show some none = some (some e) from h))
    | 88, _, h => exact nomatch (Option.some.inj (show some none = some (some e) from h))
    | 89, _, h => exact nomatch (Option.some.inj (show some none = some (some e) from h))
    | 90, _, h => exact nomatch (Option.some.inj (show some none = some (some e) from h))
    | 91, _, h => exact nomatch (Option.some.inj (show some none = some (some e) from h))
    | 92, _, h => exact nomatch (Option.some.inj (show some none = some (some e) from h))
    | 93, _, h => exact nomatch (Option.some.inj (show some none = some (some e) from h))
    | 94, _, h => exact nomatch (Option.some.inj (show some none = some (some e) from h))
    | 95, _, h => exact nomatch (Option.some.inj (show some none = some (some e) from h))
    | 96, _, h => exact nomatch (Option.some.inj (show some none = some (some e) from h))
    | 97, _, h => exact nomatch (Option.some.inj (show some none = some (some e) from h))
    | 98, _, h => exact nomatch (Option.some.inj (show some none = some (some e) from h))
    | 99, _, h => exact nomatch (Option.some.inj (show some none = some (some e) from h))
    | 100, _, h => cases (Option.some.inj (Option.some.inj h)); rfl
    | 101, _, h => cases (Option.some.inj (Option.some.inj h)); rfl
    | 102, _, h => cases (Option.some.inj (Option.some.inj h)); rfl
    | 103, _, h => cases (Option.some.inj (Option.some.inj h)); rfl
    | 104, _, h => cases (Option.some.inj (Option.some.inj h)); rfl
    | 105, _, h => cases (Option.some.inj (Option.some.inj h)); rfl
    | 106, _, h => cases (Option.some.inj (Option.some.inj h)); rfl
    | 107, _, h => cases (Option.some.inj (Option.some.inj h)); rfl
    | 108, _, h => cases (Option.some.inj (Option.some.inj h)); rfl
    | 109, _, h => cases (Option.some.inj (Option.some.inj h)); rfl
    | 110, _, h => cases (Option.some.inj (Option.some.inj h)); rfl
  exact ⟨fun f e he => by show (tabG lt f).map (·.raw) = _; rw [h f e he]; rfl, h⟩
set_option maxHeartbeats 4000000 in
theorem all_mk {l : PySem.W.OpenLaw} {w : World} {K : PySem.W.Frag} {h : Heap} {mg : Str → Option Value} {fa C f0 f1 f2 f3 f4 f5 f6 f7 f8 f9 f10 f11 f12 f13 f14 f15 f16 f18 f19 f27 f28 f29 f30 f31 f33 f54 f56 f59 f78 f79 f80 f81 f100 f101 f102 f103 f104 f105 f106 f107 f108 f109 f110 : Addr} (X : K.In h) (G : h.Ns mainGlobals mg) (hfa : mg "law" = some (.ref fa))
    {od0 an0 od1 an1 od2 an2 od3 an3 od4 an4 od5 an5 od6 an6 od7 an7 od8 an8 od9 an9 od10 an10 od11 an11 od12 an12 od13 an13 od14 an14 od15 an15 od16 an16 od18 an18 od19 an19 od27 an27 od28 an28 od29 an29 od30 an30 od31 an31 od33 an33 od54 an54 od56 an56 od59 an59 od78 an78 od79 an79 od80 an80 od81 an81 od100 an100 od101 an101 od102 an102 od103 an103 od104 an104 od105 an105 od106 an106 od107 an107 od108 an108 od109 an109 od110 an110 : Option Addr} {sl0 sl1 sl2 sl3 sl4 sl5 sl6 sl7 sl8 sl9 sl10 sl11 sl12 sl13 sl14 sl15 sl16 sl18 sl19 sl27 sl28 sl29 sl30 sl31 sl33 sl54 sl56 sl59 sl78 sl79 sl80 sl81 sl100 sl101 sl102 sl103 sl104 sl105 sl106 sl107 sl108 sl109 sl110 : Array (Option Value)} {oc0 kV0 dc0 pm0 cd0 ct0 oc1 kV1 dc1 pm1 cd1 ct1 oc2 kV2 dc2 pm2 cd2 ct2 oc3 kV3 dc3 pm3 cd3 ct3 oc4 kV4 dc4 pm4 cd4 ct4 oc5 kV5 dc5 pm5 cd5 ct5 oc6 kV6 dc6 pm6 cd6 ct6 oc7 kV7 dc7 pm7 cd7 ct7 oc8 kV8 dc8 pm8 cd8 ct8 oc9 kV9 dc9 pm9 cd9 ct9 oc10 kV10 dc10 pm10 cd10 ct10 oc11 kV11 dc11 pm11 cd11 ct11 oc12 kV12 dc12 pm12 cd12 ct12 oc13 kV13 dc13 pm13 cd13 ct13 oc14 kV14 dc14 pm14 cd14 ct14 oc15 kV15 dc15 pm15 cd15 ct15 oc16 kV16 dc16 pm16 cd16 ct16 oc18 kV18 dc18 pm18 cd18 ct18 oc19 kV19 dc19 pm19 cd19 ct19 oc27 kV27 dc27 pm27 cd27 ct27 oc28 kV28 dc28 pm28 cd28 ct28 oc29 kV29 dc29 pm29 cd29 ct29 oc30 kV30 dc30 pm30 cd30 ct30 oc31 kV31 dc31 pm31 cd31 ct31 oc33 kV33 dc33 pm33 cd33 ct33 oc54 kV54 dc54 pm54 cd54 ct54 oc56 kV56 dc56 pm56 cd56 ct56 oc59 kV59 dc59 pm59 cd59 ct59 oc78 kV78 dc78 pm78 cd78 ct78 oc79 kV79 dc79 pm79 cd79 ct79 oc80 kV80 dc80 pm80 cd80 ct80 oc81 kV81 dc81 pm81 cd81 ct81 oc100 kV100 dc100 pm100 cd100 ct100 oc101 kV101 dc101 pm101 cd101 ct101 oc102 kV102 dc102 pm102 cd102 ct102 oc103 kV103 dc103 pm103 cd103 ct103 oc104 kV104 dc104 pm104 cd104 ct104 oc105 kV105 dc105 pm105 cd105 ct105 oc106 kV106 dc106 pm106 cd106 ct106 oc107 kV107 dc107 pm107 cd107 ct107 oc108 kV108 dc108 pm108 cd108 ct108 oc109 kV109 dc109 pm109 cd109 ct109 oc110 kV110 dc110 pm110 cd110 ct110 : Value} {tq0 : Tok}
    (aC : PySem.W.nsIn K mainGlobals "Setup" = some (some (.ref C)))
    (a0 : PySem.W.nsIn K mainGlobals "is_int" = some (some (.ref f0)))
    (l0 : K.lookup f0 = some ⟨oc0, od0, .func (PySem.W.fnOf "is_int" "is_int" (defArgs (top 9)) (defBody (top 9)) (defScope (top 9)) .none kV0 dc0 pm0 an0 cd0 ct0), sl0⟩)
    (c0 : PySem.W.codeIn K cd0 "is_int" = true)
    (k0 : PySem.W.keepIn K (.ref f0) = true)
    (a1 : PySem.W.nsIn K mainGlobals "is_from" = some (some (.ref f1)))
    (l1 : K.lookup f1 = some ⟨oc1, od1, .func (PySem.W.fnOf "is_from" "is_from" (defArgs (top 10)) (defBody (top 10)) (defScope (top 10)) .none kV1 dc1 pm1 an1 cd1 ct1), sl1⟩)
    (c1 : PySem.W.codeIn K cd1 "is_from" = true)
    (k1 : PySem.W.keepIn K (.ref f1) = true)
    (a2 : PySem.W.findIn K (.ref C) "__init__" = some (some (.ref f2)))
    (i2 : PySem.W.isFn K (.ref f2) = true)
    (l2 : K.lookup f2 = some ⟨oc2, od2, .func (PySem.W.fnOf "__init__" "Setup.__init__" (defArgs (inClass (top 11) 0)) (defBody (inClass (top 11) 0)) (defScope (inClass (top 11) 0)) .none kV2 dc2 pm2 an2 cd2 ct2), sl2⟩)
    (c2 : PySem.W.codeIn K cd2 "Setup.__init__" = true)
    (k2 : PySem.W.keepIn K (.ref f2) = true)
    (a3 : PySem.W.findIn K (.ref C) "__eq__" = some (some (.ref f3)))
    (i3 : PySem.W.isFn K (.ref f3) = true)
    (l3 : K.lookup f3 = some ⟨oc3, od3, .func (PySem.W.fnOf "__eq__" "Setup.__eq__" (defArgs (inClass (top 11) 1)) (defBody (inClass (top 11) 1)) (defScope (inClass (top 11) 1)) .none kV3 dc3 pm3 an3 cd3 ct3), sl3⟩)
    (c3 : PySem.W.codeIn K cd3 "Setup.__eq__" = true)
    (k3 : PySem.W.keepIn K (.ref f3) = true)
    (a4 : PySem.W.findIn K (.ref C) "size" = some (some (.ref f4)))
    (i4 : PySem.W.isFn K (.ref f4) = true)
    (l4 : K.lookup f4 = some ⟨oc4, od4, .func (PySem.W.fnOf "size" "Setup.size" (defArgs (inClass (top 11) 2)) (defBody (inClass (top 11) 2)) (defScope (inClass (top 11) 2)) .none kV4 dc4 pm4 an4 cd4 ct4), sl4⟩)
    (c4 : PySem.W.codeIn K cd4 "Setup.size" = true)
    (k4 : PySem.W.keepIn K (.ref f4) = true)
    (a5 : PySem.W.findIn K (.ref C) "__len__" = some (some (.ref f5)))
    (i5 : PySem.W.isFn K (.ref f5) = true)
    (l5 : K.lookup f5 = some ⟨oc5, od5, .func (PySem.W.fnOf "__len__" "Setup.__len__" (defArgs (inClass (top 11) 3)) (defBody (inClass (top 11) 3)) (defScope (inClass (top 11) 3)) .none kV5 dc5 pm5 an5 cd5 ct5), sl5⟩)
    (c5 : PySem.W.codeIn K cd5 "Setup.__len__" = true)
    (k5 : PySem.W.keepIn K (.ref f5) = true)
    (a6 : PySem.W.findIn K (.ref C) "parent" = some (some (.ref f6)))
    (i6 : PySem.W.isFn K (.ref f6) = true)
    (l6 : K.lookup f6 = some ⟨oc6, od6, .func (PySem.W.fnOf "parent" "Setup.parent" (defArgs (inClass (top 11) 4)) (defBody (inClass (top 11) 4)) (defScope (inClass (top 11) 4)) .none kV6 dc6 pm6 an6 cd6 ct6), sl6⟩)
    (c6 : PySem.W.codeIn K cd6 "Setup.parent" = true)
    (k6 : PySem.W.keepIn K (.ref f6) = true)
    (a7 : PySem.W.findIn K (.ref C) "capacity" = some (some (.ref f7)))
    (i7 : PySem.W.isFn K (.ref f7) = true)
    (l7 : K.lookup f7 = some ⟨oc7, od7, .func (PySem.W.fnOf "capacity" "Setup.capacity" (defArgs (inClass (top 11) 5)) (defBody (inClass (top 11) 5)) (defScope (inClass (top 11) 5)) .none kV7 dc7 pm7 an7 cd7 ct7), sl7⟩)
    (c7 : PySem.W.codeIn K cd7 "Setup.capacity" = true)
    (k7 : PySem.W.keepIn K (.ref f7) = true)
    (a8 : PySem.W.findIn K (.ref C) "home" = some (some (.ref f8)))
    (i8 : PySem.W.isFn K (.ref f8) = true)
    (l8 : K.lookup f8 = some ⟨oc8, od8, .func (PySem.W.fnOf "home" "Setup.home" (defArgs (inClass (top 11) 6)) (defBody (inClass (top 11) 6)) (defScope (inClass (top 11) 6)) .none kV8 dc8 pm8 an8 cd8 ct8), sl8⟩)
    (c8 : PySem.W.codeIn K cd8 "Setup.home" = true)
    (k8 : PySem.W.keepIn K (.ref f8) = true)
    (a9 : PySem.W.findIn K (.ref C) "way" = some (some (.ref f9)))
    (i9 : PySem.W.isFn K (.ref f9) = true)
    (l9 : K.lookup f9 = some ⟨oc9, od9, .func (PySem.W.fnOf "way" "Setup.way" (defArgs (inClass (top 11) 7)) (defBody (inClass (top 11) 7)) (defScope (inClass (top 11) 7)) .none kV9 dc9 pm9 an9 cd9 ct9), sl9⟩)
    (c9 : PySem.W.codeIn K cd9 "Setup.way" = true)
    (k9 : PySem.W.keepIn K (.ref f9) = true)
    (a10 : PySem.W.findIn K (.ref C) "check_pool" = some (some (.ref f10)))
    (i10 : PySem.W.isFn K (.ref f10) = true)
    (l10 : K.lookup f10 = some ⟨oc10, od10, .func (PySem.W.fnOf "check_pool" "Setup.check_pool" (defArgs (inClass (top 11) 8)) (defBody (inClass (top 11) 8)) (defScope (inClass (top 11) 8)) .none kV10 dc10 pm10 an10 cd10 ct10), sl10⟩)
    (c10 : PySem.W.codeIn K cd10 "Setup.check_pool" = true)
    (k10 : PySem.W.keepIn K (.ref f10) = true)
    (a11 : PySem.W.findIn K (.ref C) "check_request" = some (some (.ref f11)))
    (i11 : PySem.W.isFn K (.ref f11) = true)
    (l11 : K.lookup f11 = some ⟨oc11, od11, .func (PySem.W.fnOf "check_request" "Setup.check_request" (defArgs (inClass (top 11) 9)) (defBody (inClass (top 11) 9)) (defScope (inClass (top 11) 9)) .none kV11 dc11 pm11 an11 cd11 ct11), sl11⟩)
    (c11 : PySem.W.codeIn K cd11 "Setup.check_request" = true)
    (k11 : PySem.W.keepIn K (.ref f11) = true)
    (a12 : PySem.W.nsIn K mainGlobals "check_parents" = some (some (.ref f12)))
    (l12 : K.lookup f12 = some ⟨oc12, od12, .func (PySem.W.fnOf "check_parents" "check_parents" (defArgs (top 12)) (defBody (top 12)) (defScope (top 12)) .none kV12 dc12 pm12 an12 cd12 ct12), sl12⟩)
    (c12 : PySem.W.codeIn K cd12 "check_parents" = true)
    (k12 : PySem.W.keepIn K (.ref f12) = true)
    (a13 : PySem.W.nsIn K mainGlobals "check_items" = some (some (.ref f13)))
    (l13 : K.lookup f13 = some ⟨oc13, od13, .func (PySem.W.fnOf "check_items" "check_items" (defArgs (top 13)) (defBody (top 13)) (defScope (top 13)) .none kV13 dc13 pm13 an13 cd13 ct13), sl13⟩)
    (c13 : PySem.W.codeIn K cd13 "check_items" = true)
    (k13 : PySem.W.keepIn K (.ref f13) = true)
    (a14 : PySem.W.nsIn K mainGlobals "check_placement" = some (some (.ref f14)))
    (l14 : K.lookup f14 = some ⟨oc14, od14, .func (PySem.W.fnOf "check_placement" "check_placement" (defArgs (top 15)) (defBody (top 15)) (defScope (top 15)) .none kV14 dc14 pm14 an14 cd14 ct14), sl14⟩)
    (c14 : PySem.W.codeIn K cd14 "check_placement" = true)
    (k14 : PySem.W.keepIn K (.ref f14) = true)
    (a15 : PySem.W.nsIn K mainGlobals "room_left" = some (some (.ref f15)))
    (l15 : K.lookup f15 = some ⟨oc15, od15, .func (PySem.W.fnOf "room_left" "room_left" (defArgs (top 16)) (defBody (top 16)) (defScope (top 16)) .none kV15 dc15 pm15 an15 cd15 ct15), sl15⟩)
    (c15 : PySem.W.codeIn K cd15 "room_left" = true)
    (k15 : PySem.W.keepIn K (.ref f15) = true)
    (a16 : PySem.W.nsIn K mainGlobals "room_of" = some (some (.ref f16)))
    (l16 : K.lookup f16 = some ⟨oc16, od16, .func (PySem.W.fnOf "room_of" "room_of" (defArgs (top 17)) (defBody (top 17)) (defScope (top 17)) .none kV16 dc16 pm16 an16 cd16 ct16), sl16⟩)
    (c16 : PySem.W.codeIn K cd16 "room_of" = true)
    (k16 : PySem.W.keepIn K (.ref f16) = true)
    (a18 : PySem.W.nsIn K mainGlobals "with_pool" = some (some (.ref f18)))
    (l18 : K.lookup f18 = some ⟨oc18, od18, .func (PySem.W.fnOf "with_pool" "with_pool" (defArgs (top 18)) (defBody (top 18)) (defScope (top 18)) .none kV18 dc18 pm18 an18 cd18 ct18), sl18⟩)
    (c18 : PySem.W.codeIn K cd18 "with_pool" = true)
    (k18 : PySem.W.keepIn K (.ref f18) = true)
    (a19 : PySem.W.nsIn K mainGlobals "first_room" = some (some (.ref f19)))
    (l19 : K.lookup f19 = some ⟨oc19, od19, .func (PySem.W.fnOf "first_room" "first_room" (defArgs (top 19)) (defBody (top 19)) (defScope (top 19)) .none kV19 dc19 pm19 an19 cd19 ct19), sl19⟩)
    (c19 : PySem.W.codeIn K cd19 "first_room" = true)
    (k19 : PySem.W.keepIn K (.ref f19) = true)
    (a27 : PySem.W.nsIn K mainGlobals "check_requests" = some (some (.ref f27)))
    (l27 : K.lookup f27 = some ⟨oc27, od27, .func (PySem.W.fnOf "check_requests" "check_requests" (defArgs (top 26)) (defBody (top 26)) (defScope (top 26)) .none kV27 dc27 pm27 an27 cd27 ct27), sl27⟩)
    (c27 : PySem.W.codeIn K cd27 "check_requests" = true)
    (k27 : PySem.W.keepIn K (.ref f27) = true)
    (a28 : PySem.W.nsIn K mainGlobals "fill" = some (some (.ref f28)))
    (l28 : K.lookup f28 = some ⟨oc28, od28, .func (PySem.W.fnOf "fill" "fill" (defArgs (top 27)) (defBody (top 27)) (defScope (top 27)) .none kV28 dc28 pm28 an28 cd28 ct28), sl28⟩)
    (c28 : PySem.W.codeIn K cd28 "fill" = true)
    (k28 : PySem.W.keepIn K (.ref f28) = true)
    (a29 : PySem.W.nsIn K mainGlobals "overflows" = some (some (.ref f29)))
    (l29 : K.lookup f29 = some ⟨oc29, od29, .func (PySem.W.fnOf "overflows" "overflows" (defArgs (top 28)) (defBody (top 28)) (defScope (top 28)) .none kV29 dc29 pm29 an29 cd29 ct29), sl29⟩)
    (c29 : PySem.W.codeIn K cd29 "overflows" = true)
    (k29 : PySem.W.keepIn K (.ref f29) = true)
    (a30 : PySem.W.nsIn K mainGlobals "others_of" = some (some (.ref f30)))
    (l30 : K.lookup f30 = some ⟨oc30, od30, .func (PySem.W.fnOf "others_of" "others_of" (defArgs (top 30)) (defBody (top 30)) (defScope (top 30)) .none kV30 dc30 pm30 an30 cd30 ct30), sl30⟩)
    (c30 : PySem.W.codeIn K cd30 "others_of" = true)
    (k30 : PySem.W.keepIn K (.ref f30) = true)
    (a31 : PySem.W.nsIn K mainGlobals "full_pools" = some (some (.ref f31)))
    (l31 : K.lookup f31 = some ⟨oc31, od31, .func (PySem.W.fnOf "full_pools" "full_pools" (defArgs (top 31)) (defBody (top 31)) (defScope (top 31)) .none kV31 dc31 pm31 an31 cd31 ct31), sl31⟩)
    (c31 : PySem.W.codeIn K cd31 "full_pools" = true)
    (k31 : PySem.W.keepIn K (.ref f31) = true)
    (a33 : PySem.W.nsIn K mainGlobals "check_free" = some (some (.ref f33)))
    (l33 : K.lookup f33 = some ⟨oc33, od33, .func (PySem.W.fnOf "check_free" "check_free" (defArgs (top 32)) (defBody (top 32)) (defScope (top 32)) .none kV33 dc33 pm33 an33 cd33 ct33), sl33⟩)
    (c33 : PySem.W.codeIn K cd33 "check_free" = true)
    (k33 : PySem.W.keepIn K (.ref f33) = true)
    (a54 : PySem.W.nsIn K mainGlobals "with_branches" = some (some (.ref f54)))
    (l54 : K.lookup f54 = some ⟨oc54, od54, .func (PySem.W.fnOf "with_branches" "with_branches" (defArgs (top 34)) (defBody (top 34)) (defScope (top 34)) .none kV54 dc54 pm54 an54 cd54 ct54), sl54⟩)
    (c54 : PySem.W.codeIn K cd54 "with_branches" = true)
    (k54 : PySem.W.keepIn K (.ref f54) = true)
    (a56 : PySem.W.nsIn K mainGlobals "refusing_group" = some (some (.ref f56)))
    (l56 : K.lookup f56 = some ⟨oc56, od56, .func (PySem.W.fnOf "refusing_group" "refusing_group" (defArgs (top 35)) (defBody (top 35)) (defScope (top 35)) .none kV56 dc56 pm56 an56 cd56 ct56), sl56⟩)
    (c56 : PySem.W.codeIn K cd56 "refusing_group" = true)
    (k56 : PySem.W.keepIn K (.ref f56) = true)
    (a59 : PySem.W.nsIn K mainGlobals "never_refused" = some (some (.ref f59)))
    (l59 : K.lookup f59 = some ⟨oc59, od59, .func (PySem.W.fnOf "never_refused" "never_refused" (defArgs (top 36)) (defBody (top 36)) (defScope (top 36)) .none kV59 dc59 pm59 an59 cd59 ct59), sl59⟩)
    (c59 : PySem.W.codeIn K cd59 "never_refused" = true)
    (k59 : PySem.W.keepIn K (.ref f59) = true)
    (a78 : PySem.W.nsIn K mainGlobals "check_capacity" = some (some (.ref f78)))
    (l78 : K.lookup f78 = some ⟨oc78, od78, .func (PySem.W.fnOf "check_capacity" "check_capacity" (defArgs (top 21)) (defBody (top 21)) (defScope (top 21)) .none kV78 dc78 pm78 an78 cd78 ct78), sl78⟩)
    (c78 : PySem.W.codeIn K cd78 "check_capacity" = true)
    (k78 : PySem.W.keepIn K (.ref f78) = true)
    (a79 : PySem.W.nsIn K mainGlobals "grown" = some (some (.ref f79)))
    (l79 : K.lookup f79 = some ⟨oc79, od79, .func (PySem.W.fnOf "grown" "grown" (defArgs (top 22)) (defBody (top 22)) (defScope (top 22)) .none kV79 dc79 pm79 an79 cd79 ct79), sl79⟩)
    (c79 : PySem.W.codeIn K cd79 "grown" = true)
    (k79 : PySem.W.keepIn K (.ref f79) = true)
    (a80 : PySem.W.nsIn K mainGlobals "with_capacity" = some (some (.ref f80)))
    (l80 : K.lookup f80 = some ⟨oc80, od80, .func (PySem.W.fnOf "with_capacity" "with_capacity" (defArgs (top 23)) (defBody (top 23)) (defScope (top 23)) .none kV80 dc80 pm80 an80 cd80 ct80), sl80⟩)
    (c80 : PySem.W.codeIn K cd80 "with_capacity" = true)
    (k80 : PySem.W.keepIn K (.ref f80) = true)
    (a81 : PySem.W.nsIn K mainGlobals "with_requests" = some (some (.ref f81)))
    (l81 : K.lookup f81 = some ⟨oc81, od81, .func (PySem.W.fnOf "with_requests" "with_requests" (defArgs (top 24)) (defBody (top 24)) (defScope (top 24)) .none kV81 dc81 pm81 an81 cd81 ct81), sl81⟩)
    (c81 : PySem.W.codeIn K cd81 "with_requests" = true)
    (k81 : PySem.W.keepIn K (.ref f81) = true)
    (a100 : PySem.W.nsIn K mainGlobals "_law_draw" = some (some (.ref f100)))
    (l100 : K.lookup f100 = some ⟨oc100, od100, .func (PySem.W.fnOf "_law_draw" "_law_draw" (defArgs (top 38)) (defBody (top 38)) (defScope (top 38)) .none kV100 dc100 pm100 an100 cd100 ct100), sl100⟩)
    (c100 : PySem.W.codeIn K cd100 "_law_draw" = true)
    (k100 : PySem.W.keepIn K (.ref f100) = true)
    (a101 : PySem.W.nsIn K mainGlobals "_law_setup" = some (some (.ref f101)))
    (l101 : K.lookup f101 = some ⟨oc101, od101, .func (PySem.W.fnOf "_law_setup" "_law_setup" (defArgs (top 39)) (defBody (top 39)) (defScope (top 39)) .none kV101 dc101 pm101 an101 cd101 ct101), sl101⟩)
    (c101 : PySem.W.codeIn K cd101 "_law_setup" = true)
    (k101 : PySem.W.keepIn K (.ref f101) = true)
    (a102 : PySem.W.nsIn K mainGlobals "_law_way" = some (some (.ref f102)))
    (l102 : K.lookup f102 = some ⟨oc102, od102, .func (PySem.W.fnOf "_law_way" "_law_way" (defArgs (top 40)) (defBody (top 40)) (defScope (top 40)) .none kV102 dc102 pm102 an102 cd102 ct102), sl102⟩)
    (c102 : PySem.W.codeIn K cd102 "_law_way" = true)
    (k102 : PySem.W.keepIn K (.ref f102) = true)
    (a103 : PySem.W.nsIn K mainGlobals "_law_room" = some (some (.ref f103)))
    (l103 : K.lookup f103 = some ⟨oc103, od103, .func (PySem.W.fnOf "_law_room" "_law_room" (defArgs (top 41)) (defBody (top 41)) (defScope (top 41)) .none kV103 dc103 pm103 an103 cd103 ct103), sl103⟩)
    (c103 : PySem.W.codeIn K cd103 "_law_room" = true)
    (k103 : PySem.W.keepIn K (.ref f103) = true)
    (a104 : PySem.W.nsIn K mainGlobals "_law_placement" = some (some (.ref f104)))
    (l104 : K.lookup f104 = some ⟨oc104, od104, .func (PySem.W.fnOf "_law_placement" "_law_placement" (defArgs (top 42)) (defBody (top 42)) (defScope (top 42)) .none kV104 dc104 pm104 an104 cd104 ct104), sl104⟩)
    (c104 : PySem.W.codeIn K cd104 "_law_placement" = true)
    (k104 : PySem.W.keepIn K (.ref f104) = true)
    (a105 : PySem.W.nsIn K mainGlobals "_law_free" = some (some (.ref f105)))
    (l105 : K.lookup f105 = some ⟨oc105, od105, .func (PySem.W.fnOf "_law_free" "_law_free" (defArgs (top 43)) (defBody (top 43)) (defScope (top 43)) .none kV105 dc105 pm105 an105 cd105 ct105), sl105⟩)
    (c105 : PySem.W.codeIn K cd105 "_law_free" = true)
    (k105 : PySem.W.keepIn K (.ref f105) = true)
    (a106 : PySem.W.nsIn K mainGlobals "_law_room_right" = some (some (.ref f106)))
    (l106 : K.lookup f106 = some ⟨oc106, od106, .func (PySem.W.fnOf "_law_room_right" "_law_room_right" (defArgs (top 44)) (defBody (top 44)) (defScope (top 44)) .none kV106 dc106 pm106 an106 cd106 ct106), sl106⟩)
    (c106 : PySem.W.codeIn K cd106 "_law_room_right" = true)
    (k106 : PySem.W.keepIn K (.ref f106) = true)
    (a107 : PySem.W.nsIn K mainGlobals "_law_request_right" = some (some (.ref f107)))
    (l107 : K.lookup f107 = some ⟨oc107, od107, .func (PySem.W.fnOf "_law_request_right" "_law_request_right" (defArgs (top 45)) (defBody (top 45)) (defScope (top 45)) .none kV107 dc107 pm107 an107 cd107 ct107), sl107⟩)
    (c107 : PySem.W.codeIn K cd107 "_law_request_right" = true)
    (k107 : PySem.W.keepIn K (.ref f107) = true)
    (a108 : PySem.W.nsIn K mainGlobals "_law_pool_right" = some (some (.ref f108)))
    (l108 : K.lookup f108 = some ⟨oc108, od108, .func (PySem.W.fnOf "_law_pool_right" "_law_pool_right" (defArgs (top 46)) (defBody (top 46)) (defScope (top 46)) .none kV108 dc108 pm108 an108 cd108 ct108), sl108⟩)
    (c108 : PySem.W.codeIn K cd108 "_law_pool_right" = true)
    (k108 : PySem.W.keepIn K (.ref f108) = true)
    (a109 : PySem.W.nsIn K mainGlobals "_law_right" = some (some (.ref f109)))
    (l109 : K.lookup f109 = some ⟨oc109, od109, .func (PySem.W.fnOf "_law_right" "_law_right" (defArgs (top 47)) (defBody (top 47)) (defScope (top 47)) .none kV109 dc109 pm109 an109 cd109 ct109), sl109⟩)
    (c109 : PySem.W.codeIn K cd109 "_law_right" = true)
    (k109 : PySem.W.keepIn K (.ref f109) = true)
    (a110 : PySem.W.nsIn K mainGlobals "law" = some (some (.ref f110)))
    (l110 : K.lookup f110 = some ⟨oc110, od110, .func (PySem.W.fnOf "law" "law" (defArgs (top 48)) (defBody (top 48)) (defScope (top 48)) .none kV110 dc110 pm110 an110 cd110 ct110), sl110⟩)
    (c110 : PySem.W.codeIn K cd110 "law" = true)
    (k110 : PySem.W.keepIn K (.ref f110) = true)
    (pg : PySem.W.plainGet K C Str.empty = true)
    (hd : PySem.W.hasDictIn K C = true)
    (po : PySem.W.plainOver K C = true)
    (sa : PySem.W.findIn K (.ref C) "__setattr__" = some (some (.builtin "object.__setattr__")))
    (mk : PySem.W.makesIn K C = true)
    (kc : PySem.W.keepIn K (.ref C) = true)
    (n0 : PySem.W.findIn K (.ref C) "parents" = some none)
    (n1 : PySem.W.findIn K (.ref C) "capacities" = some none)
    (n2 : PySem.W.findIn K (.ref C) "homes" = some none)
    (z0 : PySem.W.nsIn K mainGlobals "len" = some none)
    (z1 : PySem.W.nsIn K mainGlobals "max" = some none)
    (z2 : PySem.W.nsIn K mainGlobals "min" = some none)
    (z3 : PySem.W.nsIn K mainGlobals "sum" = some none)
    (z4 : PySem.W.nsIn K mainGlobals "sorted" = some none)
    (z5 : PySem.W.nsIn K mainGlobals "tuple" = some none)
    (z6 : PySem.W.nsIn K mainGlobals "list" = some none)
    (z7 : PySem.W.nsIn K mainGlobals "int" = some none)
    (z8 : PySem.W.nsIn K mainGlobals "abs" = some none)
    (z9 : PySem.W.nsIn K mainGlobals "all" = some none)
    (z10 : PySem.W.nsIn K mainGlobals "set" = some none)
    (z11 : PySem.W.nsIn K mainGlobals "repr" = some none)
    (z12 : PySem.W.nsIn K mainGlobals "isinstance" = some none)
    (z13 : PySem.W.nsIn K mainGlobals "range" = some none)
    (z14 : PySem.W.nsIn K mainGlobals "enumerate" = some none)
    (z15 : PySem.W.nsIn K mainGlobals "zip" = some none)
    (z16 : PySem.W.nsIn K mainGlobals "bool" = some none)
    (z17 : PySem.W.nsIn K mainGlobals "str" = some none)
    (q0 : PySem.W.nsIn K mainGlobals "MAX_SIZE" = some (some (.int 60 tq0)))
    (ha : PySem.W.findIn K (.ref C) "__class__" = some (some (.builtin "object.__class__")))
    (hn : PySem.W.specialIn K (.builtin "object.__class__") "__get__" = some (some (.builtin "getset_descriptor.__get__")))
    (htk : PySem.W.takesIn K (.builtin "object.__class__") = some true)
    (hm : PySem.W.mroIn K C (.type "object") = some true)
    (u0 : PySem.W.subIn K (.ref C) (.type "int") = some false)
    (u1 : PySem.W.subIn K (.ref C) (.type "bool") = some false)
    (u2 : PySem.W.subIn K (.ref C) (.type "list") = some false)
    (u3 : PySem.W.subIn K (.ref C) (.type "tuple") = some false)
    (u4 : PySem.W.subIn K (.ref C) (.type "str") = some false)
    (nl : noLists K = true)
    : ∃ fd : FuncData, (∀ (s : Shared) (v : Value), BindsTo s fd ⟨[v], []⟩ [("_law_script", v)]) ∧ ∀ base : Heap, K.In base → base.Ns mainGlobals mg → FnOk l.prog w K mg base (L2.CX l.prog w) (2 * 12) fa fd ["_law_script"] (spLaw K) := by
  have e := hfa.symm.trans (PySem.W.mg_of X G a110)
  cases e
  have cC : Cls K C := ⟨pg, hd, po, sa⟩
  have o0 : EntOk K en0 f0 := ⟨_, fun_mk l0 c0 k0, (fun_mk (st := top 9) l0 c0 k0).binds (ps := ["value"]) fun _ _ _ _ _ _ us hl => match us, hl with | [_], _ => rfl⟩
  have o1 : EntOk K en1 f1 := ⟨_, fun_mk l1 c1 k1, (fun_mk (st := top 10) l1 c1 k1).binds (ps := ["value", "low", "high"]) fun _ _ _ _ _ _ us hl => match us, hl with | [_, _, _], _ => rfl⟩
  have o2 : EntOk K en2 f2 := ⟨_, fun_mk l2 c2 k2, (fun_mk (st := inClass (top 11) 0) l2 c2 k2).binds (ps := ["self", "parents", "capacities", "homes"]) fun _ _ _ _ _ _ us hl => match us, hl with | [_, _, _, _], _ => rfl⟩
  have o3 : EntOk K en3 f3 := ⟨_, fun_mk l3 c3 k3, (fun_mk (st := inClass (top 11) 1) l3 c3 k3).binds (ps := ["self", "other"]) fun _ _ _ _ _ _ us hl => match us, hl with | [_, _], _ => rfl⟩
  have o4 : EntOk K en4 f4 := ⟨_, fun_mk l4 c4 k4, (fun_mk (st := inClass (top 11) 2) l4 c4 k4).binds (ps := ["self"]) fun _ _ _ _ _ _ us hl => match us, hl with | [_], _ => rfl⟩
  have o5 : EntOk K en5 f5 := ⟨_, fun_mk l5 c5 k5, (fun_mk (st := inClass (top 11) 3) l5 c5 k5).binds (ps := ["self"]) fun _ _ _ _ _ _ us hl => match us, hl with | [_], _ => rfl⟩
  have o6 : EntOk K en6 f6 := ⟨_, fun_mk l6 c6 k6, (fun_mk (st := inClass (top 11) 4) l6 c6 k6).binds (ps := ["self", "pool"]) fun _ _ _ _ _ _ us hl => match us, hl with | [_, _], _ => rfl⟩
  have o7 : EntOk K en7 f7 := ⟨_, fun_mk l7 c7 k7, (fun_mk (st := inClass (top 11) 5) l7 c7 k7).binds (ps := ["self", "pool"]) fun _ _ _ _ _ _ us hl => match us, hl with | [_, _], _ => rfl⟩
  have o8 : EntOk K en8 f8 := ⟨_, fun_mk l8 c8 k8, (fun_mk (st := inClass (top 11) 6) l8 c8 k8).binds (ps := ["self", "request"]) fun _ _ _ _ _ _ us hl => match us, hl with | [_, _], _ => rfl⟩
  have o9 : EntOk K en9 f9 := ⟨_, fun_mk l9 c9 k9, (fun_mk (st := inClass (top 11) 7) l9 c9 k9).binds (ps := ["self", "pool"]) fun _ _ _ _ _ _ us hl => match us, hl with | [_, _], _ => rfl⟩
  have o10 : EntOk K en10 f10 := ⟨_, fun_mk l10 c10 k10, (fun_mk (st := inClass (top 11) 8) l10 c10 k10).binds (ps := ["self", "pool"]) fun _ _ _ _ _ _ us hl => match us, hl with | [_, _], _ => rfl⟩
  have o11 : EntOk K en11 f11 := ⟨_, fun_mk l11 c11 k11, (fun_mk (st := inClass (top 11) 9) l11 c11 k11).binds (ps := ["self", "request"]) fun _ _ _ _ _ _ us hl => match us, hl with | [_, _], _ => rfl⟩
  have o12 : EntOk K en12 f12 := ⟨_, fun_mk l12 c12 k12, (fun_mk (st := top 12) l12 c12 k12).binds (ps := ["parents"]) fun _ _ _ _ _ _ us hl => match us, hl with | [_], _ => rfl⟩
  have o13 : EntOk K en13 f13 := ⟨_, fun_mk l13 c13 k13, (fun_mk (st := top 13) l13 c13 k13).binds (ps := ["part", "values", "least", "most", "high"]) fun _ _ _ _ _ _ us hl => match us, hl with | [_, _, _, _, _], _ => rfl⟩
  have o14 : EntOk K en14 f14 := ⟨_, fun_mk l14 c14 k14, (fun_mk (st := top 15) l14 c14 k14).binds (ps := ["setup", "placement"]) fun _ _ _ _ _ _ us hl => match us, hl with | [_, _], _ => rfl⟩
  have o15 : EntOk K en15 f15 := ⟨_, fun_mk l15 c15 k15, (fun_mk (st := top 16) l15 c15 k15).binds (ps := ["setup", "placement"]) fun _ _ _ _ _ _ us hl => match us, hl with | [_, _], _ => rfl⟩
  have o16 : EntOk K en16 f16 := ⟨_, fun_mk l16 c16 k16, (fun_mk (st := top 17) l16 c16 k16).binds (ps := ["setup", "placement"]) fun _ _ _ _ _ _ us hl => match us, hl with | [_, _], _ => rfl⟩
  have o18 : EntOk K en18 f18 := ⟨_, fun_mk l18 c18 k18, (fun_mk (st := top 18) l18 c18 k18).binds (ps := ["placement", "request", "pool"]) fun _ _ _ _ _ _ us hl => match us, hl with | [_, _, _], _ => rfl⟩
  have o19 : EntOk K en19 f19 := ⟨_, fun_mk l19 c19 k19, (fun_mk (st := top 19) l19 c19 k19).binds (ps := ["setup", "room", "request"]) fun _ _ _ _ _ _ us hl => match us, hl with | [_, _, _], _ => rfl⟩
  have o27 : EntOk K en27 f27 := ⟨_, fun_mk l27 c27 k27, (fun_mk (st := top 26) l27 c27 k27).binds (ps := ["setup", "placement", "requests"]) fun _ _ _ _ _ _ us hl => match us, hl with | [_, _, _], _ => rfl⟩
  have o28 : EntOk K en28 f28 := ⟨_, fun_mk l28 c28 k28, (fun_mk (st := top 27) l28 c28 k28).binds (ps := ["setup", "placement", "requests"]) fun _ _ _ _ _ _ us hl => match us, hl with | [_, _, _], _ => rfl⟩
  have o29 : EntOk K en29 f29 := ⟨_, fun_mk l29 c29 k29, (fun_mk (st := top 28) l29 c29 k29).binds (ps := ["setup", "placement", "requests"]) fun _ _ _ _ _ _ us hl => match us, hl with | [_, _, _], _ => rfl⟩
  have o30 : EntOk K en30 f30 := ⟨_, fun_mk l30 c30 k30, (fun_mk (st := top 30) l30 c30 k30).binds (ps := ["setup", "placement", "request"]) fun _ _ _ _ _ _ us hl => match us, hl with | [_, _, _], _ => rfl⟩
  have o31 : EntOk K en31 f31 := ⟨_, fun_mk l31 c31 k31, (fun_mk (st := top 31) l31 c31 k31).binds (ps := ["setup", "room", "requests"]) fun _ _ _ _ _ _ us hl => match us, hl with | [_, _, _], _ => rfl⟩
  have o33 : EntOk K en33 f33 := ⟨_, fun_mk l33 c33 k33, (fun_mk (st := top 32) l33 c33 k33).binds (ps := ["setup", "placement", "request"]) fun _ _ _ _ _ _ us hl => match us, hl with | [_, _, _], _ => rfl⟩
  have o54 : EntOk K en54 f54 := ⟨_, fun_mk l54 c54 k54, (fun_mk (st := top 34) l54 c54 k54).binds (ps := ["setup", "over", "pools"]) fun _ _ _ _ _ _ us hl => match us, hl with | [_, _, _], _ => rfl⟩
  have o56 : EntOk K en56 f56 := ⟨_, fun_mk l56 c56 k56, (fun_mk (st := top 35) l56 c56 k56).binds (ps := ["setup", "placement", "request"]) fun _ _ _ _ _ _ us hl => match us, hl with | [_, _, _], _ => rfl⟩
  have o59 : EntOk K en59 f59 := ⟨_, fun_mk l59 c59 k59, (fun_mk (st := top 36) l59 c59 k59).binds (ps := ["setup", "placement"]) fun _ _ _ _ _ _ us hl => match us, hl with | [_, _], _ => rfl⟩
  have o78 : EntOk K en78 f78 := ⟨_, fun_mk l78 c78 k78, (fun_mk (st := top 21) l78 c78 k78).binds (ps := ["capacity", "index"]) fun _ _ _ _ _ _ us hl => match us, hl with | [_, _], _ => rfl⟩
  have o79 : EntOk K en79 f79 := ⟨_, fun_mk l79 c79 k79, (fun_mk (st := top 22) l79 c79 k79).binds (ps := ["setup", "parent", "capacity"]) fun _ _ _ _ _ _ us hl => match us, hl with | [_, _, _], _ => rfl⟩
  have o80 : EntOk K en80 f80 := ⟨_, fun_mk l80 c80 k80, (fun_mk (st := top 23) l80 c80 k80).binds (ps := ["setup", "pool", "capacity"]) fun _ _ _ _ _ _ us hl => match us, hl with | [_, _, _], _ => rfl⟩
  have o81 : EntOk K en81 f81 := ⟨_, fun_mk l81 c81 k81, (fun_mk (st := top 24) l81 c81 k81).binds (ps := ["setup", "homes"]) fun _ _ _ _ _ _ us hl => match us, hl with | [_, _], _ => rfl⟩
  have o100 : EntOk K en100 f100 := ⟨_, fun_mk l100 c100 k100, (fun_mk (st := top 38) l100 c100 k100).binds (ps := ["_law_well", "_law_limit"]) fun _ _ _ _ _ _ us hl => match us, hl with | [_, _], _ => rfl⟩
  have o101 : EntOk K en101 f101 := ⟨_, fun_mk l101 c101 k101, (fun_mk (st := top 39) l101 c101 k101).binds (ps := ["_law_well", "_law_pools_most", "_law_requests_most"]) fun _ _ _ _ _ _ us hl => match us, hl with | [_, _, _], _ => rfl⟩
  have o102 : EntOk K en102 f102 := ⟨_, fun_mk l102 c102 k102, (fun_mk (st := top 40) l102 c102 k102).binds (ps := ["_law_parents", "_law_pool"]) fun _ _ _ _ _ _ us hl => match us, hl with | [_, _], _ => rfl⟩
  have o103 : EntOk K en103 f103 := ⟨_, fun_mk l103 c103 k103, (fun_mk (st := top 41) l103 c103 k103).binds (ps := ["_law_capacities", "_law_placement_here"]) fun _ _ _ _ _ _ us hl => match us, hl with | [_, _], _ => rfl⟩
  have o104 : EntOk K en104 f104 := ⟨_, fun_mk l104 c104 k104, (fun_mk (st := top 42) l104 c104 k104).binds (ps := ["_law_well", "_law_parents", "_law_capacities", "_law_homes"]) fun _ _ _ _ _ _ us hl => match us, hl with | [_, _, _, _], _ => rfl⟩
  have o105 : EntOk K en105 f105 := ⟨_, fun_mk l105 c105 k105, (fun_mk (st := top 43) l105 c105 k105).binds (ps := ["_law_placement_here"]) fun _ _ _ _ _ _ us hl => match us, hl with | [_], _ => rfl⟩
  have o106 : EntOk K en106 f106 := ⟨_, fun_mk l106 c106 k106, (fun_mk (st := top 44) l106 c106 k106).binds (ps := ["_law_well", "_law_setup_here", "_law_placement_here", "_law_over"]) fun _ _ _ _ _ _ us hl => match us, hl with | [_, _, _, _], _ => rfl⟩
  have o107 : EntOk K en107 f107 := ⟨_, fun_mk l107 c107 k107, (fun_mk (st := top 45) l107 c107 k107).binds (ps := ["_law_well", "_law_setup_here", "_law_placement_here", "_law_over"]) fun _ _ _ _ _ _ us hl => match us, hl with | [_, _, _, _], _ => rfl⟩
  have o108 : EntOk K en108 f108 := ⟨_, fun_mk l108 c108 k108, (fun_mk (st := top 46) l108 c108 k108).binds (ps := ["_law_well", "_law_setup_here", "_law_placement_here", "_law_over"]) fun _ _ _ _ _ _ us hl => match us, hl with | [_, _, _, _], _ => rfl⟩
  have o109 : EntOk K en109 f109 := ⟨_, fun_mk l109 c109 k109, (fun_mk (st := top 47) l109 c109 k109).binds (ps := ["_law_well", "_law_k"]) fun _ _ _ _ _ _ us hl => match us, hl with | [_, _], _ => rfl⟩
  have o110 : EntOk K en110 fa := ⟨_, fun_mk l110 c110 k110, (fun_mk (st := top 48) l110 c110 k110).binds (ps := ["_law_script"]) fun _ _ _ _ _ _ us hl => match us, hl with | [_], _ => rfl⟩
  have S1 : ∀ n ∈ (["int", "bool", "list", "tuple", "str"] : List String), PySem.W.kitOne K (.ref C) (.type n) = some false := by
    intro n hn
    simp only [List.mem_cons, List.not_mem_nil, or_false] at hn
    rcases hn with rfl | rfl | rfl | rfl | rfl
    · exact kit_sub u0 (by decide +kernel)
    · exact kit_sub u1 (by decide +kernel)
    · exact kit_sub u2 (by decide +kernel)
    · exact kit_sub u3 (by decide +kernel)
    · exact kit_sub u4 (by decide +kernel)
  have S3 : ∀ c f, (cfgG lt).lenF c = some f → hasE es f = true ∧ (cfgG lt).raws f = some [false] ∧ PySem.W.findIn K (.ref C) "__len__" = some (some (.ref (List.getD [f0, f1, f2, f3, f4, f5, f6, f7, f8, f9, f10, f11, f12, f13, f14, f15, f16, 0, f18, f19, 0, 0, 0, 0, 0, 0, 0, f27, f28, f29, f30, f31, 0, f33, 0, 0, 0, 0, 0, 0, 0, 0, 0, 0, 0, 0, 0, 0, 0, 0, 0, 0, 0, 0, f54, 0, f56, 0, 0, f59, 0, 0, 0, 0, 0, 0, 0, 0, 0, 0, 0, 0, 0, 0, 0, 0, 0, 0, f78, f79, f80, f81, 0, 0, 0, 0, 0, 0, 0, 0, 0, 0, 0, 0, 0, 0, 0, 0, 0, 0, f100, f101, f102, f103, f104, f105, f106, f107, f108, f109, fa] f 0))) ∧ PySem.W.isFn K (.ref (List.getD [f0, f1, f2, f3, f4, f5, f6, f7, f8, f9, f10, f11, f12, f13, f14, f15, f16, 0, f18, f19, 0, 0, 0, 0, 0, 0, 0, f27, f28, f29, f30, f31, 0, f33, 0, 0, 0, 0, 0, 0, 0, 0, 0, 0, 0, 0, 0, 0, 0, 0, 0, 0, 0, 0, f54, 0, f56, 0, 0, f59, 0, 0, 0, 0, 0, 0, 0, 0, 0, 0, 0, 0, 0, 0, 0, 0, 0, 0, f78, f79, f80, f81, 0, 0, 0, 0, 0, 0, 0, 0, 0, 0, 0, 0, 0, 0, 0, 0, 0, 0, f100, f101, f102, f103, f104, f105, f106, f107, f108, f109, fa] f 0)) = true := by
    intro c f hc
    have hc := (show (if c = 0 then some 5 else none) = some f from hc)
    split at hc
    · cases hc; exact ⟨rfl, rfl, a5, i5⟩
    · cases hc
  have S : SM lay (cfgG lt) (tabG lt) (fun _ => C) es [f0, f1, f2, f3, f4, f5, f6, f7, f8, f9, f10, f11, f12, f13, f14, f15, f16, 0, f18, f19, 0, 0, 0, 0, 0, 0, 0, f27, f28, f29, f30, f31, 0, f33, 0, 0, 0, 0, 0, 0, 0, 0, 0, 0, 0, 0, 0, 0, 0, 0, 0, 0, 0, 0, f54, 0, f56, 0, 0, f59, 0, 0, 0, 0, 0, 0, 0, 0, 0, 0, 0, 0, 0, 0, 0, 0, 0, 0, f78, f79, f80, f81, 0, 0, 0, 0, 0, 0, 0, 0, 0, 0, 0, 0, 0, 0, 0, 0, 0, 0, f100, f101, f102, f103, f104, f105, f106, f107, f108, f109, fa] K mg := {
    cfg := cfg_ok
    ents := .cons (o0) (.cons (o1) (.cons (o2) (.cons (o3) (.cons (o4) (.cons (o5) (.cons (o6) (.cons (o7) (.cons (o8) (.cons (o9) (.cons (o10) (.cons (o11) (.cons (o12) (.cons (o13) (.cons (o14) (.cons (o15) (.cons (o16) (.skip (.cons (o18) (.cons (o19) (.skip (.skip (.skip (.skip (.skip (.skip (.skip (.cons (o27) (.cons (o28) (.cons (o29) (.cons (o30) (.cons (o31) (.skip (.cons (o33) (.skip (.skip (.skip (.skip (.skip (.skip (.skip (.skip (.skip (.skip (.skip (.skip (.skip (.skip (.skip (.skip (.skip (.skip (.skip (.skip (.cons (o54) (.skip (.cons (o56) (.skip (.skip (.cons (o59) (.skip (.skip (.skip (.skip (.skip (.skip (.skip (.skip (.skip (.skip (.skip (.skip (.skip (.skip (.skip (.skip (.skip (.skip (.cons (o78) (.cons (o79) (.cons (o80) (.cons (o81) (.skip (.skip (.skip (.skip (.skip (.skip (.skip (.skip (.skip (.skip (.skip (.skip (.skip (.skip (.skip (.skip (.skip (.skip (.cons (o100) (.cons (o101) (.cons (o102) (.cons (o103) (.cons (o104) (.cons (o105) (.cons (o106) (.cons (o107) (.cons (o108) (.cons (o109) (.cons (o110) (.nil)))))))))))))))))))))))))))))))))))))))))))))))))))))))))))))))))))))))))))))))))))))))))))))))))))))))))))))))
    chk := chk_all
    blt := .cons (PySem.W.mg_none_of X G z0) (.cons (PySem.W.mg_none_of X G z1) (.cons (PySem.W.mg_none_of X G z2) (.cons (PySem.W.mg_none_of X G z3) (.cons (PySem.W.mg_none_of X G z4) (.cons (PySem.W.mg_none_of X G z5) (.cons (PySem.W.mg_none_of X G z6) (.cons (PySem.W.mg_none_of X G z7) (.cons (PySem.W.mg_none_of X G z8) (.cons (PySem.W.mg_none_of X G z9) (.cons (PySem.W.mg_none_of X G z10) (.cons (PySem.W.mg_none_of X G z11) (.cons (PySem.W.mg_none_of X G z12) (.cons (PySem.W.mg_none_of X G z13) (.cons (PySem.W.mg_none_of X G z14) (.cons (PySem.W.mg_none_of X G z15) (.cons (PySem.W.mg_none_of X G z16) (.cons (PySem.W.mg_none_of X G z17) (.nil))))))))))))))))))
    con := .cons (⟨_, PySem.W.mg_of X G q0, _, rfl⟩) (.nil)
    fns := .cons (⟨PySem.W.mg_of X G a0, rfl⟩) (.cons (⟨PySem.W.mg_of X G a1, rfl⟩) (.cons (⟨PySem.W.mg_of X G a12, rfl⟩) (.cons (⟨PySem.W.mg_of X G a13, rfl⟩) (.cons (⟨PySem.W.mg_of X G a14, rfl⟩) (.cons (⟨PySem.W.mg_of X G a15, rfl⟩) (.cons (⟨PySem.W.mg_of X G a16, rfl⟩) (.cons (⟨PySem.W.mg_of X G a18, rfl⟩) (.cons (⟨PySem.W.mg_of X G a19, rfl⟩) (.cons (⟨PySem.W.mg_of X G a27, rfl⟩) (.cons (⟨PySem.W.mg_of X G a28, rfl⟩) (.cons (⟨PySem.W.mg_of X G a29, rfl⟩) (.cons (⟨PySem.W.mg_of X G a30, rfl⟩) (.cons (⟨PySem.W.mg_of X G a31, rfl⟩) (.cons (⟨PySem.W.mg_of X G a33, rfl⟩) (.cons (⟨PySem.W.mg_of X G a54, rfl⟩) (.cons (⟨PySem.W.mg_of X G a56, rfl⟩) (.cons (⟨PySem.W.mg_of X G a59, rfl⟩) (.cons (⟨PySem.W.mg_of X G a78, rfl⟩) (.cons (⟨PySem.W.mg_of X G a79, rfl⟩) (.cons (⟨PySem.W.mg_of X G a80, rfl⟩) (.cons (⟨PySem.W.mg_of X G a81, rfl⟩) (.cons (⟨PySem.W.mg_of X G a100, rfl⟩) (.cons (⟨PySem.W.mg_of X G a101, rfl⟩) (.cons (⟨PySem.W.mg_of X G a102, rfl⟩) (.cons (⟨PySem.W.mg_of X G a103, rfl⟩) (.cons (⟨PySem.W.mg_of X G a104, rfl⟩) (.cons (⟨PySem.W.mg_of X G a105, rfl⟩) (.cons (⟨PySem.W.mg_of X G a106, rfl⟩) (.cons (⟨PySem.W.mg_of X G a107, rfl⟩) (.cons (⟨PySem.W.mg_of X G a108, rfl⟩) (.cons (⟨PySem.W.mg_of X G a109, rfl⟩) (.cons (⟨PySem.W.mg_of X G a110, rfl⟩) (.nil)))))))))))))))))))))))))))))))))
    mts := .cons (⟨⟨a4, i4, k4⟩, rfl⟩) (.cons (⟨⟨a6, i6, k6⟩, rfl⟩) (.cons (⟨⟨a7, i7, k7⟩, rfl⟩) (.cons (⟨⟨a8, i8, k8⟩, rfl⟩) (.cons (⟨⟨a9, i9, k9⟩, rfl⟩) (.cons (⟨⟨a10, i10, k10⟩, rfl⟩) (.cons (⟨⟨a11, i11, k11⟩, rfl⟩) (.nil)))))))
    mks := .cons (⟨PySem.W.mg_of X G aC, 2, rfl, rfl, ⟨mk, a2, i2, kc⟩⟩) .nil
    cls := cC
    flds := .cons (n0) (.cons (n1) (.cons (n2) (.nil)))
    isi := ⟨⟨cC, ha, hn, htk, hm, kit_me⟩, S1⟩
    clsT := .cons (PySem.W.mg_of X G aC) .nil
    len := S3 }
  exact ⟨_, fun s v => .of_eq rfl, fun base _ _ => law_ok S nl (n := 12) (f := 110) (e := en110) rfl (fun_mk l110 c110 k110) rfl rfl law_run⟩
end FB
open PySem PySem.W PyProof.Rows in
set_option maxRecDepth 100000 in
set_option maxHeartbeats 0 in
theorem PySem.Challenge.cw_fallbackpools_k54_whole_more_room_and_re_holds : PySem.Challenge.rw_fallbackpools_k54_whole_more_room_and_re.Holds := by
  w_on; o_law; k_head; (case hw => w_witness2)
  k_fill
  refine FB.walk (l := PySem.Challenge.rw_fallbackpools_k54_whole_more_room_and_re) (n := 12) (x := "_law_script") rfl rfl ⟨rfl, by decide, by decide⟩ (fun w h Y => PySem.W.kIn_of Y) ?F
  case F =>
    intro w mg fa h KX G hmg
    refine' FB.all_mk KX G hmg ?aC ?a0 ?l0 ?c0 ?k0 ?a1 ?l1 ?c1 ?k1 ?a2 ?i2 ?l2 ?c2 ?k2 ?a3 ?i3 ?l3 ?c3 ?k3 ?a4 ?i4 ?l4 ?c4 ?k4 ?a5 ?i5 ?l5 ?c5 ?k5 ?a6 ?i6 ?l6 ?c6 ?k6 ?a7 ?i7 ?l7 ?c7 ?k7 ?a8 ?i8 ?l8 ?c8 ?k8 ?a9 ?i9 ?l9 ?c9 ?k9 ?a10 ?i10 ?l10 ?c10 ?k10 ?a11 ?i11 ?l11 ?c11 ?k11 ?a12 ?l12 ?c12 ?k12 ?a13 ?l13 ?c13 ?k13 ?a14 ?l14 ?c14 ?k14 ?a15 ?l15 ?c15 ?k15 ?a16 ?l16 ?c16 ?k16 ?a18 ?l18 ?c18 ?k18 ?a19 ?l19 ?c19 ?k19 ?a27 ?l27 ?c27 ?k27 ?a28 ?l28 ?c28 ?k28 ?a29 ?l29 ?c29 ?k29 ?a30 ?l30 ?c30 ?k30 ?a31 ?l31 ?c31 ?k31 ?a33 ?l33 ?c33 ?k33 ?a54 ?l54 ?c54 ?k54 ?a56 ?l56 ?c56 ?k56 ?a59 ?l59 ?c59 ?k59 ?a78 ?l78 ?c78 ?k78 ?a79 ?l79 ?c79 ?k79 ?a80 ?l80 ?c80 ?k80 ?a81 ?l81 ?c81 ?k81 ?a100 ?l100 ?c100 ?k100 ?a101 ?l101 ?c101 ?k101 ?a102 ?l102 ?c102 ?k102 ?a103 ?l103 ?c103 ?k103 ?a104 ?l104 ?c104 ?k104 ?a105 ?l105 ?c105 ?k105 ?a106 ?l106 ?c106 ?k106 ?a107 ?l107 ?c107 ?k107 ?a108 ?l108 ?c108 ?k108 ?a109 ?l109 ?c109 ?k109 ?a110 ?l110 ?c110 ?k110 ?pg ?hd ?po ?sa ?mk ?kc ?n0 ?n1 ?n2 ?z0 ?z1 ?z2 ?z3 ?z4 ?z5 ?z6 ?z7 ?z8 ?z9 ?z10 ?z11 ?z12 ?z13 ?z14 ?z15 ?z16 ?z17 ?q0 ?ha ?hn ?htk ?hm ?u0 ?u1 ?u2 ?u3 ?u4 ?nl
    (case aC => k_is)
    (case a0 => k_is)
    (case l0 => k_is)
    (case c0 => k_is)
    (case k0 => k_is)
    (case a1 => k_is)
    (case l1 => k_is)
    (case c1 => k_is)
    (case k1 => k_is)
    (case a2 => k_is)
    (case i2 => k_is)
    (case l2 => k_is)
    (case c2 => k_is)
    (case k2 => k_is)
    (case a3 => k_is)
    (case i3 => k_is)
    (case l3 => k_is)
    (case c3 => k_is)
    (case k3 => k_is)
    (case a4 => k_is)
    (case i4 => k_is)
    (case l4 => k_is)
    (case c4 => k_is)
    (case k4 => k_is)
    (case a5 => k_is)
    (case i5 => k_is)
    (case l5 => k_is)
    (case c5 => k_is)
    (case k5 => k_is)
    (case a6 => k_is)
    (case i6 => k_is)
    (case l6 => k_is)
    (case c6 => k_is)
    (case k6 => k_is)
    (case a7 => k_is)
    (case i7 => k_is)
    (case l7 => k_is)
    (case c7 => k_is)
    (case k7 => k_is)
    (case a8 => k_is)
    (case i8 => k_is)
    (case l8 => k_is)
    (case c8 => k_is)
    (case k8 => k_is)
    (case a9 => k_is)
    (case i9 => k_is)
    (case l9 => k_is)
    (case c9 => k_is)
    (case k9 => k_is)
    (case a10 => k_is)
    (case i10 => k_is)
    (case l10 => k_is)
    (case c10 => k_is)
    (case k10 => k_is)
    (case a11 => k_is)
    (case i11 => k_is)
    (case l11 => k_is)
    (case c11 => k_is)
    (case k11 => k_is)
    (case a12 => k_is)
    (case l12 => k_is)
    (case c12 => k_is)
    (case k12 => k_is)
    (case a13 => k_is)
    (case l13 => k_is)
    (case c13 => k_is)
    (case k13 => k_is)
    (case a14 => k_is)
    (case l14 => k_is)
    (case c14 => k_is)
    (case k14 => k_is)
    (case a15 => k_is)
    (case l15 => k_is)
    (case c15 => k_is)
    (case k15 => k_is)
    (case a16 => k_is)
    (case l16 => k_is)
    (case c16 => k_is)
    (case k16 => k_is)
    (case a18 => k_is)
    (case l18 => k_is)
    (case c18 => k_is)
    (case k18 => k_is)
    (case a19 => k_is)
    (case l19 => k_is)
    (case c19 => k_is)
    (case k19 => k_is)
    (case a27 => k_is)
    (case l27 => k_is)
    (case c27 => k_is)
    (case k27 => k_is)
    (case a28 => k_is)
    (case l28 => k_is)
    (case c28 => k_is)
    (case k28 => k_is)
    (case a29 => k_is)
    (case l29 => k_is)
    (case c29 => k_is)
    (case k29 => k_is)
    (case a30 => k_is)
    (case l30 => k_is)
    (case c30 => k_is)
    (case k30 => k_is)
    (case a31 => k_is)
    (case l31 => k_is)
    (case c31 => k_is)
    (case k31 => k_is)
    (case a33 => k_is)
    (case l33 => k_is)
    (case c33 => k_is)
    (case k33 => k_is)
    (case a54 => k_is)
    (case l54 => k_is)
    (case c54 => k_is)
    (case k54 => k_is)
    (case a56 => k_is)
    (case l56 => k_is)
    (case c56 => k_is)
    (case k56 => k_is)
    (case a59 => k_is)
    (case l59 => k_is)
    (case c59 => k_is)
    (case k59 => k_is)
    (case a78 => k_is)
    (case l78 => k_is)
    (case c78 => k_is)
    (case k78 => k_is)
    (case a79 => k_is)
    (case l79 => k_is)
    (case c79 => k_is)
    (case k79 => k_is)
    (case a80 => k_is)
    (case l80 => k_is)
    (case c80 => k_is)
    (case k80 => k_is)
    (case a81 => k_is)
    (case l81 => k_is)
    (case c81 => k_is)
    (case k81 => k_is)
    (case a100 => k_is)
    (case l100 => k_is)
    (case c100 => k_is)
    (case k100 => k_is)
    (case a101 => k_is)
    (case l101 => k_is)
    (case c101 => k_is)
    (case k101 => k_is)
    (case a102 => k_is)
    (case l102 => k_is)
    (case c102 => k_is)
    (case k102 => k_is)
    (case a103 => k_is)
    (case l103 => k_is)
    (case c103 => k_is)
    (case k103 => k_is)
    (case a104 => k_is)
    (case l104 => k_is)
    (case c104 => k_is)
    (case k104 => k_is)
    (case a105 => k_is)
    (case l105 => k_is)
    (case c105 => k_is)
    (case k105 => k_is)
    (case a106 => k_is)
    (case l106 => k_is)
    (case c106 => k_is)
    (case k106 => k_is)
    (case a107 => k_is)
    (case l107 => k_is)
    (case c107 => k_is)
    (case k107 => k_is)
    (case a108 => k_is)
    (case l108 => k_is)
    (case c108 => k_is)
    (case k108 => k_is)
    (case a109 => k_is)
    (case l109 => k_is)
    (case c109 => k_is)
    (case k109 => k_is)
    (case a110 => k_is)
    (case l110 => k_is)
    (case c110 => k_is)
    (case k110 => k_is)
    (case pg => k_is)
    (case hd => k_is)
    (case po => k_is)
    (case sa => k_is)
    (case mk => k_is)
    (case kc => k_is)
    (case n0 => k_is)
    (case n1 => k_is)
    (case n2 => k_is)
    (case z0 => k_is)
    (case z1 => k_is)
    (case z2 => k_is)
    (case z3 => k_is)
    (case z4 => k_is)
    (case z5 => k_is)
    (case z6 => k_is)
    (case z7 => k_is)
    (case z8 => k_is)
    (case z9 => k_is)
    (case z10 => k_is)
    (case z11 => k_is)
    (case z12 => k_is)
    (case z13 => k_is)
    (case z14 => k_is)
    (case z15 => k_is)
    (case z16 => k_is)
    (case z17 => k_is)
    (case q0 => k_is)
    (case ha => k_is)
    (case hn => k_is)
    (case htk => k_is)
    (case hm => k_is)
    (case u0 => k_is)
    (case u1 => k_is)
    (case u2 => k_is)
    (case u3 => k_is)
    (case u4 => k_is)
    (case nl => exact rfl)
