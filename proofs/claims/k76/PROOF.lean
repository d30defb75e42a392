import PyProof.Rows.All
import Wide.All
import OpenK.AllK
import Wide.FinOn
import PySem.Challenge.RW_wholenuclei_k76_end_forms
import HandS.ForMost
import HandS.ForExc
import HandS.Deep
import HandS.TupAny
import HandS.TupMul
import HandS.Conv
import HandS.IsInst
import HandS.Style
import HandS.Wide
import HandS.Small
import HandS.CallSlots
import HandS.Iter
import HandS.ExcIs
import KE.KExcIs
import HandS.ExcInit
import HandS.Head3
section
set_option linter.all false
set_option maxRecDepth 100000
/-! An evaluator over value trees and a small store of mutable objects. -/
namespace EV
open PySem (Str Expr Stmt Const Scope NameKind Operator CmpOp UnaryOp BoolOp Keyword Comprehension ExceptHandler)

/-! ### values -/
inductive T where
  | non | bl (b : Bool) | int (i : Int) | str (x : Str) | tup (xs : List T)
  | loc (n : Nat) | frl (xs : List T) | rng (lo hi : Int) | ex (c : Nat) (v : T) | clo (i : Nat) (cs : List T)
  deriving Inhabited
inductive O where
  | lst (xs : List T) | dict (kvs : List (T × T)) | sset (xs : List T)
  deriving Inhabited
abbrev Store := List O
abbrev Loc := List (Option T)

/-! no object from k on is reached -/
mutual
def T.sco (k : Nat) : T → Bool
  | .loc n => decide (n < k)
  | .tup xs => T.scoL k xs
  | .frl xs => T.scoL k xs
  | .ex _ v => T.sco k v
  | .clo _ cs => T.scoL k cs
  | _ => true
def T.scoL (k : Nat) : List T → Bool
  | [] => true
  | x :: xs => T.sco k x && T.scoL k xs
end
mutual
def T.depth : T → Nat
  | .tup xs => T.depthL xs + 1
  | _ => 0
def T.depthL : List T → Nat
  | [] => 0
  | x :: xs => max (T.depth x) (T.depthL xs)
end
/-! plain data: what == , in and index look at -/
mutual
def T.dat : T → Bool
  | .non => true
  | .bl _ => true
  | .int _ => true
  | .str x => PySem.PyData.strOk x
  | .tup xs => T.datL xs
  | _ => false
def T.datL : List T → Bool
  | [] => true
  | x :: xs => T.dat x && T.datL xs
end
def b2i (b : Bool) : Int := if b then 1 else 0
mutual
def T.eqv : T → T → Bool
  | .non, .non => true
  | .bl a, .bl b => a == b
  | .bl a, .int j => b2i a == j
  | .int i, .bl b => i == b2i b
  | .int i, .int j => i == j
  | .str x, .str y => decide (x = y)
  | .tup xs, .tup ys => T.eqvL xs ys
  | _, _ => false
def T.eqvL : List T → List T → Bool
  | [], [] => true
  | x :: xs, y :: ys => T.eqv x y && T.eqvL xs ys
  | _, _ => false
end

def O.sco (k : Nat) : O → Bool
  | .lst xs => T.scoL k xs
  | .dict kvs => kvs.all fun p => p.1.sco k && p.2.sco k
  | .sset xs => T.scoL k xs

/-! ### results -/
inductive R (α : Type) where
  | ok (a : α) (S : Store) | exc (c : Nat) (v : T) (S : Store) | stuck
inductive SR where
  | nx (τ : Loc) (S : Store) | rt (v : T) (S : Store) | bk (τ : Loc) (S : Store) | ct (τ : Loc) (S : Store) | exc (c : Nat) (v : T) (τ : Loc) (S : Store) | stuck
def R.bind {α β : Type} (r : R α) (f : α → Store → R β) : R β := match r with
  | .ok a S => f a S
  | .exc c v S => .exc c v S
  | .stuck => .stuck
@[simp] theorem R.bind_ok {α β : Type} (a : α) (S : Store) (f : α → Store → R β) : (R.ok a S).bind f = f a S := rfl
@[simp] theorem R.bind_exc {α β : Type} (c : Nat) (v : T) (S : Store) (f : α → Store → R β) : (R.exc c v S : R α).bind f = .exc c v S := rfl
@[simp] theorem R.bind_stuck {α β : Type} (f : α → Store → R β) : (R.stuck : R α).bind f = .stuck := rfl
def R.bindS {α : Type} (τ : Loc) (r : R α) (f : α → Store → SR) : SR := match r with
  | .ok a S => f a S
  | .exc c v S => .exc c v τ S
  | .stuck => .stuck
@[simp] theorem R.bindS_ok {α : Type} (τ : Loc) (a : α) (S : Store) (f : α → Store → SR) : (R.ok a S).bindS τ f = f a S := rfl
@[simp] theorem R.bindS_exc {α : Type} (τ : Loc) (c : Nat) (v : T) (S : Store) (f : α → Store → SR) : (R.exc c v S : R α).bindS τ f = .exc c v τ S := rfl
@[simp] theorem R.bindS_stuck {α : Type} (τ : Loc) (f : α → Store → SR) : (R.stuck : R α).bindS τ f = .stuck := rfl

abbrev EM := Loc → Store → R T
abbrev TM := Loc → Store → R Bool
abbrev AM := Loc → Store → R (List T)
abbrev SM := Loc → Store → SR

/-! ### what nobody can see any more is forgotten -/
def keeps (S S' : Store) : Prop := S.length ≤ S'.length ∧ ∀ i, i < S.length → S'[i]? = S[i]? ∨ ∃ o, S'[i]? = some o ∧ o.sco S.length = true
open Classical in
noncomputable def gc (S S' : Store) (v : T) : R T :=
  if keeps S S' then
    (if v.sco S.length = true then .ok v (S'.take S.length)
    else match v with
      | .loc n => (match S'[n]? with
          | some o => if o.sco S.length = true then .ok (.loc S.length) (S'.take S.length ++ [o]) else .ok v S'
          | none => .ok v S')
      | _ => .ok v S')
  else .ok v S'
open Classical in
noncomputable def gcB (S S' : Store) (b : Bool) : R Bool := if keeps S S' then .ok b (S'.take S.length) else .ok b S'

noncomputable def cGc (e : EM) : EM := fun τ S => (e τ S).bind fun v S' => gc S S' v
noncomputable def cGcB (e : TM) : TM := fun τ S => (e τ S).bind fun v S' => gcB S S' v

/-! ### expressions -/
def LINE : Nat := 16777216
def cStuck {α : Type} : Loc → Store → R α := fun _ _ => .stuck
def cVar (i : Nat) : EM := fun τ S => match τ[i]? with
  | some (some v) => .ok v S
  | _ => .stuck
def cK (v : T) : EM := fun _ S => .ok v S
def cUn (f : T → Store → R T) (a : EM) : EM := fun τ S => (a τ S).bind fun x S1 => f x S1
def cBin (f : T → T → Store → R T) (a b : EM) : EM := fun τ S => (a τ S).bind fun x S1 => (b τ S1).bind fun y S2 => f x y S2
/-- o.m(e): the receiver's kind is looked at first -/
def cMt (ty : Store → T → Bool) (f : T → T → Store → R T) (a b : EM) : EM := fun τ S => (a τ S).bind fun x S1 => if ty S1 x = true then (b τ S1).bind fun y S2 => f x y S2 else .stuck
def cMt0 (ty : Store → T → Bool) (f : T → Store → R T) (a : EM) : EM := fun τ S => (a τ S).bind fun x S1 => if ty S1 x = true then f x S1 else .stuck
def cBl (e : EM) : TM := fun τ S => (e τ S).bind fun x S1 => match x with
  | .bl b => .ok b S1
  | _ => .stuck
def cNot (a : EM) : EM := fun τ S => (cBl a τ S).bind fun b S1 => .ok (.bl (!b)) S1
def cAnd (a b : EM) : EM := fun τ S => (cBl a τ S).bind fun c S1 => if c = true then b τ S1 else .ok (.bl false) S1
def cOr (a b : EM) : EM := fun τ S => (cBl a τ S).bind fun c S1 => if c = true then .ok (.bl true) S1 else b τ S1
def cIte (c : TM) (a b : EM) : EM := fun τ S => (c τ S).bind fun d S1 => if d = true then a τ S1 else b τ S1
def cChain (f g : T → T → Store → R T) (a b c : EM) : EM := fun τ S => (a τ S).bind fun x S1 => (b τ S1).bind fun y S2 => (f x y S2).bind fun z S3 => match z with
  | .bl true => (c τ S3).bind fun u S4 => g y u S4
  | .bl false => .ok (.bl false) S3
  | _ => .stuck
def aNil : AM := fun _ S => .ok [] S
def aCons (a : EM) (r : AM) : AM := fun τ S => (a τ S).bind fun x S1 => (r τ S1).bind fun xs S2 => .ok (x :: xs) S2
def cTup (a : AM) : EM := fun τ S => (a τ S).bind fun xs S1 => if xs.length ≤ LINE then .ok (.tup xs) S1 else .stuck
def alloc (o : O) (S : Store) : R T := .ok (.loc S.length) (S ++ [o])
def cLst (a : AM) : EM := fun τ S => (a τ S).bind fun xs S1 => if xs.length ≤ LINE then alloc (.lst xs) S1 else .stuck
def cCall (f : List T → Store → R T) (a : AM) : EM := fun τ S => (a τ S).bind fun xs S1 => f xs S1
/-- tests -/
def tNot (a : TM) : TM := fun τ S => (a τ S).bind fun b S1 => .ok (!b) S1
def tAnd (a b : TM) : TM := fun τ S => (a τ S).bind fun c S1 => if c = true then b τ S1 else .ok false S1
def tOr (a b : TM) : TM := fun τ S => (a τ S).bind fun c S1 => if c = true then .ok true S1 else b τ S1
def tIte (c a b : TM) : TM := fun τ S => (c τ S).bind fun d S1 => if d = true then a τ S1 else b τ S1
def tYes : TM := fun _ S => .ok true S

/-! ### operators by values -/
/-- the items of a list of the store; of such a one or of a list that is only read (the script) -/
def lstN (S : Store) (n : Nat) : Option (List T) := match S[n]? with
  | some (.lst xs) => some xs
  | _ => none
def lstAt (S : Store) : T → Option (List T)
  | .loc n => lstN S n
  | .frl xs => some xs
  | _ => none
def CMulT (i j : Int) : Bool := (decide (-(2 ^ 64) < i) && decide (i < 2 ^ 64)) || (decide (-(2 ^ 64) < j) && decide (j < 2 ^ 64)) || decide (i.natAbs.log2 + j.natAbs.log2 < 1000000)
def opAdd : T → T → Store → R T
  | .int i, .int j, S => .ok (.int (i + j)) S
  | .str x, .str y, S => if x.length + y.length ≤ LINE then .ok (.str (x ++ y)) S else .stuck
  | .tup xs, .tup ys, S => if xs.length + ys.length ≤ LINE then .ok (.tup (xs ++ ys)) S else .stuck
  | .loc m, .loc n, S => (match S[m]?, S[n]? with
    | some (.lst xs), some (.lst ys) => if xs.length + ys.length ≤ LINE then alloc (.lst (xs ++ ys)) S else .stuck
    | _, _ => .stuck)
  | _, _, _ => .stuck
def opSub : T → T → Store → R T
  | .int i, .int j, S => .ok (.int (i - j)) S
  | _, _, _ => .stuck
def rep (xs : List T) (k : Nat) : List T := (List.replicate k xs).flatten
def repS (z : Str) (k : Nat) : Str := ⟨((List.replicate k z.cps.toList).flatten).toArray⟩
def opMul : T → T → Store → R T
  | .int i, .int j, S => if CMulT i j = true then .ok (.int (i * j)) S else .stuck
  | .str z, .int k, S => if -(2 ^ 63) ≤ k ∧ k < 2 ^ 63 ∧ z.length * k.toNat ≤ LINE ∧ z.length ≤ LINE then .ok (.str (repS z k.toNat)) S else .stuck
  | .tup xs, .int k, S => if 1 ≤ k ∧ k ≤ 1000 ∧ xs.length ≤ 1000 then .ok (.tup (rep xs k.toNat)) S else .stuck
  | .loc m, .int k, S => (match S[m]? with
    | some (.lst xs) => if -(2 ^ 63) ≤ k ∧ k < 2 ^ 63 ∧ xs.length * k.toNat ≤ LINE then alloc (.lst (rep xs k.toNat)) S else .stuck
    | _ => .stuck)
  | _, _, _ => .stuck
def opDiv : T → T → Store → R T
  | .int i, .int j, S => if 0 < j ∧ j.natAbs.log2 < 9000 then .ok (.int (i / j)) S else if j ≠ 0 ∧ j.natAbs < 1073741824 then .ok (.int (i.fdiv j)) S else .stuck
  | _, _, _ => .stuck
def opMod : T → T → Store → R T
  | .int i, .int j, S => if 0 < j then .ok (.int (i % j)) S else if j ≠ 0 then .ok (.int (i.fmod j)) S else .stuck
  | _, _, _ => .stuck
def opPow : T → T → Store → R T
  | .int i, .int j, S => if 0 ≤ j ∧ j ≤ 1000000 ∧ i.natAbs < 2 ^ 64 then .ok (.int (i ^ j.toNat)) S else .stuck
  | _, _, _ => .stuck
def opB : Operator → T → T → Store → R T
  | .Add => opAdd
  | .Sub => opSub
  | .Mult => opMul
  | .FloorDiv => opDiv
  | .Mod => opMod
  | .Pow => opPow
  | _ => fun _ _ _ => .stuck
def opNeg : T → Store → R T
  | .int i, S => .ok (.int (-i)) S
  | _, _ => .stuck
mutual
def pd : T → PySem.PyData
  | .bl b => .bool b
  | .int i => .int i
  | .str x => .str x
  | .tup xs => .tuple (pdL xs)
  | _ => .none
def pdL : List T → List PySem.PyData
  | [] => []
  | x :: xs => pd x :: pdL xs
end
/-- a value as plain data -/
def dS (S : Store) : T → Option PySem.PyData
  | .loc n => (match lstN S n with
    | some xs => if T.datL xs = true ∧ T.depthL xs ≤ 60 then some (.list (pdL xs)) else none
    | none => none)
  | x => if x.dat = true ∧ x.depth ≤ 60 then some (pd x) else none
/-- the answer of ==, where it is known -/
def eqA (S : Store) (x y : T) : Option Bool := match x, y with
  | .str x, .str y => some (decide (x = y))
  | x, y => match dS S x, dS S y with
    | some d, some e => some (PySem.PyData.eqv d e)
    | _, _ => none
def opEq (x y : T) (S : Store) : R T := match eqA S x y with
  | some b => .ok (.bl b) S
  | none => .stuck
def opNe (x y : T) (S : Store) : R T := match eqA S x y with
  | some b => .ok (.bl (!b)) S
  | none => .stuck
def opCmp (p : Int → Int → Bool) : T → T → Store → R T
  | .int i, .int j, S => .ok (.bl (p i j)) S
  | _, _, _ => .stuck
def T.isNon : T → Bool
  | .non => true
  | _ => false
def opIs : T → T → Store → R T
  | x, .non, S => .ok (.bl x.isNon) S
  | .bl a, .bl b, S => .ok (.bl (decide (a = b))) S
  | _, _, _ => .stuck
def opIsNot : T → T → Store → R T
  | x, .non, S => .ok (.bl (!x.isNon)) S
  | .bl a, .bl b, S => .ok (.bl (!decide (a = b))) S
  | _, _, _ => .stuck
def isKeyT : T → Bool
  | .int _ => true
  | .str _ => true
  | _ => false
def kvs? (kvs : List (T × T)) : Bool := kvs.all fun p => isKeyT p.1
/-- the value at a key (keys are ints or texts) -/
def dget : List (T × T) → T → Option T
  | [], _ => none
  | (a, v) :: r, k => if T.eqv a k = true then some v else dget r k
def dput : List (T × T) → T → T → List (T × T)
  | [], k, v => [(k, v)]
  | (a, u) :: r, k, v => if T.eqv a k = true then (a, v) :: r else (a, u) :: dput r k v
/-- x in y -/
def inA (S : Store) (x y : T) : Option Bool := match y with
  | .loc n => (match S[n]? with
    | some (.lst ys) => if x.dat = true ∧ T.datL ys = true ∧ T.depthL ys ≤ 60 ∧ x.depth ≤ 60 then some (ys.any fun z => T.eqv z x) else none
    | some (.dict kvs) => if isKeyT x = true ∧ kvs? kvs = true then some (dget kvs x).isSome else none
    | _ => none)
  | _ => none
def opIn (x y : T) (S : Store) : R T := match inA S x y with
  | some b => .ok (.bl b) S
  | none => .stuck
def opNotIn (x y : T) (S : Store) : R T := match inA S x y with
  | some b => .ok (.bl (!b)) S
  | none => .stuck
def opC : CmpOp → T → T → Store → R T
  | .Eq => opEq
  | .NotEq => opNe
  | .Lt => opCmp fun i j => decide (i < j)
  | .LtE => opCmp fun i j => decide (i ≤ j)
  | .Gt => opCmp fun i j => decide (j < i)
  | .GtE => opCmp fun i j => decide (j ≤ i)
  | .Is => opIs
  | .IsNot => opIsNot
  | .In => opIn
  | .NotIn => opNotIn
/-- the place of an index -/
def ixN (n : Nat) (i : Int) : Option Nat := if 0 ≤ i then (if i < n then some i.toNat else none) else if -(n : Int) ≤ i then some (i + n).toNat else none
def atT (xs : List T) (i : Int) : Option T := (ixN xs.length i).bind fun j => xs[j]?
def opIx : T → T → Store → R T
  | .tup xs, .int i, S => (match atT xs i with
    | some v => .ok v S
    | none => .stuck)
  | .str z, .int i, S => if z.length ≤ LINE then (match (ixN z.cps.toList.length i).bind fun j => z.cps.toList[j]? with
    | some c => .ok (.str ⟨#[c]⟩) S
    | none => .stuck) else .stuck
  | .frl xs, .int i, S => (match atT xs i with
    | some v => .ok v S
    | none => .stuck)
  | .loc n, .int i, S => (match S[n]? with
    | some (.lst xs) => (match atT xs i with
      | some v => .ok v S
      | none => .stuck)
    | some (.dict kvs) => if kvs? kvs = true then (match dget kvs (.int i) with
      | some v => .ok v S
      | none => .stuck) else .stuck
    | _ => .stuck)
  | .loc n, .str x, S => (match S[n]? with
    | some (.dict kvs) => if kvs? kvs = true then (match dget kvs (.str x) with
      | some v => .ok v S
      | none => .stuck) else .stuck
    | _ => .stuck)
  | _, _, _ => .stuck
/-- o[i] = v -/
def setIx (o i v : T) (S : Store) : Option Store := match o with
  | .loc n => (match S[n]? with
    | some (.lst xs) => (match i with
      | .int k => (match ixN xs.length k with
        | some j => some (S.set n (.lst (xs.set j v)))
        | none => none)
      | _ => none)
    | some (.dict kvs) => if isKeyT i = true ∧ kvs? kvs = true ∧ kvs.length < LINE then some (S.set n (.dict (dput kvs i v))) else none
    | _ => none)
  | _ => none
/-- slices -/
def sIx (n d : Nat) : Option Int → Nat
  | none => d
  | some v => if v < 0 then (v + (n : Int)).toNat else min v.toNat n
def cut {α : Type} (xs : List α) (lo hi : Option Int) : List α := (xs.drop (sIx xs.length 0 lo)).take (sIx xs.length xs.length hi - sIx xs.length 0 lo)
def opSl : T → Option Int → Option Int → Store → R T
  | .tup xs, lo, hi, S => .ok (.tup (cut xs lo hi)) S
  | .str z, lo, hi, S => if z.length ≤ LINE then .ok (.str (L2.cutS z lo hi)) S else .stuck
  | x, lo, hi, S => (match lstAt S x with
    | some xs => alloc (.lst (cut xs lo hi)) S
    | none => .stuck)
abbrev OM := Loc → Store → R (Option Int)
def oNone : OM := fun _ S => .ok none S
def oSome (e : EM) : OM := fun τ S => (e τ S).bind fun x S1 => match x with
  | .int i => .ok (some i) S1
  | _ => .stuck
def cSl (e : EM) (l u : OM) : EM := fun τ S => (e τ S).bind fun x S1 => (l τ S1).bind fun lo S2 => (u τ S2).bind fun hi S3 => opSl x lo hi S3

/-! ### built-ins -/
inductive Ty where
  | int | bool | str | list | tuple | dict | cls (i : Nat) | verr
/-- isinstance; subC: which class stands below which -/
def isTy (subC : Nat → Nat → Bool) (S : Store) (x : T) (t : Ty) : Option Bool := match x, t with
  | .clo _ _, _ => none
  | .rng _ _, _ => none
  | .ex c _, .cls i => some (subC c i)
  | .ex _ _, .verr => some true
  | .ex _ _, _ => none
  | .non, .verr => some false
  | _, .verr => none
  | .int _, .int => some true
  | .bl _, .int => some true
  | .bl _, .bool => some true
  | .str _, .str => some true
  | .tup _, .tuple => some true
  | .frl _, .list => some true
  | .loc n, t => (match S[n]?, t with
    | some (.lst _), .list => some true
    | some (.lst _), .cls _ => none
    | some (.lst _), _ => some false
    | some (.dict _), .dict => some true
    | some (.dict _), .cls _ => none
    | some (.dict _), _ => some false
    | _, _ => none)
  | .non, .cls _ => some false
  | _, .cls _ => none
  | _, _ => some false
def isTys (subC : Nat → Nat → Bool) (S : Store) (x : T) : List Ty → Option Bool
  | [] => some false
  | t :: r => match isTy subC S x t, isTys subC S x r with
    | some a, some b => some (a || b)
    | _, _ => none
def cIsI (subC : Nat → Nat → Bool) (e : EM) (t : Ty) : EM := fun τ S => (e τ S).bind fun x S1 => match isTy subC S1 x t with
  | some b => .ok (.bl b) S1
  | none => .stuck
def cIsIs (subC : Nat → Nat → Bool) (e : EM) (ts : List Ty) : EM := fun τ S => (e τ S).bind fun x S1 => match isTys subC S1 x ts with
  | some b => .ok (.bl b) S1
  | none => .stuck
def bLen : T → Store → R T
  | .tup xs, S => .ok (.int xs.length) S
  | .frl xs, S => .ok (.int xs.length) S
  | .str z, S => if z.length ≤ LINE then .ok (.int z.length) S else .stuck
  | .loc n, S => (match S[n]? with
    | some (.lst xs) => .ok (.int xs.length) S
    | some (.dict kvs) => if kvs? kvs = true then .ok (.int kvs.length) S else .stuck
    | _ => .stuck)
  | _, _ => .stuck
def bInt : T → Store → R T
  | .int i, S => .ok (.int i) S
  | .bl b, S => .ok (.int (b2i b)) S
  | _, _ => .stuck
def bAbs : T → Store → R T
  | .int i, S => .ok (.int (if i < 0 then -i else i)) S
  | _, _ => .stuck
def bStr : T → Store → R T
  | .int i, S => if i.natAbs.log2 < 1920 then .ok (.str (PySem.Str.ofString (toString i))) S else .stuck
  | _, _ => .stuck
def bList : T → Store → R T
  | .tup xs, S => alloc (.lst xs) S
  | x, S => (match lstAt S x with
    | some xs => alloc (.lst xs) S
    | none => .stuck)
def bTuple : T → Store → R T
  | .tup xs, S => .ok (.tup xs) S
  | x, S => (match lstAt S x with
    | some xs => .ok (.tup xs) S
    | none => .stuck)
def rgT (a b : Int) : List T := (List.range (b - a).toNat).map fun (i : Nat) => T.int (a + i)
def bls? : List T → Option (List Bool)
  | [] => some []
  | .bl b :: r => (bls? r).map (b :: ·)
  | _ :: _ => none
def ints? : List T → Option (List Int)
  | [] => some []
  | .int i :: r => (ints? r).map (i :: ·)
  | _ :: _ => none
def strs? : List T → Option (List Str)
  | [] => some []
  | .str x :: r => (strs? r).map (x :: ·)
  | _ :: _ => none
def bAll : T → Store → R T
  | x, S => (match (lstAt S x).bind bls? with
    | some bs => .ok (.bl (bs.all id)) S
    | none => .stuck)
def bAny : T → Store → R T
  | x, S => (match (lstAt S x).bind bls? with
    | some bs => .ok (.bl (bs.any id)) S
    | none => .stuck)
def bSum : T → Store → R T
  | x, S => (match (lstAt S x).bind ints? with
    | some ns => .ok (.int ns.sum) S
    | none => .stuck)
def bMax2 : T → T → Store → R T
  | .int i, .int j, S => .ok (.int (if j > i then j else i)) S
  | _, _, _ => .stuck
def bMin2 : T → T → Store → R T
  | .int i, .int j, S => .ok (.int (if j < i then j else i)) S
  | _, _, _ => .stuck
def RgOk (a b : Int) : Bool := decide (-(2 ^ 62) ≤ a) && decide (a < 2 ^ 62) && decide (-(2 ^ 62) ≤ b) && decide (b < 2 ^ 62) && decide ((b - a).toNat ≤ 2 ^ 24)
def bListRg1 : T → Store → R T
  | .int b, S => if RgOk 0 b = true then alloc (.lst (rgT 0 b)) S else .stuck
  | _, _ => .stuck
def bListRg2 : T → T → Store → R T
  | .int a, .int b, S => if RgOk a b = true then alloc (.lst (rgT a b)) S else .stuck
  | _, _, _ => .stuck
def bTupleRg1 : T → Store → R T
  | .int b, S => if RgOk 0 b = true then .ok (.tup (rgT 0 b)) S else .stuck
  | _, _ => .stuck
def bTupleRg2 : T → T → Store → R T
  | .int a, .int b, S => if RgOk a b = true then .ok (.tup (rgT a b)) S else .stuck
  | _, _, _ => .stuck
/-- methods -/
def isL (S : Store) (x : T) : Bool := (lstAt S x).isSome
def isS (_ : Store) : T → Bool
  | .str _ => true
  | _ => false
def mAppend : T → T → Store → R T
  | .loc n, y, S => (match S[n]? with
    | some (.lst xs) => if xs.length < LINE then .ok .non (S.set n (.lst (xs ++ [y]))) else .stuck
    | _ => .stuck)
  | _, _, _ => .stuck
def mExtend : T → T → Store → R T
  | .loc n, .loc m, S => (match S[n]?, S[m]? with
    | some (.lst xs), some (.lst ys) => if xs.length + ys.length ≤ LINE then .ok .non (S.set n (.lst (xs ++ ys))) else .stuck
    | _, _ => .stuck)
  | _, _, _ => .stuck
def mPop : T → Store → R T
  | .loc n, S => (match S[n]? with
    | some (.lst xs) => (match xs[xs.length - 1]? with
      | some y => .ok y (S.set n (.lst xs.dropLast))
      | none => .stuck)
    | _ => .stuck)
  | _, _ => .stuck
def mPopAt : T → T → Store → R T
  | .loc n, .int i, S => if -(2 ^ 63) ≤ i ∧ i < 2 ^ 63 then (match S[n]? with
    | some (.lst xs) => (match ixN xs.length i with
      | some k => (match xs[k]? with
        | some y => .ok y (S.set n (.lst (xs.eraseIdx k)))
        | none => .stuck)
      | none => .stuck)
    | _ => .stuck) else .stuck
  | _, _, _ => .stuck
/-- the first place of an item -/
def findT (x : T) : List T → Option Nat
  | [] => none
  | z :: r => if T.eqv z x = true then some 0 else (findT x r).map (· + 1)
def mIndex : T → T → Store → R T
  | x, y, S => (match lstAt S x with
    | some xs => if y.dat = true ∧ T.datL xs = true ∧ T.depthL xs ≤ 60 ∧ y.depth ≤ 60 then (match findT y xs with
      | some j => .ok (.int j) S
      | none => .stuck) else .stuck
    | none => .stuck)
def mJoin : T → T → Store → R T
  | .str z, .loc n, S => (match (lstN S n).bind strs? with
    | some ys => if (ys.map (·.length)).sum + ys.length * z.length ≤ LINE then .ok (.str (PySem.Txt.join z ys)) S else .stuck
    | none => .stuck)
  | .str z, .tup xs, S => (match strs? xs with
    | some ys => if (ys.map (·.length)).sum + ys.length * z.length ≤ LINE then .ok (.str (PySem.Txt.join z ys)) S else .stuck
    | none => .stuck)
  | _, _, _ => .stuck

/-! ### loops -/
inductive Src where
  | fix | at (n : Nat)
def Src.ok (s : Src) (xs : List T) (S : Store) : Prop := match s with
  | .fix => True
  | .at n => lstN S n = some xs
abbrev IM := Loc → Store → R (List T × Src)
abbrev GM := T → Loc → Option Loc
def gName (i : Nat) : GM := fun v τ => some (τ.set i (some v))
def gTup (gs : List T → Loc → Option Loc) : GM := fun v τ => match v with
  | .tup xs => gs xs τ
  | _ => none
def gNil : List T → Loc → Option Loc := fun xs τ => match xs with
  | [] => some τ
  | _ => none
def gCons (g : GM) (r : List T → Loc → Option Loc) : List T → Loc → Option Loc := fun xs τ => match xs with
  | x :: xs => (g x τ).bind fun τ' => r xs τ'
  | [] => none
def wipe (τ : Loc) : List Nat → Loc
  | [] => τ
  | v :: vs => (wipe τ vs).set v none
open Classical in
noncomputable def lcLoop (src : Src) (all : List T) (vs : List Nat) (g : GM) (tt : TM) (te : EM) (τ : Loc) : List T → Store → R (List T)
  | [], S => if src.ok all S then .ok [] S else .stuck
  | x :: xs, S => if src.ok all S then
      (match g x (wipe τ vs) with
      | none => .stuck
      | some τ2 => (tt τ2 S).bind fun b S1 => if b = true then (te τ2 S1).bind fun y S2 => (lcLoop src all vs g tt te τ xs S2).bind fun ys S3 => .ok (y :: ys) S3
        else lcLoop src all vs g tt te τ xs S1)
    else .stuck
noncomputable def cLC (wi : IM) (vs : List Nat) (g : GM) (tt : TM) (te : EM) : EM := fun τ S => (wi τ S).bind fun p S1 =>
  if p.1.length ≤ LINE then (match lcLoop p.2 p.1 vs g tt te τ p.1 S1 with
    | .ok ys S2 => alloc (.lst ys) S2
    | _ => .stuck) else .stuck
open Classical in
noncomputable def forL (src : Src) (all : List T) (g : GM) (body : SM) : List T → SM
  | [], τ, S => if src.ok all S then .nx τ S else .stuck
  | x :: xs, τ, S => if src.ok all S then
      (match g x τ with
      | none => .stuck
      | some τ1 => match body τ1 S with
        | .nx τ2 S2 => forL src all g body xs τ2 S2
        | .ct τ2 S2 => forL src all g body xs τ2 S2
        | .bk τ2 S2 => .nx τ2 S2
        | r => r)
    else .stuck
def whileF (c : TM) (body : SM) : Nat → SM
  | 0, _, _ => .stuck
  | n + 1, τ, S => match c τ S with
    | .ok true S1 => (match body τ S1 with
      | .nx τ2 S2 => whileF c body n τ2 S2
      | .ct τ2 S2 => whileF c body n τ2 S2
      | .bk τ2 S2 => .nx τ2 S2
      | r => r)
    | .ok false S1 => .nx τ S1
    | .exc k v S1 => .exc k v τ S1
    | .stuck => .stuck
@[irreducible] def FUEL : Nat := 1000000000000

/-- what is walked -/
def iV (v : T) (S1 : Store) : R (List T × Src) := match v with
  | .tup xs => .ok (xs, .fix) S1
  | .str z => .ok (z.cps.toList.map fun c => T.str ⟨#[c]⟩, .fix) S1
  | .loc n => (match lstN S1 n with
    | some xs => .ok (xs, .at n) S1
    | none => .stuck)
  | .frl xs => .ok (xs, .fix) S1
  | _ => .stuck
def iVal (e : EM) : IM := fun τ S => (e τ S).bind iV
def iRg1 (a : EM) : IM := fun τ S => (a τ S).bind fun x S1 => match x with
  | .int j => if -(2 ^ 62) ≤ j ∧ j < 2 ^ 62 then .ok (rgT 0 j, .fix) S1 else .stuck
  | _ => .stuck
def iRg2 (a b : EM) : IM := fun τ S => (a τ S).bind fun x S1 => (b τ S1).bind fun y S2 => match x, y with
  | .int i, .int j => if -(2 ^ 62) ≤ i ∧ i < 2 ^ 62 ∧ -(2 ^ 62) ≤ j ∧ j < 2 ^ 62 then .ok (rgT i j, .fix) S2 else .stuck
  | _, _ => .stuck

/-! ### statements -/
def sNext : SM := fun τ S => .nx τ S
def sStuck : SM := fun _ _ => .stuck
def sSeq (a b : SM) : SM := fun τ S => match a τ S with
  | .nx τ1 S1 => b τ1 S1
  | r => r
def sBreak : SM := fun τ S => .bk τ S
def sCont : SM := fun τ S => .ct τ S
def sExpr (e : EM) : SM := fun τ S => (e τ S).bindS τ fun _ S1 => .nx τ S1
def sRet (e : EM) : SM := fun τ S => (e τ S).bindS τ fun v S1 => .rt v S1
def sAsg (e : EM) (g : GM) : SM := fun τ S => (e τ S).bindS τ fun v S1 => match g v τ with
  | some τ1 => .nx τ1 S1
  | none => .stuck
def sSet (e o i : EM) : SM := fun τ S => (e τ S).bindS τ fun v S1 => (o τ S1).bindS τ fun ov S2 => (i τ S2).bindS τ fun iv S3 => match setIx ov iv v S3 with
  | some S4 => .nx τ S4
  | none => .stuck
def sAug (i : Nat) (f : T → T → Store → R T) (e : EM) : SM := fun τ S => match τ[i]? with
  | some (some x) => (e τ S).bindS τ fun y S1 => (f x y S1).bindS τ fun z S2 => .nx (τ.set i (some z)) S2
  | _ => .stuck
/-- o[i], o an object of the store -/
def opIxM : T → T → Store → R T
  | .loc n, i, S => opIx (.loc n) i S
  | _, _, _ => .stuck
def sAugS (f : T → T → Store → R T) (o i e : EM) : SM := fun τ S => (o τ S).bindS τ fun ov S1 => (i τ S1).bindS τ fun iv S2 => (opIxM ov iv S2).bindS τ fun x S3 =>
  (e τ S3).bindS τ fun y S4 => (f x y S4).bindS τ fun z S5 => match setIx ov iv z S5 with
    | some S6 => .nx τ S6
    | none => .stuck
/-- x += y -/
def opIAdd : T → T → Store → R T
  | .int i, .int j, S => .ok (.int (i + j)) S
  | .str x, .str y, S => if x.length + y.length ≤ LINE then .ok (.str (x ++ y)) S else .stuck
  | .loc m, .loc n, S => (match S[m]?, S[n]? with
    | some (.lst xs), some (.lst ys) => if xs.length + ys.length ≤ LINE then .ok (.loc m) (S.set m (.lst (xs ++ ys))) else .stuck
    | _, _ => .stuck)
  | _, _, _ => .stuck
/-- names stored side by side -/
def setAll : Loc → List Nat → List T → Option Loc
  | τ, [], [] => some τ
  | τ, i :: is, v :: vs => setAll (τ.set i (some v)) is vs
  | _, _, _ => none
def sPar (a : AM) (is : List Nat) : SM := fun τ S => (a τ S).bindS τ fun vs S1 => match setAll τ is vs with
  | some τ1 => .nx τ1 S1
  | none => .stuck
def sIf (c : TM) (a b : SM) : SM := fun τ S => (c τ S).bindS τ fun d S1 => if d = true then a τ S1 else b τ S1
noncomputable def sFor (wi : IM) (g : GM) (body : SM) : SM := fun τ S => (wi τ S).bindS τ fun p S1 => forL p.2 p.1 g body p.1 τ S1
noncomputable def sWhile (c : TM) (body : SM) : SM := fun τ S => whileF c body FUEL τ S
def sRaise (c : Nat) (e : EM) : SM := fun τ S => (e τ S).bindS τ fun v S1 => .exc c v τ S1
def unset (i : Nat) : SR → SR
  | .nx τ S => .nx (τ.set i none) S
  | .bk τ S => .bk (τ.set i none) S
  | .ct τ S => .ct (τ.set i none) S
  | r => r
def sTry (body : SM) (catches : Nat → Bool) (i : Nat) (suite : SM) : SM := fun τ S => match body τ S with
  | .exc c v τ1 S1 => if catches c = true then unset i (suite (τ1.set i (some (.ex c v))) S1) else .exc c v τ1 S1
  | r => r
end EV
end
section
set_option linter.all false
set_option maxRecDepth 100000
namespace EV
open PySem (Str Expr Stmt Const Scope NameKind Operator CmpOp UnaryOp BoolOp Keyword Comprehension ExceptHandler)

inductive Blt where
  | len | range | isinstance | int | bool | str | list | tuple | dict | set | abs | all | any | sum | max | min | sorted | enumerate | zip | reversed | ValueError
inductive GV where
  | fn (i : Nat) | cls (i : Nat) | con (v : T) | blt (b : Blt)
structure Cxt where
  N : List Str
  sc : Scope
  gl : List (Str × GV)
  ps : Nat → List Str
  subC : Nat → Nat → Bool
  tg : Str → Bool
  kw : List (Nat × Nat × List Str)
/-- names that mean themselves -/
def okName (x : Str) : Bool := decide (x ≠ ("__debug__" : Str)) && decide (x ≠ ("__classdict__" : Str)) && decide (x ≠ ("__name__" : Str))
def idx (N : List Str) (x : Str) : Option Nat := match N with
  | [] => none
  | y :: r => if y = x then some 0 else (idx r x).map (· + 1)
def isVis : Option NameKind → Bool
  | some .local => true
  | some .cell => true
  | some .free => true
  | _ => false
def isLoc : Option NameKind → Bool
  | some .local => true
  | some .cell => true
  | _ => false
def isGl : Option NameKind → Bool
  | some .globalImplicit => true
  | _ => false
def Cxt.slot (Γ : Cxt) (x : Str) : Option Nat := if (isVis (Γ.sc.names.lookup x) && okName x) = true then idx Γ.N x else none
def Cxt.slotL (Γ : Cxt) (x : Str) : Option Nat := if (isLoc (Γ.sc.names.lookup x) && Γ.tg x) = true then idx Γ.N x else none
def Cxt.glob (Γ : Cxt) (x : Str) : Option GV := if (isGl (Γ.sc.names.lookup x) && okName x) = true then Γ.gl.lookup x else none
def ownOf (N : List Str) : List (Str × NameKind) → List (Str × Nat)
  | [] => []
  | (n, k) :: r => if isLoc (some k) = true then (match idx N n with
    | some i => (n, i) :: ownOf N r
    | none => ownOf N r) else ownOf N r
def Cxt.blk (Γ : Cxt) (scope : Scope) : Cxt := { Γ with sc := L2.relS scope Γ.sc, tg := fun x => isLoc (scope.names.lookup x) }
def Cxt.ty (Γ : Cxt) : Expr → Option Ty
  | .Name x _ => (match Γ.glob x with
    | some (.blt .int) => some .int
    | some (.blt .bool) => some .bool
    | some (.blt .str) => some .str
    | some (.blt .list) => some .list
    | some (.blt .tuple) => some .tuple
    | some (.blt .dict) => some .dict
    | some (.blt .ValueError) => some .verr
    | some (.cls i) => some (.cls i)
    | _ => none)
  | _ => none
def Cxt.tys (Γ : Cxt) : List Expr → Option (List Ty)
  | [] => some []
  | e :: r => match Γ.ty e, Γ.tys r with
    | some t, some ts => some (t :: ts)
    | _, _ => none
/-- keyword arguments in their places -/
def kwAt (ks : List Str) (vs : List T) (p : Str) : Option T := match ks, vs with
  | k :: ks, v :: vs => if k = p then some v else kwAt ks vs p
  | _, _ => none
def kwAll (ks : List Str) (vs : List T) : List Str → Option (List T)
  | [] => some []
  | p :: ps => match kwAt ks vs p, kwAll ks vs ps with
    | some v, some r => some (v :: r)
    | _, _ => none
def kwNames : List Keyword → Option (List Str)
  | [] => some []
  | ⟨some k, _, _⟩ :: r => (kwNames r).map (k :: ·)
  | _ => none
def cCallK (f : List T → Store → R T) (ps ks : List Str) (a k : AM) : EM := fun τ S => (a τ S).bind fun xs S1 => (k τ S1).bind fun ys S2 =>
  match kwAll ks ys (ps.drop xs.length) with
  | some zs => f (xs ++ zs) S2
  | none => .stuck
def isStar : Expr → Bool
  | .Starred _ _ => true
  | _ => false
def isCall0 : Expr → Bool
  | .Call (.Name _ _) [] [] _ => true
  | _ => false
def isSetE : Expr → Bool
  | .Set _ _ _ => true
  | _ => false
def isComp : Expr → Bool
  | .ListComp _ _ _ _ => true
  | .SetComp _ _ _ _ => true
  | .DictComp _ _ _ _ _ => true
  | _ => false
def isTuple : Expr → Bool
  | .Tuple _ _ _ => true
  | _ => false
/-- the plain local names of a target that stand on one line -/
def swNames (kind : Str → Option NameKind) (ts : List Expr) : List Str := ts.filterMap fun
  | .Name id pos => if kind id == some .local && pos.line == (ts.head?.map (·.pos.line)).getD 0 then some id else none
  | _ => none
/-- a, b = x, y: stored from the right (true), by a tuple (false), or not known -/
def swKind (kind : Str → Option NameKind) (ts vs : List Expr) : Option Bool :=
  if (!(ts.length == 2 || ts.length == 3) || vs.length != ts.length) = true then some false
  else if ((swNames kind ts).length != ts.length) = true then some false
  else if ((swNames kind ts).eraseDups.length != (swNames kind ts).length) = true then none
  else if vs.all (PySem.foldedForSure 8) = true then some false
  else if vs.all (PySem.constantsAlone 8) = true then none
  else some true
def isSlice : Expr → Bool
  | .Slice _ _ _ _ => true
  | _ => false

/-- e.value -/
def bVal : T → Store → R T
  | .ex _ v, S => .ok v S
  | _, _ => .stuck
/-! the slots that a target stores -/
mutual
def tgW : Nat → Cxt → Expr → List Nat
  | 0, _, _ => []
  | d + 1, Γ, e => match e with
    | .Name x _ => (match Γ.slotL x with
      | some i => [i]
      | none => [])
    | .Tuple es _ _ => tgWs d Γ es
    | _ => []
def tgWs : Nat → Cxt → List Expr → List Nat
  | 0, _, _ => []
  | d + 1, Γ, es => match es with
    | [] => []
    | e :: r => tgW d Γ e ++ tgWs d Γ r
end
section
variable (call : Nat → List T → Store → R T)
mutual
noncomputable def denE : Nat → Cxt → Expr → EM
  | 0, _, _ => cStuck
  | d + 1, Γ, e => match e with
    | .Name x _ => (match Γ.slot x with
      | some i => cVar i
      | none => match Γ.glob x with
        | some (.con v) => cK v
        | _ => cStuck)
    | .Constant c _ _ => (match c with
      | .none => cK .non
      | .bool b => cK (.bl b)
      | .int i => cK (.int i)
      | .str x => cK (.str x)
      | _ => cStuck)
    | .BinOp a op b _ => cBin (opB op) (denE d Γ a) (denE d Γ b)
    | .UnaryOp op a _ => (match op with
      | .USub => cUn opNeg (denE d Γ a)
      | .Not => cNot (denE d Γ a)
      | _ => cStuck)
    | .BoolOp op es _ => denB d Γ op es
    | .Compare a ops bs _ => if bs.any isSetE = true then cStuck else (match ops, bs with
      | [op], [b] => cBin (opC op) (denE d Γ a) (denE d Γ b)
      | [op, op'], [b, c] => cChain (opC op) (opC op') (denE d Γ a) (denE d Γ b) (denE d Γ c)
      | _, _ => cStuck)
    | .IfExp c a b _ => cIte (denT d Γ c) (denE d Γ a) (denE d Γ b)
    | .Tuple es _ _ => cTup (denA d Γ es)
    | .List es _ => cLst (denA d Γ es)
    | .Dict ks vs _ => (match ks, vs with
      | [], [] => fun _ S => alloc (.dict []) S
      | _, _ => cStuck)
    | .Subscript a i _ => (match i with
      | .Slice lo hi st _ => (match st with
        | none => cSl (denE d Γ a) (denO d Γ lo) (denO d Γ hi)
        | some _ => cStuck)
      | i => cBin opIx (denE d Γ a) (denE d Γ i))
    | .ListComp elt gs scope _ => (match gs with
      | [⟨tg, iter, ifs, 0⟩] => if (L2.blkC Γ.N Γ.sc scope (ownOf Γ.N scope.names) && ((tgW d (Γ.blk scope) tg).all fun i => ((ownOf Γ.N scope.names).map (·.2)).contains i) && !isSetE iter) = true then
          cLC (denI d Γ iter) ((ownOf Γ.N scope.names).map (·.2)) (denG d (Γ.blk scope) tg) (denF d (Γ.blk scope) ifs) (cGc (denE d (Γ.blk scope) elt))
        else cStuck
      | _ => cStuck)
    | .Call f args kws cpos => if args.any isStar = true then cStuck else (match f with
      | .Name x _ => (match kws with
        | [] => (match Γ.slot x with
          | some _ => cStuck
          | none => match Γ.glob x with
            | some (.fn i) => if args.isEmpty = true then cStuck else cCall (call i) (denA d Γ args)
            | some (.blt b) => (match b, args with
              | .len, [a] => cUn bLen (denE d Γ a)
              | .int, [a] => cUn bInt (denE d Γ a)
              | .abs, [a] => cUn bAbs (denE d Γ a)
              | .str, [a] => cUn bStr (denE d Γ a)
              | .all, [a] => cUn bAll (denE d Γ a)
              | .any, [a] => cUn bAny (denE d Γ a)
              | .sum, [a] => cUn bSum (denE d Γ a)
              | .max, [a, b] => cBin bMax2 (denE d Γ a) (denE d Γ b)
              | .min, [a, b] => cBin bMin2 (denE d Γ a) (denE d Γ b)
              | .list, [a] => (match a with
                | .Call (.Name r _) ras [] _ => (match Γ.slot r, Γ.glob r with
                  | none, some (.blt .range) => if ras.any isStar = true then cStuck else (match ras with
                    | [u] => cUn bListRg1 (denE d Γ u)
                    | [u, v] => cBin bListRg2 (denE d Γ u) (denE d Γ v)
                    | _ => cStuck)
                  | _, _ => cUn bList (denE d Γ a))
                | a => cUn bList (denE d Γ a))
              | .tuple, [a] => (match a with
                | .Call (.Name r _) ras [] _ => (match Γ.slot r, Γ.glob r with
                  | none, some (.blt .range) => if ras.any isStar = true then cStuck else (match ras with
                    | [u] => cUn bTupleRg1 (denE d Γ u)
                    | [u, v] => cBin bTupleRg2 (denE d Γ u) (denE d Γ v)
                    | _ => cStuck)
                  | _, _ => cUn bTuple (denE d Γ a))
                | a => cUn bTuple (denE d Γ a))
              | .isinstance, [a, t] => (match t with
                | .Tuple ts _ _ => (match Γ.tys ts with
                  | some ts => if (ts.isEmpty || decide (LINE < ts.length)) = true then cStuck else cIsIs Γ.subC (denE d Γ a) ts
                  | none => cStuck)
                | t => (match Γ.ty t with
                  | some t => cIsI Γ.subC (denE d Γ a) t
                  | none => cStuck))
              | _, _ => cStuck)
            | _ => cStuck)
        | kws => (match Γ.slot x with
          | some _ => cStuck
          | none => match Γ.glob x, kwNames kws with
            | some (.fn i), some ks => if (i, args.length, ks) ∈ Γ.kw then cCallK (call i) (Γ.ps i) ks (denA d Γ args) (denK d Γ kws) else cStuck
            | _, _ => cStuck))
      | .Attribute o m apos => if (apos.endLine == cpos.line && !isCall0 o) = true then (match kws, args with
        | [], [a] => if m = ("append" : Str) then cMt isL mAppend (denE d Γ o) (denE d Γ a)
          else if m = ("index" : Str) then cMt isL mIndex (denE d Γ o) (denE d Γ a)
          else if m = ("join" : Str) then cMt isS mJoin (denE d Γ o) (denE d Γ a)
          else if m = ("extend" : Str) then cMt isL mExtend (denE d Γ o) (denE d Γ a)
          else if m = ("pop" : Str) then cMt isL mPopAt (denE d Γ o) (denE d Γ a)
          else cStuck
        | [], [] => if m = ("pop" : Str) then cMt0 isL mPop (denE d Γ o) else cStuck
        | _, _ => cStuck) else cStuck
      | _ => cStuck)
    | .Attribute o a _ => if a = ("value" : Str) ∧ isCall0 o = false then cUn bVal (denE d Γ o) else cStuck
    | _ => cStuck
noncomputable def denB : Nat → Cxt → BoolOp → List Expr → EM
  | 0, _, _, _ => cStuck
  | d + 1, Γ, op, es => match es with
    | [] => cStuck
    | a :: r => (match r with
      | [] => denE d Γ a
      | _ :: _ => match op with
        | .And => cAnd (denE d Γ a) (denB d Γ op r)
        | .Or => cOr (denE d Γ a) (denB d Γ op r))
noncomputable def denTB : Nat → Cxt → BoolOp → List Expr → TM
  | 0, _, _, _ => cStuck
  | d + 1, Γ, op, es => match es with
    | [] => cStuck
    | a :: r => (match r with
      | [] => denT d Γ a
      | _ :: _ => match op with
        | .And => tAnd (denT d Γ a) (denTB d Γ op r)
        | .Or => tOr (denT d Γ a) (denTB d Γ op r))
noncomputable def denT : Nat → Cxt → Expr → TM
  | 0, _, _ => cStuck
  | d + 1, Γ, e => match e with
    | .BoolOp op es _ => denTB d Γ op es
    | .UnaryOp op a p => (match op with
      | .Not => tNot (denT d Γ a)
      | op => cBl (denE d Γ (.UnaryOp op a p)))
    | .IfExp c a b _ => tIte (denT d Γ c) (denT d Γ a) (denT d Γ b)
    | e => cBl (denE d Γ e)
noncomputable def denA : Nat → Cxt → List Expr → AM
  | 0, _, _ => cStuck
  | d + 1, Γ, es => match es with
    | [] => aNil
    | e :: r => if isStar e = true then cStuck else aCons (denE d Γ e) (denA d Γ r)
noncomputable def denK : Nat → Cxt → List Keyword → AM
  | 0, _, _ => cStuck
  | d + 1, Γ, es => match es with
    | [] => aNil
    | ⟨_, e, _⟩ :: r => if isStar e = true then cStuck else aCons (denE d Γ e) (denK d Γ r)
noncomputable def denO : Nat → Cxt → Option Expr → OM
  | 0, _, _ => cStuck
  | d + 1, Γ, o => match o with
    | none => oNone
    | some e => oSome (denE d Γ e)
noncomputable def denF : Nat → Cxt → List Expr → TM
  | 0, _, _ => cStuck
  | d + 1, Γ, es => match es with
    | [] => tYes
    | [c] => cGcB (denT d Γ c)
    | _ => cStuck
noncomputable def denG : Nat → Cxt → Expr → GM
  | 0, _, _ => fun _ _ => none
  | d + 1, Γ, e => match e with
    | .Name x _ => (match Γ.slotL x with
      | some i => gName i
      | none => fun _ _ => none)
    | .Tuple es _ _ => if es.any isStar = true then fun _ _ => none else gTup (denGs d Γ es)
    | _ => fun _ _ => none
noncomputable def denGs : Nat → Cxt → List Expr → List T → Loc → Option Loc
  | 0, _, _ => fun _ _ => none
  | d + 1, Γ, es => match es with
    | [] => gNil
    | e :: r => if isStar e = true then fun _ _ => none else gCons (denG d Γ e) (denGs d Γ r)
noncomputable def denI : Nat → Cxt → Expr → IM
  | 0, _, _ => cStuck
  | d + 1, Γ, e => match e with
    | .Call (.Name r p) ras [] q => (match Γ.slot r, Γ.glob r with
      | none, some (.blt .range) => if ras.any isStar = true then cStuck else (match ras with
        | [u] => iRg1 (denE d Γ u)
        | [u, v] => iRg2 (denE d Γ u) (denE d Γ v)
        | _ => cStuck)
      | _, _ => iVal (denE d Γ (.Call (.Name r p) ras [] q)))
    | e => iVal (denE d Γ e)
end

def opAug (op : Operator) : T → T → Store → R T := match op with
  | .Add => opIAdd
  | .Sub => opSub
  | _ => fun _ _ _ => .stuck
/-- the slot of a plain local name -/
def Cxt.slotP (Γ : Cxt) (x : Str) : Option Nat := if (Γ.sc.names.lookup x == some .local) = true then idx Γ.N x else none
/-- behind a suite: the name goes; a suite raises nothing -/
def goesN (i : Nat) : SR → SR
  | .nx τ S => .nx (τ.set i none) S
  | .bk τ S => .bk (τ.set i none) S
  | .ct τ S => .ct (τ.set i none) S
  | .rt v S => .rt v S
  | _ => .stuck
def sTryN (body : SM) (catches : Nat → Bool) (i : Nat) (suite : SM) : SM := fun τ S => match body τ S with
  | .exc c v τ1 S1 => if catches c = true then goesN i (suite (τ1.set i (some (.ex c v))) S1) else .exc c v τ1 S1
  | r => r
/-! ### what an except suite may say -/
mutual
noncomputable def denX : Nat → Cxt → Expr → EM
  | 0, _, _ => cStuck
  | d + 1, Γ, e => match e with
    | .Name x _ => (match Γ.slot x with
      | some i => cVar i
      | none => cStuck)
    | .Constant c _ _ => (match c with
      | .none => cK .non
      | .bool b => cK (.bl b)
      | .int i => cK (.int i)
      | .str x => cK (.str x)
      | _ => cStuck)
    | .Tuple es _ _ => cTup (denXA d Γ es)
    | .List es _ => cLst (denXA d Γ es)
    | .Attribute o a _ => if a = ("value" : Str) ∧ isCall0 o = false then cUn bVal (denX d Γ o) else cStuck
    | _ => cStuck
noncomputable def denXA : Nat → Cxt → List Expr → AM
  | 0, _, _ => cStuck
  | d + 1, Γ, es => match es with
    | [] => aNil
    | e :: r => if isStar e = true then cStuck else aCons (denX d Γ e) (denXA d Γ r)
end
noncomputable def denXs : Nat → Cxt → List Stmt → SM
  | 0, _, _ => sStuck
  | d + 1, Γ, sts => match sts with
    | [] => sNext
    | s :: r => (match s with
      | .Assign [.Name x _] e _ => (match Γ.slotL x with
        | some i => if isComp e = true then sStuck else sSeq (sAsg (cGc (denX d Γ e)) (gName i)) (denXs d Γ r)
        | none => sStuck)
      | _ => sStuck)
mutual
noncomputable def denS : Nat → Cxt → Stmt → SM
  | 0, _, _ => sStuck
  | d + 1, Γ, st => match st with
    | .Return v _ => (match v with
      | some e => sRet (denE call d Γ e)
      | none => sRet (cK .non))
    | .Expr e _ => if isComp e = true then sStuck else sExpr (cGc (denE call d Γ e))
    | .Assign tgs e _ => (match tgs with
      | [tg] => (match tg with
        | .Subscript o i _ => if isSlice i = true then sStuck else sSet (denE call d Γ e) (denE call d Γ o) (denE call d Γ i)
        | .Tuple ts _ _ => (match e with
          | .Tuple vs _ _ => (match swKind (fun x => Γ.sc.names.lookup x) ts vs with
            | some false => if vs.any isStar = true then sStuck else sAsg (cGc (denE call d Γ e)) (denG call d Γ tg)
            | some true => if vs.any isStar = true then sStuck else (match ts, vs with
              | [.Name x _, .Name y _], [a, b] => (match Γ.slotP x, Γ.slotP y with
                | some i, some j => if i ≠ j then sPar (denA call d Γ [a, b]) [i, j] else sStuck
                | _, _ => sStuck)
              | [.Name x _, .Name y _, .Name z _], [a, b, c] => (match Γ.slotP x, Γ.slotP y, Γ.slotP z with
                | some i, some j, some l => if i ≠ j ∧ i ≠ l ∧ j ≠ l then sPar (denA call d Γ [a, b, c]) [i, j, l] else sStuck
                | _, _, _ => sStuck)
              | _, _ => sStuck)
            | none => sStuck)
          | e => sAsg (cGc (denE call d Γ e)) (denG call d Γ tg))
        | .Name x _ => (match Γ.slotL x with
          | some i => sAsg (cGc (denE call d Γ e)) (gName i)
          | none => sStuck)
        | _ => sStuck)
      | _ => sStuck)
    | .AugAssign tg op e _ => (match tg with
      | .Name x _ => (match Γ.slotL x with
        | some i => sAug i (opAug op) (denE call d Γ e)
        | none => sStuck)
      | .Subscript o i _ => if isSlice i = true then sStuck else sAugS (opAug op) (denE call d Γ o) (denE call d Γ i) (denE call d Γ e)
      | _ => sStuck)
    | .If c a b _ => sIf (cGcB (denT call d Γ c)) (denSs d Γ a) (denSs d Γ b)
    | .For tg it body orelse _ => (match orelse with
      | [] => if isSetE it = true then sStuck else sFor (denI call d Γ it) (denG call d Γ tg) (denSs d Γ body)
      | _ => sStuck)
    | .While c body orelse _ => (match orelse with
      | [] => sWhile (cGcB (denT call d Γ c)) (denSs d Γ body)
      | _ => sStuck)
    | .Pass _ => sNext
    | .Break _ => sBreak
    | .Continue _ => sCont
    | .Raise e cause _ => (match e, cause with
      | some (.Call (.Name x _) [a] [] _), none => (match Γ.slot x, Γ.glob x with
        | none, some (.cls c) => if isStar a = true then sStuck else sRaise c (denE call d Γ a)
        | _, _ => sStuck)
      | _, _ => sStuck)
    | .Try body hs orelse fin _ => (match hs, orelse, fin with
      | [.ExceptHandler (some (.Name x _)) (some n) (b₀ :: suite) _], [], [] => (match Γ.slot x, Γ.glob x, Γ.slotP n with
        | none, some (.cls c), some i => sTryN (denSs d Γ body) (fun c' => Γ.subC c' c) i (denXs d Γ (b₀ :: suite))
        | _, _, _ => sStuck)
      | _, _, _ => sStuck)
    | _ => sStuck
noncomputable def denSs : Nat → Cxt → List Stmt → SM
  | 0, _, _ => sStuck
  | d + 1, Γ, sts => match sts with
    | [] => sNext
    | s :: r => sSeq (denS d Γ s) (denSs d Γ r)
end
end

/-! ### defs that call each other -/
structure Def where
  name : Str
  ps : List Str
  N : List Str
  st : Stmt
structure Prog where
  defs : List Def
  gl : List (Str × GV)
  subC : Nat → Nat → Bool
  kw : List (Nat × Nat × List Str)
def Prog.psOf (p : Prog) (i : Nat) : List Str := match p.defs[i]? with
  | some f => f.ps
  | none => []
def Prog.cxt (p : Prog) (f : Def) : Cxt := ⟨f.N, L2.defScope f.st, p.gl, p.psOf, p.subC, fun _ => true, p.kw⟩
def start (n : Nat) (vs : List T) : Loc := vs.map some ++ List.replicate (n - vs.length) none
noncomputable def endOf (S : Store) : SR → R T
  | .rt v S' => gc S S' v
  | .nx _ S' => gc S S' .non
  | .exc c v _ S' => .exc c v S'
  | _ => .stuck
/-- the depth of the syntax that is looked at -/
def DEEP : Nat := 240
noncomputable def callF (p : Prog) : Nat → Nat → List T → Store → R T
  | 0, _, _, _ => .stuck
  | k + 1, i, vs, S => match p.defs[i]? with
    | some f => if vs.length = f.ps.length then endOf S (denSs (callF p k) DEEP (p.cxt f) (L2.defBody f.st) (start f.N.length vs) S) else .stuck
    | none => .stuck
end EV
end
section
set_option Elab.async false
set_option linter.all false
set_option maxRecDepth 100000
set_option maxHeartbeats 2000000
set_option autoImplicit false
namespace EV
open PySem PySem.Spec PyProof.Rows L2

/-! ### how trees and stores stand in the heap -/
/-- an exception of a class of one's own that was caught: d holds its fields -/
def ExH (C d a : Addr) : HO := .ext fun h => ∃ (oe : Obj) (vs : Array Value), h.get? a = some oe ∧ Zc (.ref C) (some d) oe ∧ oe.data = .fields vs
def Fix : HO → Prop
  | .tup _ => True
  | .rng _ _ => True
  | .xd _ => True
  | .frz _ _ => True
  | .ext φ => ∃ C d a, HO.ext φ = ExH C d a
  | _ => False
/-- what stands still: the places of the store, things that never change, whatever is no object of the store -/
structure Ext (L L' : List Addr) (H H' : Hp) : Prop where
  pre : ∀ (n : Nat) (a : Addr), L[n]? = some a → L'[n]? = some a
  fix : ∀ (a : Addr) (o : HO), Fix o → H a = some o → H' a = some o
  frame : ∀ (a : Addr) (o : HO), H a = some o → (∀ (n : Nat), L[n]? ≠ some a) → H' a = some o
  new : ∀ (n : Nat) (a : Addr), L'[n]? = some a → (∃ m : Nat, L[m]? = some a) ∨ H a = none
  dom : ∀ (a : Addr) (o : HO), H a = some o → ∃ o', H' a = some o'
theorem Ext.refl (L : List Addr) (H : Hp) : Ext L L H H := ⟨fun _ _ h => h, fun _ _ _ h => h, fun _ _ h _ => h, fun n _ h => .inl ⟨n, h⟩, fun _ o h => ⟨o, h⟩⟩
theorem Ext.trans {L L1 L2 : List Addr} {H H1 H2 : Hp} (a : Ext L L1 H H1) (b : Ext L1 L2 H1 H2) : Ext L L2 H H2 := by
  refine ⟨fun n x h => b.pre n x (a.pre n x h), fun x o f h => b.fix x o f (a.fix x o f h), fun x o h hn => b.frame x o (a.frame x o h hn) fun n q => ?_, fun n x h => ?_, fun x o h => ?_⟩
  · rcases a.new n x q with ⟨m, z⟩ | z
    · exact hn m z
    · rw [h] at z; cases z
  · rcases b.new n x h with ⟨m, z⟩ | z
    · exact a.new m x z
    · right
      cases e : H x with
      | none => rfl
      | some o =>
        obtain ⟨o', q⟩ := a.dom x o e
        rw [z] at q; cases q
  · obtain ⟨o', q⟩ := a.dom x o h
    exact b.dom x o' q
/-- the part of it that trees lean on -/
structure Stay (L L' : List Addr) (H H' : Hp) : Prop where
  pre : ∀ (n : Nat) (a : Addr), L[n]? = some a → L'[n]? = some a
  fix : ∀ (a : Addr) (o : HO), Fix o → H a = some o → H' a = some o
theorem Ext.stay {L L' : List Addr} {H H' : Hp} (e : Ext L L' H H') : Stay L L' H H' := ⟨e.pre, e.fix⟩
theorem app_old {L : List Addr} {p : Addr} {n : Nat} {a : Addr} (h : L[n]? = some a) : (L ++ [p])[n]? = some a := by
  rw [List.getElem?_append_left (List.getElem?_eq_some_iff.mp h).1]; exact h
theorem app_inv {L : List Addr} {p : Addr} {n : Nat} {a : Addr} (h : (L ++ [p])[n]? = some a) : L[n]? = some a ∨ (n = L.length ∧ a = p) := by
  by_cases hn : n < L.length
  · left; rw [List.getElem?_append_left hn] at h; exact h
  · right
    rw [List.getElem?_append_right (by omega)] at h
    have h0 : n - L.length = 0 := by
      have := (List.getElem?_eq_some_iff.mp h).1
      simp at this; omega
    rw [h0] at h
    simp at h
    exact ⟨by omega, h.symm⟩
theorem Ext.new1 {L : List Addr} {H : Hp} {p : Addr} {o : HO} (hp : H p = none) : Ext L (L ++ [p]) H (upd H p o) :=
  ⟨fun _ _ => app_old, fun a u _ e => by rw [upd_ne (ne_of_none e hp)]; exact e, fun a u e _ => by rw [upd_ne (ne_of_none e hp)]; exact e,
    fun n a h => (app_inv h).elim (fun q => .inl ⟨n, q⟩) fun q => .inr (by rw [q.2]; exact hp), fun a u e => ⟨u, by rw [upd_ne (ne_of_none e hp)]; exact e⟩⟩
theorem Ext.new0 {L : List Addr} {H : Hp} {p : Addr} {o : HO} (hp : H p = none) : Ext L L H (upd H p o) :=
  ⟨fun _ _ h => h, fun a u _ e => by rw [upd_ne (ne_of_none e hp)]; exact e, fun a u e _ => by rw [upd_ne (ne_of_none e hp)]; exact e,
    fun n a h => .inl ⟨n, h⟩, fun a u e => ⟨u, by rw [upd_ne (ne_of_none e hp)]; exact e⟩⟩
theorem Ext.write {L : List Addr} {H : Hp} {p : Addr} {o u : HO} {n : Nat} (hn : L[n]? = some p) (hp : H p = some u) (nf : ¬ Fix u) : Ext L L H (upd H p o) := by
  refine ⟨fun _ _ h => h, fun a z f e => ?_, fun a z e h => ?_, fun n a h => .inl ⟨n, h⟩, fun a z e => ?_⟩
  · have : a ≠ p := fun q => by rw [q, hp] at e; cases e; exact nf f
    rw [upd_ne this]; exact e
  · have : a ≠ p := fun q => h n (by rw [q]; exact hn)
    rw [upd_ne this]; exact e
  · by_cases q : a = p
    · exact ⟨o, by rw [q]; exact upd_same⟩
    · exact ⟨z, by rw [upd_ne q]; exact e⟩

def TupAt (K : PySem.W.Frag) (H : Hp) (a : Addr) (xs : List V) : Prop := H a = some (.tup xs) ∨
  ∃ (o : Obj) (its : Array Value) (n : Nat), K.lookup a = some o ∧ o.cls = .type "tuple" ∧ o.data = .seq its n ∧ its.size ≤ sizeLine ∧ Vals xs its.toList
def FrlAt (K : PySem.W.Frag) (H : Hp) (a : Addr) (xs : List V) : Prop := (∃ o, H a = some (.frz o (.lst xs))) ∨
  ∃ (o : Obj) (its : Array Value) (n : Nat), K.lookup a = some o ∧ o.cls = .type "list" ∧ o.dict = none ∧ o.data = .seq its n ∧ its.size ≤ sizeLine ∧ Vals xs its.toList
section
variable {K : PySem.W.Frag} {cl : Nat → Addr} {L L' L1 : List Addr} {H H' H1 : Hp} {a : Addr} {xs : List V}
theorem TupAt.sq (h : TupAt K H a xs) : SqT K H a xs := h.elim (fun e => .inl (.inl e)) .inr
theorem FrlAt.sq (h : FrlAt K H a xs) : SqL K H a xs := h.elim (fun ⟨o, e⟩ => .inl (.inr ⟨o, e⟩)) .inr
theorem TupAt.stay (h : TupAt K H a xs) (e : Stay L L' H H') : TupAt K H' a xs := h.elim (fun q => .inl (e.fix _ _ trivial q)) .inr
theorem FrlAt.stay (h : FrlAt K H a xs) (e : Stay L L' H H') : FrlAt K H' a xs := h.elim (fun ⟨o, q⟩ => .inl ⟨o, e.fix _ _ trivial q⟩) .inr
theorem TupAt.mono (h : TupAt K H a xs) (e : Ext L L' H H') : TupAt K H' a xs := h.stay e.stay
theorem FrlAt.mono (h : FrlAt K H a xs) (e : Ext L L' H H') : FrlAt K H' a xs := h.stay e.stay

/-! the tree stands at the value -/
mutual
inductive Rp (K : PySem.W.Frag) (cl : Nat → Addr) (L : List Addr) (H : Hp) : T → V → Prop where
  | non : Rp K cl L H .non .non
  | bl (b : Bool) : Rp K cl L H (.bl b) (.bl b)
  | int (i : Int) : Rp K cl L H (.int i) (.int i)
  | str (x : Str) : Rp K cl L H (.str x) (.str x)
  | tup {xs : List T} {a : Addr} {vs : List V} (h : TupAt K H a vs) (r : Rps K cl L H xs vs) : Rp K cl L H (.tup xs) (.ref a)
  | frl {xs : List T} {a : Addr} {vs : List V} (h : FrlAt K H a vs) (r : Rps K cl L H xs vs) : Rp K cl L H (.frl xs) (.ref a)
  | loc {n : Nat} {a : Addr} (h : L[n]? = some a) : Rp K cl L H (.loc n) (.ref a)
  | rng {lo hi : Int} {a : Addr} (h : H a = some (.rng lo hi)) : Rp K cl L H (.rng lo hi) (.ref a)
  | ex {c : Nat} {v : T} {a d : Addr} {x : V} (h : H a = some (ExH (cl c) d a)) (hd : H d = some (.xd [(("value" : Str), x)])) (r : Rp K cl L H v x) : Rp K cl L H (.ex c v) (.ref a)
inductive Rps (K : PySem.W.Frag) (cl : Nat → Addr) (L : List Addr) (H : Hp) : List T → List V → Prop where
  | nil : Rps K cl L H [] []
  | cons {x : T} {v : V} {xs : List T} {vs : List V} (h : Rp K cl L H x v) (t : Rps K cl L H xs vs) : Rps K cl L H (x :: xs) (v :: vs)
end
mutual
theorem Rp.stay (e : Stay L L' H H') : ∀ {t : T} {v : V}, Rp K cl L H t v → Rp K cl L' H' t v
  | _, _, .non => .non
  | _, _, .bl b => .bl b
  | _, _, .int i => .int i
  | _, _, .str x => .str x
  | _, _, .tup h r => .tup (h.stay e) (Rps.stay e r)
  | _, _, .frl h r => .frl (h.stay e) (Rps.stay e r)
  | _, _, .loc h => .loc (e.pre _ _ h)
  | _, _, .rng h => .rng (e.fix _ _ trivial h)
  | _, _, .ex h hd r => .ex (e.fix _ _ ⟨_, _, _, rfl⟩ h) (e.fix _ _ trivial hd) (Rp.stay e r)
theorem Rps.stay (e : Stay L L' H H') : ∀ {t : List T} {v : List V}, Rps K cl L H t v → Rps K cl L' H' t v
  | _, _, .nil => .nil
  | _, _, .cons h t => .cons (Rp.stay e h) (Rps.stay e t)
end
theorem Rp.mono (e : Ext L L' H H') {t : T} {v : V} (h : Rp K cl L H t v) : Rp K cl L' H' t v := Rp.stay e.stay h
theorem Rps.mono (e : Ext L L' H H') {t : List T} {v : List V} (h : Rps K cl L H t v) : Rps K cl L' H' t v := Rps.stay e.stay h
/-! a tree that reaches no object from k on stands over the first k addresses -/
mutual
theorem Rp.sco {k : Nat} (hk : ∀ (n : Nat) (a : Addr), n < k → L[n]? = some a → L'[n]? = some a) : ∀ {t : T} {v : V}, Rp K cl L H t v → t.sco k = true → Rp K cl L' H t v
  | _, _, .non, _ => .non
  | _, _, .bl b, _ => .bl b
  | _, _, .int i, _ => .int i
  | _, _, .str x, _ => .str x
  | _, _, .tup h r, s => .tup h (Rps.sco hk r (by simpa [T.sco] using s))
  | _, _, .frl h r, s => .frl h (Rps.sco hk r (by simpa [T.sco] using s))
  | _, _, .loc h, s => .loc (hk _ _ (by simpa [T.sco] using s) h)
  | _, _, .rng h, _ => .rng h
  | _, _, .ex h hd r, s => .ex h hd (Rp.sco hk r (by simpa [T.sco] using s))
theorem Rps.sco {k : Nat} (hk : ∀ (n : Nat) (a : Addr), n < k → L[n]? = some a → L'[n]? = some a) : ∀ {t : List T} {v : List V}, Rps K cl L H t v → T.scoL k t = true → Rps K cl L' H t v
  | _, _, .nil, _ => .nil
  | _, _, .cons h t, s => by
    simp only [T.scoL, Bool.and_eq_true] at s
    exact .cons (Rp.sco hk h s.1) (Rps.sco hk t s.2)
end
theorem Rps.length : ∀ {t : List T} {v : List V}, Rps K cl L H t v → t.length = v.length
  | _, _, .nil => rfl
  | _, _, .cons _ t => by rw [List.length_cons, List.length_cons, Rps.length t]
theorem Rps.get : ∀ {t : List T} {v : List V} {i : Nat} {x : T}, Rps K cl L H t v → t[i]? = some x → ∃ y, v[i]? = some y ∧ Rp K cl L H x y
  | _, _, _, _, .nil, e => by simp at e
  | _, _, 0, _, .cons h _, e => by simp at e; subst e; exact ⟨_, rfl, h⟩
  | _, _, i + 1, _, .cons _ t, e => by
    obtain ⟨y, h1, h2⟩ := Rps.get (i := i) t (by simpa using e)
    exact ⟨y, by simpa using h1, h2⟩
theorem Rps.append : ∀ {t u : List T} {v w : List V}, Rps K cl L H t v → Rps K cl L H u w → Rps K cl L H (t ++ u) (v ++ w)
  | _, _, _, _, .nil, s => s
  | _, _, _, _, .cons h t, s => .cons h (Rps.append t s)
theorem Rps.take : ∀ {t : List T} {v : List V} (n : Nat), Rps K cl L H t v → Rps K cl L H (t.take n) (v.take n)
  | _, _, 0, _ => .nil
  | _, _, _ + 1, .nil => .nil
  | _, _, n + 1, .cons h t => .cons h (Rps.take n t)
theorem Rps.drop : ∀ {t : List T} {v : List V} (n : Nat), Rps K cl L H t v → Rps K cl L H (t.drop n) (v.drop n)
  | _, _, 0, r => r
  | _, _, _ + 1, .nil => .nil
  | _, _, n + 1, .cons _ t => Rps.drop n t
theorem Rps.set {x : T} {y : V} (h : Rp K cl L H x y) : ∀ {t : List T} {v : List V} (n : Nat), Rps K cl L H t v → Rps K cl L H (t.set n x) (v.set n y)
  | _, _, _, .nil => .nil
  | _, _, 0, .cons _ t => .cons h t
  | _, _, n + 1, .cons q t => .cons q (Rps.set h n t)
theorem Rps.eraseIdx : ∀ {t : List T} {v : List V} (n : Nat), Rps K cl L H t v → Rps K cl L H (t.eraseIdx n) (v.eraseIdx n)
  | _, _, _, .nil => .nil
  | _, _, 0, .cons _ t => t
  | _, _, n + 1, .cons q t => .cons q (Rps.eraseIdx n t)
theorem Rps.dropLast : ∀ {t : List T} {v : List V}, Rps K cl L H t v → Rps K cl L H t.dropLast v.dropLast
  | _, _, .nil => .nil
  | _, _, .cons h .nil => .nil
  | _, _, .cons h (.cons h2 t) => .cons h (Rps.dropLast (.cons h2 t))
theorem Rps.flat {t : List T} {v : List V} (h : Rps K cl L H t v) : ∀ n, Rps K cl L H (List.replicate n t).flatten (List.replicate n v).flatten
  | 0 => .nil
  | n + 1 => by rw [List.replicate_succ, List.replicate_succ, List.flatten_cons, List.flatten_cons]; exact h.append (Rps.flat h n)

/-- an object of the store stands at the address -/
def RO (K : PySem.W.Frag) (cl : Nat → Addr) (L : List Addr) (H : Hp) (a : Addr) : O → Prop
  | .lst xs => ∃ vs, H a = some (.lst vs) ∧ Rps K cl L H xs vs
  | .dict kvs => kvs? kvs = true ∧ ∃ ws : List (Key × V), H a = some (.dK ws) ∧ Rps K cl L H (kvs.map (·.1)) (ws.map fun p => kV p.1) ∧ Rps K cl L H (kvs.map (·.2)) (ws.map (·.2))
  | .sset _ => False
theorem RO.some {o : O} (h : RO K cl L H a o) : ∃ u, H a = Option.some u ∧ ¬ Fix u := by
  cases o with
  | lst xs => obtain ⟨vs, e, _⟩ := h; exact ⟨_, e, fun z => z⟩
  | dict kvs => obtain ⟨_, ws, e, _⟩ := h; exact ⟨_, e, fun z => z⟩
  | sset xs => exact h.elim
theorem RO.stay {o : O} (h : RO K cl L H a o) (e : Stay L L' H H') (k : H' a = H a) : RO K cl L' H' a o := by
  cases o with
  | lst xs => obtain ⟨vs, q, r⟩ := h; exact ⟨vs, by rw [k]; exact q, r.stay e⟩
  | dict kvs => obtain ⟨z, ws, q, r, r2⟩ := h; exact ⟨z, ws, by rw [k]; exact q, r.stay e, r2.stay e⟩
  | sset xs => exact h.elim
theorem RO.mono {o : O} (h : RO K cl L H a o) (e : Ext L L' H H') (k : H' a = H a) : RO K cl L' H' a o := h.stay e.stay k
structure RS (K : PySem.W.Frag) (cl : Nat → Addr) (L : List Addr) (H : Hp) (S : Store) : Prop where
  len : L.length = S.length
  nd : ∀ (m n : Nat) (a : Addr), L[m]? = some a → L[n]? = some a → m = n
  at_ : ∀ (n : Nat) (o : O), S[n]? = some o → ∃ a, L[n]? = some a ∧ RO K cl L H a o
theorem RS.get {S : Store} {n : Nat} {o : O} (r : RS K cl L H S) (h : S[n]? = some o) {a : Addr} (ha : L[n]? = some a) : RO K cl L H a o := by
  obtain ⟨b, h1, h2⟩ := r.at_ n o h
  rw [ha] at h1; cases h1; exact h2
theorem RS.has {S : Store} {n : Nat} {a : Addr} (r : RS K cl L H S) (ha : L[n]? = some a) : ∃ o, S[n]? = some o ∧ RO K cl L H a o := by
  have hn : n < S.length := by rw [← r.len]; exact (List.getElem?_eq_some_iff.mp ha).1
  exact ⟨S[n], List.getElem?_eq_getElem hn, r.get (List.getElem?_eq_getElem hn) ha⟩
theorem RS.ne {S : Store} {p : Addr} (r : RS K cl L H S) (hp : H p = none) : ∀ (n : Nat) (a : Addr), L[n]? = some a → a ≠ p := fun n a ha e => by
  obtain ⟨o, _, h⟩ := r.has ha
  obtain ⟨u, hu, _⟩ := h.some
  rw [e, hp] at hu; cases hu
/-- a new object -/
theorem RS.alloc {S : Store} {p : Addr} {o : O} {u : HO} (r : RS K cl L H S) (hp : H p = none) (ho : RO K cl (L ++ [p]) (upd H p u) p o) :
    Ext L (L ++ [p]) H (upd H p u) ∧ RS K cl (L ++ [p]) (upd H p u) (S ++ [o]) ∧ Rp K cl (L ++ [p]) (upd H p u) (.loc S.length) (.ref p) := by
  have pre : ∀ (n : Nat) (a : Addr), L[n]? = Option.some a → (L ++ [p])[n]? = Option.some a := fun _ _ => app_old
  have e : Ext L (L ++ [p]) H (upd H p u) := Ext.new1 hp
  have last : (L ++ [p])[S.length]? = Option.some p := by rw [← r.len]; simp
  have cases_ : ∀ (n : Nat) (a : Addr), (L ++ [p])[n]? = Option.some a → L[n]? = Option.some a ∨ (n = S.length ∧ a = p) := fun n a h => by
    rw [← r.len]; exact app_inv h
  refine ⟨e, ⟨by simp [r.len], fun m n a h1 h2 => ?_, fun n o' h => ?_⟩, .loc last⟩
  · rcases cases_ m a h1 with h1 | ⟨h1, e1⟩
    · rcases cases_ n a h2 with h2 | ⟨h2, e2⟩
      · exact r.nd m n a h1 h2
      · exact absurd e2 (r.ne hp m a h1)
    · rcases cases_ n a h2 with h2 | ⟨h2, e2⟩
      · exact absurd e1 (r.ne hp n a h2)
      · omega
  · by_cases hn : n < S.length
    · rw [List.getElem?_append_left hn] at h
      obtain ⟨a, h1, h2⟩ := r.at_ n o' h
      exact ⟨a, pre n a h1, h2.mono e (upd_ne (r.ne hp n a h1))⟩
    · rw [List.getElem?_append_right (by omega)] at h
      have h0 : n - S.length = 0 := by
        have := (List.getElem?_eq_some_iff.mp h).1
        simp at this; omega
      rw [h0] at h
      simp at h
      subst h
      have : n = S.length := by omega
      subst this
      exact ⟨p, last, ho⟩
/-- a new thing that is no object of the store -/
theorem RS.new {S : Store} {p : Addr} {u : HO} (r : RS K cl L H S) (hp : H p = none) : Ext L L H (upd H p u) ∧ RS K cl L (upd H p u) S := by
  have e : Ext L L H (upd H p u) := Ext.new0 hp
  refine ⟨e, r.len, r.nd, fun n o h => ?_⟩
  obtain ⟨a, h1, h2⟩ := r.at_ n o h
  exact ⟨a, h1, h2.mono e (upd_ne (r.ne hp n a h1))⟩
/-- an object written -/
theorem RS.write {S : Store} {n : Nat} {p : Addr} {o o' : O} {u : HO} (r : RS K cl L H S) (hn : S[n]? = some o) (ha : L[n]? = some p) (ho : ∀ e : Ext L L H (upd H p u), RO K cl L (upd H p u) p o') :
    Ext L L H (upd H p u) ∧ RS K cl L (upd H p u) (S.set n o') := by
  obtain ⟨w, hw, nf⟩ := (r.get hn ha).some
  have e : Ext L L H (upd H p u) := Ext.write ha hw nf
  have hlt : n < S.length := (List.getElem?_eq_some_iff.mp hn).1
  refine ⟨e, by rw [List.length_set]; exact r.len, r.nd, fun m o2 h => ?_⟩
  by_cases hm : m = n
  · subst hm
    rw [List.getElem?_set_self hlt] at h
    cases h
    exact ⟨p, ha, ho e⟩
  · rw [List.getElem?_set_ne (Ne.symm hm)] at h
    obtain ⟨a, h1, h2⟩ := r.at_ m o2 h
    refine ⟨a, h1, h2.mono e (upd_ne fun z => hm ?_)⟩
    subst z
    exact r.nd m n _ h1 ha

/-- a thing that is no object of the store is written -/
theorem RS.beside {S : Store} {p : Addr} {o u : HO} (r : RS K cl L H S) (hp : H p = some u) (nf : ¬ Fix u) (hn : ∀ n : Nat, L[n]? ≠ some p) : Stay L L H (upd H p o) ∧ RS K cl L (upd H p o) S := by
  have e : Stay L L H (upd H p o) := ⟨fun _ _ h => h, fun a z f q => by
    have : a ≠ p := fun q2 => by rw [q2, hp] at q; cases q; exact nf f
    rw [upd_ne this]; exact q⟩
  refine ⟨e, r.len, r.nd, fun n o' h => ?_⟩
  obtain ⟨a, h1, h2⟩ := r.at_ n o' h
  exact ⟨a, h1, h2.stay e (upd_ne fun z => hn n (by rw [h1, z]))⟩
/-- .. that was not there ahead -/
theorem Ext.beside {L0 : List Addr} {H0 : Hp} {p : Addr} {o : HO} (e : Ext L0 L H0 H) (h0 : H0 p = none) : Ext L0 L H0 (upd H p o) :=
  ⟨e.pre, fun a z f q => by rw [upd_ne (ne_of_none q h0)]; exact e.fix a z f q, fun a z q h => by rw [upd_ne (ne_of_none q h0)]; exact e.frame a z q h, e.new, fun a z q => by rw [upd_ne (ne_of_none q h0)]; exact e.dom a z q⟩
theorem Ext.notIn {L0 : List Addr} {H0 : Hp} {p : Addr} {u : HO} (e : Ext L0 L H0 H) (h0 : H0 p = some u) (hn : ∀ n : Nat, L0[n]? ≠ some p) : ∀ n : Nat, L[n]? ≠ some p := fun n q => by
  rcases e.new n p q with ⟨m, z⟩ | z
  · exact hn m z
  · rw [h0] at z; cases z

/-! ### the slots -/
structure RL (K : PySem.W.Frag) (cl : Nat → Addr) (L : List Addr) (H : Hp) (τ : Loc) (σ : L2.St) : Prop where
  len : τ.length = σ.length
  at_ : ∀ (i : Nat) (v : T), τ[i]? = some (some v) → ∃ x, σ[i]? = some (some x) ∧ Rp K cl L H v x
theorem RL.mono {τ : Loc} {σ : L2.St} (r : RL K cl L H τ σ) (e : Ext L L' H H') : RL K cl L' H' τ σ :=
  ⟨r.len, fun i v h => let ⟨x, a, b⟩ := r.at_ i v h; ⟨x, a, b.mono e⟩⟩
theorem RL.set {τ : Loc} {σ : L2.St} (r : RL K cl L H τ σ) {v : T} {x : V} (h : Rp K cl L H v x) (i : Nat) : RL K cl L H (τ.set i (some v)) (σ.set i (some x)) := by
  refine ⟨by rw [List.length_set, List.length_set]; exact r.len, fun j u q => ?_⟩
  by_cases hj : j = i
  · subst hj
    have hlt : j < τ.length := by
      have := (List.getElem?_eq_some_iff.mp q).1
      rwa [List.length_set] at this
    rw [List.getElem?_set_self hlt] at q
    cases q
    exact ⟨x, List.getElem?_set_self (by rw [← r.len]; exact hlt), h⟩
  · rw [List.getElem?_set_ne (Ne.symm hj)] at q ⊢
    exact r.at_ j u q
theorem RL.unset {τ : Loc} {σ : L2.St} (r : RL K cl L H τ σ) (i : Nat) : RL K cl L H (τ.set i none) (σ.set i none) := by
  refine ⟨by rw [List.length_set, List.length_set]; exact r.len, fun j u q => ?_⟩
  by_cases hj : j = i
  · subst hj
    have hlt : j < τ.length := by
      have := (List.getElem?_eq_some_iff.mp q).1
      rwa [List.length_set] at this
    rw [List.getElem?_set_self hlt] at q
    cases q
  · rw [List.getElem?_set_ne (Ne.symm hj)] at q ⊢
    exact r.at_ j u q
theorem RL.wipe {τ : Loc} {σ : L2.St} (r : RL K cl L H τ σ) : ∀ vs : List Nat, RL K cl L H (wipe τ vs) (L2.wipe σ vs)
  | [] => r
  | v :: vs => (RL.wipe r vs).unset v

/-! ### results -/
abbrev PostR (K : PySem.W.Frag) (cl : Nat → Addr) (L : List Addr) (H : Hp) {α β : Type} (rel : List Addr → Hp → α → β → Prop) (a : α) (S : Store) (Q : β → Hp → Prop) : Prop :=
  ∀ L' H' z, Ext L L' H H' → RS K cl L' H' S → rel L' H' a z → Q z H'
/-- what an exception is wished to be -/
abbrev ExcR (K : PySem.W.Frag) (cl : Nat → Addr) (L : List Addr) (H : Hp) (c : Nat) (v : T) (S : Store) (W : Value → Option Addr → Hp → Prop) : Prop :=
  ∀ L' H' d x, Ext L L' H H' → RS K cl L' H' S → H' d = some (.xd [(("value" : Str), x)]) → Rp K cl L' H' v x → W (.ref (cl c)) (some d) H'
def ResR (K : PySem.W.Frag) (cl : Nat → Addr) (L : List Addr) (H : Hp) {α β : Type} (rel : List Addr → Hp → α → β → Prop) (r : R α) (Q : β → Hp → Prop) (W : Value → Option Addr → Hp → Prop) : Prop := match r with
  | .ok a S => PostR K cl L H rel a S Q
  | .exc c v S => ExcR K cl L H c v S W
  | .stuck => False
theorem ResR.mono {α β : Type} {rel : List Addr → Hp → α → β → Prop} {r : R α} {Q : β → Hp → Prop} {W : Value → Option Addr → Hp → Prop} (h : ResR K cl L H rel r Q W) (e : Ext L L' H H') : ResR K cl L' H' rel r Q W := by
  cases r with
  | ok a S => exact fun L2 H2 z e2 => h L2 H2 z (e.trans e2)
  | exc c v S => exact fun L2 H2 d x e2 => h L2 H2 d x (e.trans e2)
  | stuck => exact h
theorem ResR.imp {α β : Type} {rel : List Addr → Hp → α → β → Prop} {r : R α} {Q Q' : β → Hp → Prop} {W : Value → Option Addr → Hp → Prop} (h : ResR K cl L H rel r Q W) (q : ∀ z H', Q z H' → Q' z H') : ResR K cl L H rel r Q' W := by
  cases r with
  | ok a S => exact fun L2 H2 z e2 s r => q _ _ (h L2 H2 z e2 s r)
  | exc c v S => exact h
  | stuck => exact h
/-- a result goes on -/
theorem ResR.bind {α β α' β' : Type} {rel : List Addr → Hp → α → β → Prop} {rel' : List Addr → Hp → α' → β' → Prop} {r : R α} {f : α → Store → R α'} {Q : β → Hp → Prop} {Q' : β' → Hp → Prop} {W : Value → Option Addr → Hp → Prop}
    (h : ResR K cl L H rel' (r.bind f) Q' W)
    (step : ∀ a S L' H' z, Ext L L' H H' → RS K cl L' H' S → rel L' H' a z → ResR K cl L' H' rel' (f a S) Q' W → Q z H') : ResR K cl L H rel r Q W := by
  cases r with
  | ok a S => exact fun L2 H2 z e2 s r => step a S L2 H2 z e2 s r (ResR.mono (r := f a S) h e2)
  | exc c v S => exact h
  | stuck => exact h
abbrev relB : List Addr → Hp → Bool → Bool → Prop := fun _ _ a b => a = b
abbrev relO : List Addr → Hp → Option Int → Option Int → Prop := fun _ _ a b => a = b

/-- the reading of a meaning -/
def tO (K : PySem.W.Frag) (cl : Nat → Addr) (W : WX) (m : EM) : TE := fun σ H Q => ∃ L τ S, RS K cl L H S ∧ RL K cl L H τ σ ∧ ResR K cl L H (Rp K cl) (m τ S) Q fun c d H' => W c d σ H'
def tOT (K : PySem.W.Frag) (cl : Nat → Addr) (W : WX) (m : TM) : TT := fun σ H Q => ∃ L τ S, RS K cl L H S ∧ RL K cl L H τ σ ∧ ResR K cl L H relB (m τ S) Q fun c d H' => W c d σ H'
def tOA (K : PySem.W.Frag) (cl : Nat → Addr) (W : WX) (m : AM) : TA := fun σ H Q => ∃ L τ S, RS K cl L H S ∧ RL K cl L H τ σ ∧ ResR K cl L H (Rps K cl) (m τ S) Q fun c d H' => W c d σ H'
def tOO (K : PySem.W.Frag) (cl : Nat → Addr) (W : WX) (m : OM) : TO := fun σ H Q => ∃ L τ S, RS K cl L H S ∧ RL K cl L H τ σ ∧ ResR K cl L H relO (m τ S) Q fun c d H' => W c d σ H'
/-- the readings of operations by values: nothing is raised -/
abbrev NoW : Value → Option Addr → Hp → Prop := fun _ _ _ => False
def rO1 (K : PySem.W.Frag) (cl : Nat → Addr) (f : T → Store → R T) : V → Hp → VK → Prop := fun x H Q => ∃ L S t, RS K cl L H S ∧ Rp K cl L H t x ∧ ResR K cl L H (Rp K cl) (f t S) Q NoW
def rO2 (K : PySem.W.Frag) (cl : Nat → Addr) (f : T → T → Store → R T) : R2 := fun x y H Q => ∃ L S t u, RS K cl L H S ∧ Rp K cl L H t x ∧ Rp K cl L H u y ∧ ResR K cl L H (Rp K cl) (f t u S) Q NoW
/-- an operation that raises nothing -/
def Calm1 (f : T → Store → R T) : Prop := ∀ t S c v S', f t S ≠ .exc c v S'
def Calm2 (f : T → T → Store → R T) : Prop := ∀ t u S c v S', f t u S ≠ .exc c v S'
theorem ResR.calm {α β : Type} {rel : List Addr → Hp → α → β → Prop} {r : R α} {Q : β → Hp → Prop} {W W' : Value → Option Addr → Hp → Prop} (h : ResR K cl L H rel r Q W) (n : ∀ c v S', r ≠ .exc c v S') : ResR K cl L H rel r Q W' := by
  cases r with
  | ok a S => exact h
  | exc c v S => exact absurd rfl (n c v S)
  | stuck => exact h
end
/-- what the written part says of a class of exceptions that hold a value -/
structure ExcK (K : PySem.W.Frag) (C : Addr) : Prop where
  ga : PySem.W.findIn K (.ref C) "__getattribute__" = some (some (.builtin "BaseException.__getattribute__"))
  gg : PySem.W.findIn K (.ref C) "__getattr__" = some none
  nv : PySem.W.findIn K (.ref C) "value" = some none
  be : PySem.W.subIn K (.ref C) (.type "BaseException") = some true
  ve : PySem.W.subIn K (.ref C) (.type "ValueError") = some true
  hd : PySem.W.hasDictIn K C = true
  ha : PySem.W.findIn K (.ref C) "__class__" = some (some (.builtin "object.__class__"))
  hn : PySem.W.specialIn K (.builtin "object.__class__") "__get__" = some (some (.builtin "getset_descriptor.__get__"))
  ht : PySem.W.takesIn K (.builtin "object.__class__") = some true
  hm : PySem.W.mroIn K C (.type "object") = some true
end EV
end
section
set_option Elab.async false
set_option linter.all false
set_option maxRecDepth 100000
set_option maxHeartbeats 2000000
set_option autoImplicit false
namespace EV
open PySem PySem.Spec PyProof.Rows L2

theorem line_eq : sizeLine = LINE := sizeLine_eq
section
variable {X : Cx} {cl : Nat → Addr} {L : List Addr} {H : Hp}
theorem Rp.int_inv {K : PySem.W.Frag} {i : Int} {x : V} (h : Rp K cl L H (.int i) x) : x = .int i := by cases h; rfl
theorem nx {f : T → Store → R T} {K : PySem.W.Frag} {a : R T} {Q : VK} (h : ResR K cl L H (Rp K cl) a Q NoW) (e : a = .stuck) : False := by rw [e] at h; exact h

/-! ### small facts -/
theorem lst_of {S : Store} {K : PySem.W.Frag} (rs : RS K cl L H S) {n : Nat} {a : Addr} {xs : List T} (hn : S[n]? = some (.lst xs)) (ha : L[n]? = some a) : ∃ vs, H a = some (.lst vs) ∧ Rps K cl L H xs vs := rs.get hn ha
theorem lst_at {S : Store} {K : PySem.W.Frag} (rs : RS K cl L H S) {x : T} {v : V} {xs : List T} (h : lstAt S x = some xs) (r : Rp K cl L H x v) : ∃ a vs, v = .ref a ∧ SqL K H a vs ∧ Rps K cl L H xs vs := by
  cases r with
  | loc hl =>
    rename_i n a
    simp only [lstAt, lstN] at h
    split at h
    · rename_i ys hy
      cases h
      obtain ⟨vs, e, q⟩ := lst_of rs hy hl
      exact ⟨a, vs, rfl, SqL.of e, q⟩
    · cases h
  | frl hf q =>
    simp only [lstAt] at h
    cases h
    exact ⟨_, _, rfl, hf.sq, q⟩
  | _ => simp [lstAt] at h
theorem lstN_some {S : Store} {n : Nat} {xs : List T} (h : lstN S n = some xs) : S[n]? = some (.lst xs) := by
  unfold lstN at h
  split at h
  · rename_i ys hy; cases h; exact hy
  · cases h
/-- a new list -/
theorem new_lst {K : PySem.W.Frag} {S : Store} {xs : List T} {vs : List V} {p : Addr} (rs : RS K cl L H S) (r : Rps K cl L H xs vs) (hp : H p = none) :
    Ext L (L ++ [p]) H (upd H p (.lst vs)) ∧ RS K cl (L ++ [p]) (upd H p (.lst vs)) (S ++ [.lst xs]) ∧ Rp K cl (L ++ [p]) (upd H p (.lst vs)) (.loc S.length) (.ref p) :=
  rs.alloc hp ⟨vs, upd_same, r.mono (Ext.new1 hp)⟩
theorem post_lst {K : PySem.W.Frag} {S : Store} {xs : List T} {vs : List V} {p : Addr} {Q : VK} (rs : RS K cl L H S) (r : Rps K cl L H xs vs) (hp : H p = none) (h : ResR K cl L H (Rp K cl) (alloc (.lst xs) S) Q NoW) :
    Q (.ref p) (upd H p (.lst vs)) := by
  obtain ⟨e, r1, r2⟩ := new_lst rs r hp
  exact h _ _ _ e r1 r2
/-- a new tuple -/
theorem post_tup {K : PySem.W.Frag} {S : Store} {xs : List T} {vs : List V} {p : Addr} {Q : VK} (rs : RS K cl L H S) (r : Rps K cl L H xs vs) (hp : H p = none) (h : ResR K cl L H (Rp K cl) (.ok (.tup xs) S) Q NoW) :
    Q (.ref p) (upd H p (.tup vs)) := by
  obtain ⟨e, r1⟩ := rs.new (u := .tup vs) hp
  exact h _ _ _ e r1 (.tup (.inl upd_same) (r.mono e))
theorem post_same {K : PySem.W.Frag} {S : Store} {t : T} {v : V} {Q : VK} (rs : RS K cl L H S) (r : Rp K cl L H t v) (h : ResR K cl L H (Rp K cl) (.ok t S) Q NoW) : Q v H := h _ _ _ (Ext.refl _ _) rs r

/-! ### arithmetic -/
theorem opr_imp {f : Value → Value → Sem Value} {r r' : R2} (h : OpR X f r) (i : ∀ x y H Q, r' x y H Q → r x y H Q) : OpR X f r' :=
  fun pins s σ H x y v u Q I rx ry q => h pins s σ H x y v u Q I rx ry (i x y H Q q)
def rAdd4 (K : PySem.W.Frag) : R2 := fun x y H Q => (∃ i j, x = .int i ∧ y = .int j ∧ Q (.int (i + j)) H) ∨ (∃ i j, x = .str i ∧ y = .str j ∧ i.length + j.length ≤ sizeLine ∧ Q (.str (i ++ j)) H) ∨ rCatA K x y H Q ∨ rCat x y H Q
theorem add4 : OpR X (binaryOp .Add) (rAdd4 X.K) := OpR.or op_add (OpR.or op_add_str (OpR.or op_catA op_cat))
theorem rd_add {K : PySem.W.Frag} (x y : V) (H : Hp) (Q : VK) (h : rO2 K cl opAdd x y H Q) : rAdd4 K x y H Q := by
  obtain ⟨L, S, t, w, rs, px, py, h⟩ := h
  cases px with
  | int i =>
    cases py with
    | int j => exact .inl ⟨i, j, rfl, rfl, post_same rs (.int _) h⟩
    | _ => exact False.elim h
  | str i =>
    cases py with
    | str j =>
      simp only [opAdd] at h
      split at h
      · rename_i hz
        exact .inr (.inl ⟨i, j, rfl, rfl, by rw [line_eq]; exact hz, post_same rs (.str _) h⟩)
      · exact False.elim h
    | _ => exact False.elim h
  | tup ta ra =>
    rename_i xs a vs
    cases py with
    | tup tb rb =>
      rename_i ys b ws
      simp only [opAdd] at h
      split at h
      · rename_i hz
        refine .inr (.inr (.inl ⟨a, b, vs, ws, rfl, rfl, ta.sq, tb.sq, by rw [line_eq, ← ra.length, ← rb.length]; exact hz, fun e => ?_, fun _ e => ?_, fun _ _ p hp => post_tup rs (ra.append rb) hp h⟩))
        · subst e
          cases ra
          exact post_same rs (.tup tb rb) h
        · subst e
          cases rb
          rw [List.append_nil] at h
          exact post_same rs (.tup ta ra) h
      · exact False.elim h
    | _ => exact False.elim h
  | loc ha =>
    rename_i m a
    cases py with
    | loc hb =>
      rename_i n b
      simp only [opAdd] at h
      split at h
      · rename_i xs ys e1 e2
        split at h
        · rename_i hz
          obtain ⟨vs, q1, r1⟩ := lst_of rs e1 ha
          obtain ⟨ws, q2, r2⟩ := lst_of rs e2 hb
          exact .inr (.inr (.inr ⟨a, b, vs, ws, rfl, rfl, q1, q2, by rw [line_eq, ← r1.length, ← r2.length]; exact hz, fun p hp => post_lst rs (r1.append r2) hp h⟩))
        · exact False.elim h
      · exact False.elim h
    | _ => exact False.elim h
  | _ => exact False.elim h
theorem ad_add : OpR X (binaryOp .Add) (rO2 X.K cl opAdd) := opr_imp add4 rd_add
theorem ad_sub : OpR X (binaryOp .Sub) (rO2 X.K cl opSub) := opr_imp op_sub fun x y H Q h => by
  obtain ⟨L, S, t, w, rs, px, py, h⟩ := h
  cases px with
  | int i =>
    cases py with
    | int j => exact ⟨i, j, rfl, rfl, post_same rs (.int _) h⟩
    | _ => exact False.elim h
  | _ => exact False.elim h
theorem ad_pow : OpR X (binaryOp .Pow) (rO2 X.K cl opPow) := opr_imp op_pow fun x y H Q h => by
  obtain ⟨L, S, t, w, rs, px, py, h⟩ := h
  cases px with
  | int i =>
    cases py with
    | int j =>
      simp only [opPow] at h
      split at h
      · rename_i hc; exact ⟨i, j, rfl, rfl, hc, post_same rs (.int _) h⟩
      · exact False.elim h
    | _ => exact False.elim h
  | _ => exact False.elim h
theorem ad_div : OpR X (binaryOp .FloorDiv) (rO2 X.K cl opDiv) := opr_imp (OpR.or op_fdivW op_fdivN) fun x y H Q h => by
  obtain ⟨L, S, t, w, rs, px, py, h⟩ := h
  cases px with
  | int i =>
    cases py with
    | int j =>
      simp only [opDiv] at h
      split at h
      · rename_i hc; exact .inl ⟨i, j, rfl, rfl, hc, post_same rs (.int _) h⟩
      · split at h
        · rename_i hc; exact .inr ⟨i, j, rfl, rfl, hc, post_same rs (.int _) h⟩
        · exact False.elim h
    | _ => exact False.elim h
  | _ => exact False.elim h
theorem ad_mod : OpR X (binaryOp .Mod) (rO2 X.K cl opMod) := opr_imp (OpR.or op_mod op_modN) fun x y H Q h => by
  obtain ⟨L, S, t, w, rs, px, py, h⟩ := h
  cases px with
  | int i =>
    cases py with
    | int j =>
      simp only [opMod] at h
      split at h
      · rename_i hc; exact .inl ⟨i, j, rfl, rfl, hc, post_same rs (.int _) h⟩
      · split at h
        · rename_i hc; exact .inr ⟨i, j, rfl, rfl, hc, post_same rs (.int _) h⟩
        · exact False.elim h
    | _ => exact False.elim h
  | _ => exact False.elim h
theorem ad_neg : UnR X (unaryOp .USub) (rO1 X.K cl opNeg) := fun pins s σ H x v Q I rx h => by
  obtain ⟨L, S, t, rs, px, h⟩ := h
  cases px with
  | int i => exact un_neg pins s σ H _ v Q I rx ⟨i, rfl, post_same rs (.int _) h⟩
  | _ => exact False.elim h

/-! ### comparisons -/
theorem ad_cmp {op : CmpOp} {p : Int → Int → Bool} (ho : OpR X (compareOp op) (rI0 fun i j => .bl (p i j))) : OpR X (compareOp op) (rO2 X.K cl (opCmp p)) := opr_imp ho fun x y H Q h => by
  obtain ⟨L, S, t, w, rs, px, py, h⟩ := h
  cases px with
  | int i =>
    cases py with
    | int j => exact ⟨i, j, rfl, rfl, post_same rs (.bl _) h⟩
    | _ => exact False.elim h
  | _ => exact False.elim h
theorem isNon_iff {K : PySem.W.Frag} {t : T} {x : V} (h : Rp K cl L H t x) : t.isNon = decide (x = .non) := by cases h <;> rfl
theorem ad_is : OpR X (compareOp .Is) (rO2 X.K cl opIs) := opr_imp (OpR.or op_isN op_isBl) fun x y H Q h => by
  obtain ⟨L, S, t, w, rs, px, py, h⟩ := h
  cases py with
  | non => exact .inl ⟨rfl, by rw [← isNon_iff px]; exact post_same rs (.bl _) h⟩
  | bl b =>
    cases px with
    | bl a => exact .inr ⟨a, b, rfl, rfl, post_same rs (.bl _) h⟩
    | _ => exact False.elim h
  | _ => cases px <;> exact False.elim h
theorem ad_isnot : OpR X (compareOp .IsNot) (rO2 X.K cl opIsNot) := opr_imp (OpR.or op_notN op_notBl) fun x y H Q h => by
  obtain ⟨L, S, t, w, rs, px, py, h⟩ := h
  cases py with
  | non => exact .inl ⟨rfl, by rw [← isNon_iff px]; exact post_same rs (.bl _) h⟩
  | bl b =>
    cases px with
    | bl a => exact .inr ⟨a, b, rfl, rfl, post_same rs (.bl _) h⟩
    | _ => exact False.elim h
  | _ => cases px <;> exact False.elim h
end
end EV
end
section
set_option Elab.async false
set_option linter.all false
set_option maxRecDepth 100000
set_option maxHeartbeats 4000000
set_option autoImplicit false
namespace EV
open PySem PySem.Spec PyProof.Rows L2
/-! ### a tuple once: itself -/
theorem tuple_mul1 (l : Addr) (items : Array Value) (n : Nat) (dd : Option Addr) (sl : Array (Option Value)) (x : Int) (u : Tok) (c0 : (decide (x < -(2 ^ 63)) || decide (x ≥ 2 ^ 63)) = false) (c1 : (items.isEmpty || x == 1) = true) :
    Meets (Builtin.«tuple.__mul__» ⟨[.ref l, .int x u], []⟩) (fun _ R s => s.heap.get? l = some { cls := .type "tuple", dict := dd, data := .seq items n, slots := sl } ∧
      R (.ok (.ret (Value.ref l))) s) :=
  .of_wp fun prog w A R s h => by
    obtain ⟨hp, g, d, tk, os⟩ := s
    obtain ⟨hl, h⟩ := h
    have f1 := AutoSeq1.idx_int
    wp_walk using wpAny_loadPart' hl
    repeat (first
      | (refine wpAny_ite_false (decide_eq_false (by rw [c0]; exact Bool.false_ne_true)) ?_; wp_walk using wpAny_loadPart' hl)
      | (refine wpAny_ite_true (decide_eq_true c1) ?_; wp_walk using wpAny_loadPart' hl))
    exact ⟨_, rfl, h⟩

section
variable {X : Cx} {cl : Nat → Addr} {L : List Addr} {H : Hp}
def rRep1 (K : PySem.W.Frag) : R2 := fun x y H Q => ∃ l k xs, x = .ref l ∧ y = .int k ∧ SqT K H l xs ∧ (xs = [] ∨ k = 1) ∧ 1 ≤ k ∧ k ≤ 1000 ∧ Q (.ref l) H
theorem op_rep1 : OpR X (binaryOp .Mult) (rRep1 X.K) := by
  intro pins s σ H x y v u Q I rx ry h
  obtain ⟨l, k, xs, rfl, rfl, hT, hne, h1, h2, q⟩ := h
  cases rx
  obtain ⟨t, rfl⟩ := ry
  obtain ⟨its, r, ⟨⟨cls, dd, data, sl⟩, ho, hc, n, hd⟩, hs⟩ := I.tuple hT
  simp only at hc hd
  subst hc hd
  have c0 : (decide (k < -(2 ^ 63)) || decide (k ≥ 2 ^ 63)) = false := by
    rw [decide_eq_false (by omega), decide_eq_false (by omega)] <;> rfl
  have c1 : (its.toArray.isEmpty || k == 1) = true := by
    rcases hne with e | e
    · subst e; cases r; rfl
    · subst e; simp
  refine wpAny_binaryOp_repeat_ref (T := "tuple") (U := "int") (by decide) ⟨_, ho, rfl⟩ (fun s' => typeIs_int s' k t) noFill_tuple_mul F.fills_int_mul F.slot_int_rmul repeat_tuple F.slot_int_index.lookup
    (call_meets F.slot_int_rmul (typeIs_int s k t) F.entry_int_rmul (F.args_int_rmul_2 _ _) (int_rmul_tuple k t l its.toArray n dd sl)
      ⟨ho, rfl, ⟨_, ho, rfl⟩, call_meets F.slot_tuple_mul ⟨_, ho, rfl⟩ F.entry_tuple_mul (F.args_tuple_mul_2 _ _) (tuple_mul1 l its.toArray n dd sl k t c0 c1) ⟨ho, ?_⟩⟩)
  exact ⟨.ref l, H, I, rfl, q⟩
/-- a text many times -/
theorem fold_app : ∀ (l : List (Array Nat)) (a : Array Nat), l.foldl (· ++ ·) a = ⟨a.toList ++ (l.map Array.toList).flatten⟩
  | [], a => by simp
  | x :: r, a => by
    rw [List.foldl_cons, fold_app r]
    simp
theorem repS_eq (x : Str) (n : Nat) : (⟨(List.replicate n x.cps).foldl (· ++ ·) #[]⟩ : Str) = repS x n := by
  unfold repS
  rw [fold_app]
  simp
theorem repS_one (x : Str) : repS x 1 = x := by unfold repS; simp
theorem repS_zero (x : Str) : repS x 0 = Str.empty := rfl
theorem repS_nil {x : Str} (h : x.length = 0) (n : Nat) : repS x n = x := by
  have : x.cps = #[] := by
    have : x.cps.size = 0 := h
    exact Array.eq_empty_of_size_eq_zero this
  obtain ⟨c⟩ := x
  simp only at this
  subst this
  unfold repS
  congr 1
  induction n with
  | zero => rfl
  | succ n ih => rw [List.replicate_succ, List.flatten_cons]; simpa using ih
theorem repS_len (x : Str) (n : Nat) : (repS x n).length = x.length * n := by
  show ((List.replicate n x.cps.toList).flatten).toArray.size = x.cps.size * n
  rw [List.size_toArray, ← Array.length_toList]
  induction n with
  | zero => rfl
  | succ n ih => rw [List.replicate_succ, List.flatten_cons, List.length_append, ih, Nat.mul_succ, Nat.add_comm]
def rRepS : R2 := fun x y H Q => ∃ z k, x = .str z ∧ y = .int k ∧ -(2 ^ 63) ≤ k ∧ k < 2 ^ 63 ∧ z.length * k.toNat ≤ sizeLine ∧ z.length ≤ sizeLine ∧ Q (.str (repS z k.toNat)) H
theorem op_repS : OpR X (binaryOp .Mult) rRepS := by
  intro pins s σ H x y v u Q I rx ry h
  obtain ⟨z, k, rfl, rfl, h1, h2, h3, h4, q⟩ := h
  obtain ⟨t, rfl⟩ := rx
  obtain ⟨t', rfl⟩ := ry
  have sz : sizeLine = 16777216 := sizeLine_eq
  refine P.mul_str ?_ (fun g1 g2 => ?_) (fun g1 g2 => ?_) ?_
  · rw [decide_eq_false (by omega), decide_eq_false (by omega)] <;> rfl
  · have hk : 1 ≤ k := by omega
    have hz : (z.length : Int) * k ≤ 2 ^ 63 - 1 := by
      have : ((z.length * k.toNat : Nat) : Int) = (z.length : Int) * k := by rw [Int.natCast_mul, Int.toNat_of_nonneg (by omega)]
      omega
    have := (Int.le_ediv_iff_mul_le (a := (z.length : Int)) (b := 2 ^ 63 - 1) (c := k) (by omega)).mpr hz
    omega
  · exact decide_eq_false (by omega)
  · split
    · rename_i g
      have e : k.toNat = 0 := by omega
      rw [e, repS_zero] at q
      exact ⟨by decide, .str Str.empty, H, I.tok _, ⟨_, rfl⟩, q⟩
    · split
      · rename_i g1 g2
        have e : repS z k.toNat = z := by
          rcases Bool.or_eq_true _ _ ▸ g2 with e | e
          · have e : k = 1 := by simpa using e
            subst e; exact repS_one z
          · exact repS_nil (by simpa using e) _
        rw [e] at q
        exact ⟨.str z, H, I, ⟨_, rfl⟩, q⟩
      · rw [repS_eq]
        exact ⟨by rw [repS_len]; exact h3, .str (repS z k.toNat), H, I.tok _, ⟨_, rfl⟩, q⟩
theorem cmul_of {i j : Int} (h : CMulT i j = true) : CMul i j ∨ CMulW i j := by
  unfold CMulT at h
  simp only [Bool.or_eq_true, Bool.and_eq_true, decide_eq_true_eq] at h
  rcases h with (h | h) | h
  · exact .inl (.inl h)
  · exact .inl (.inr h)
  · exact .inr h
theorem rep_nil (k : Nat) : rep [] k = [] := by unfold rep; induction k with
  | zero => rfl
  | succ n ih => rw [List.replicate_succ, List.flatten_cons, ih]; rfl
theorem rep_one (xs : List T) : rep xs 1 = xs := by unfold rep; simp
theorem ad_mul : OpR X (binaryOp .Mult) (rO2 X.K cl opMul) := opr_imp (OpR.or (OpR.or op_mul op_mulW) (OpR.or (OpR.or op_rep1 op_repT) (OpR.or op_rep op_repS))) fun x y H Q h => by
  obtain ⟨L, S, t, w, rs, px, py, h⟩ := h
  cases px with
  | str z =>
    cases py with
    | int k =>
      simp only [opMul] at h
      split at h
      · rename_i hc
        exact .inr (.inr (.inr ⟨z, k, rfl, rfl, hc.1, hc.2.1, by rw [line_eq]; exact hc.2.2.1, by rw [line_eq]; exact hc.2.2.2, post_same rs (.str _) h⟩))
      · exact False.elim h
    | _ => exact False.elim h
  | int i =>
    cases py with
    | int j =>
      simp only [opMul] at h
      split at h
      · rename_i hc
        rcases cmul_of hc with c | c
        · exact .inl (.inl ⟨i, j, rfl, rfl, c, post_same rs (.int _) h⟩)
        · exact .inl (.inr ⟨i, j, rfl, rfl, c, post_same rs (.int _) h⟩)
      · exact False.elim h
    | _ => exact False.elim h
  | tup ta ra =>
    rename_i xs a vs
    cases py with
    | int k =>
      simp only [opMul] at h
      split at h
      · rename_i hc
        by_cases h1 : vs = [] ∨ k = 1
        · refine .inr (.inl (.inl ⟨a, k, vs, rfl, rfl, ta.sq, h1, hc.1, hc.2.1, ?_⟩))
          have e : rep xs k.toNat = xs := by
            rcases h1 with e | e
            · subst e; cases ra; exact rep_nil _
            · subst e; exact rep_one _
          rw [e] at h
          exact post_same rs (.tup ta ra) h
        · refine .inr (.inl (.inr ⟨a, k, vs, rfl, rfl, ta.sq, fun e => h1 (.inl e), ?_, hc.2.1, by rw [← ra.length]; exact hc.2.2, fun p hp => post_tup rs (ra.flat _) hp h⟩))
          have := hc.1
          have : k ≠ 1 := fun e => h1 (.inr e)
          omega
      · exact False.elim h
    | _ => exact False.elim h
  | loc ha =>
    rename_i m a
    cases py with
    | int k =>
      simp only [opMul] at h
      split at h
      · rename_i xs e1
        split at h
        · rename_i hc
          obtain ⟨vs, q1, r1⟩ := lst_of rs e1 ha
          exact .inr (.inr (.inl ⟨a, k, vs, rfl, rfl, q1, hc.1, hc.2.1, by rw [line_eq, ← r1.length]; exact hc.2.2, fun p hp => post_lst rs (r1.flat _) hp h⟩))
        · exact False.elim h
      · exact False.elim h
    | _ => exact False.elim h
  | _ => exact False.elim h

/-! ### data -/
mutual
theorem dp_of {K : PySem.W.Frag} : ∀ {t : T} {v : V}, Rp K cl L H t v → t.dat = true → Dp K H v (pd t)
  | _, _, .non, _ => by simp only [pd]; exact .non
  | _, _, .bl b, _ => by simp only [pd]; exact .bl b
  | _, _, .int i, _ => by simp only [pd]; exact .int i
  | _, _, .str x, _ => by simp only [pd]; exact .str x
  | _, _, .tup h r, d => by simp only [pd]; exact .tup h.sq (dps_of r (by simpa [T.dat] using d))
  | _, _, .frl h r, d => by simp [T.dat] at d
  | _, _, .loc h, d => by simp [T.dat] at d
  | _, _, .rng h, d => by simp [T.dat] at d
  | _, _, .ex h hd r, d => by simp [T.dat] at d
theorem dps_of {K : PySem.W.Frag} : ∀ {t : List T} {v : List V}, Rps K cl L H t v → T.datL t = true → DpAll K H v (pdL t)
  | _, _, .nil, _ => by simp only [pdL]; exact .nil
  | _, _, .cons h t, d => by
    simp only [T.datL, Bool.and_eq_true] at d
    simp only [pdL]
    exact .cons (dp_of h d.1) (dps_of t d.2)
end
mutual
theorem pd_lay : ∀ t : T, t.dat = true → (pd t).canLay0 = true
  | .non, _ => by simp [pd, PyData.canLay0]
  | .bl b, _ => by simp [pd, PyData.canLay0]
  | .int i, _ => by simp [pd, PyData.canLay0]
  | .str x, d => by simpa [pd, PyData.canLay0, T.dat] using d
  | .tup xs, d => by
    simp only [pd, PyData.canLay0]
    exact pdL_lay xs (by simpa [T.dat] using d)
  | .loc _, d => by simp [T.dat] at d
  | .frl _, d => by simp [T.dat] at d
  | .rng _ _, d => by simp [T.dat] at d
  | .ex _ _, d => by simp [T.dat] at d
  | .clo _ _, d => by simp [T.dat] at d
theorem pdL_lay : ∀ ts : List T, T.datL ts = true → PyData.canLayAll0 (pdL ts) = true
  | [], _ => by simp [pdL, PyData.canLayAll0]
  | x :: xs, d => by
    simp only [T.datL, Bool.and_eq_true] at d
    simp [pdL, PyData.canLayAll0, pd_lay x d.1, pdL_lay xs d.2]
end
mutual
theorem pd_depth : ∀ t : T, (pd t).depth ≤ t.depth
  | .non => by simp [pd, PyData.depth]
  | .bl b => by simp [pd, PyData.depth]
  | .int i => by simp [pd, PyData.depth]
  | .str x => by simp [pd, PyData.depth]
  | .tup xs => by
    simp only [pd, PyData.depth, T.depth]
    have := pdL_depth xs
    omega
  | .loc _ => by simp [pd, PyData.depth]
  | .frl _ => by simp [pd, PyData.depth]
  | .rng _ _ => by simp [pd, PyData.depth]
  | .ex _ _ => by simp [pd, PyData.depth]
  | .clo _ _ => by simp [pd, PyData.depth]
theorem pdL_depth : ∀ ts : List T, PyData.depthAll (pdL ts) ≤ T.depthL ts
  | [] => by simp [pdL, PyData.depthAll]
  | x :: xs => by
    simp only [pdL, PyData.depthAll, T.depthL]
    have h1 := pd_depth x
    have h2 := pdL_depth xs
    omega
end
theorem str_beq (x y : Str) : (x == y) = decide (x = y) := by
  by_cases h : x = y
  · subst h; simp
  · simp [h]
mutual
theorem pd_eqv : ∀ t u : T, t.dat = true → u.dat = true → PyData.eqv (pd t) (pd u) = T.eqv t u
  | .non, u, _, hu => by cases u <;> simp_all [pd, PyData.eqv, T.eqv, T.dat]
  | .bl b, u, _, hu => by cases u <;> simp_all [pd, PyData.eqv, T.eqv, T.dat, b2i]
  | .int i, u, _, hu => by cases u <;> simp_all [pd, PyData.eqv, T.eqv, T.dat, b2i]
  | .str x, u, _, hu => by cases u <;> simp_all [pd, PyData.eqv, T.eqv, T.dat, str_beq]
  | .tup xs, u, ht, hu => by
    cases u with
    | tup ys =>
      simp only [pd, PyData.eqv, T.eqv]
      exact pdL_eqv xs ys (by simpa [T.dat] using ht) (by simpa [T.dat] using hu)
    | _ => simp_all [pd, PyData.eqv, T.eqv, T.dat]
  | .loc _, _, d, _ => by simp [T.dat] at d
  | .frl _, _, d, _ => by simp [T.dat] at d
  | .rng _ _, _, d, _ => by simp [T.dat] at d
  | .ex _ _, _, d, _ => by simp [T.dat] at d
  | .clo _ _, _, d, _ => by simp [T.dat] at d
theorem pdL_eqv : ∀ ts us : List T, T.datL ts = true → T.datL us = true → PyData.eqvAll (pdL ts) (pdL us) = T.eqvL ts us
  | [], [], _, _ => by simp [pdL, PyData.eqvAll, T.eqvL]
  | [], _ :: _, _, _ => by simp [pdL, PyData.eqvAll, T.eqvL]
  | _ :: _, [], _, _ => by simp [pdL, PyData.eqvAll, T.eqvL]
  | x :: xs, y :: ys, h1, h2 => by
    simp only [T.datL, Bool.and_eq_true] at h1 h2
    simp only [pdL, PyData.eqvAll, T.eqvL]
    rw [pd_eqv x y h1.1 h2.1, pdL_eqv xs ys h1.2 h2.2]
end
theorem shaped_of {t : T} (h : t.dat = true) (d : t.depth ≤ 60) : SeqAt.shaped (pd t) = true := by
  unfold SeqAt.shaped
  rw [pd_lay t h, Bool.true_and]
  have := pd_depth t
  exact decide_eq_true (by omega)
theorem shapedL_of {ts : List T} (h : T.datL ts = true) (d : T.depthL ts ≤ 60) : SeqAt.shaped (.list (pdL ts)) = true := by
  unfold SeqAt.shaped
  have e : (PyData.list (pdL ts)).canLay0 = true := by rw [PyData.canLay0]; exact pdL_lay ts h
  rw [e, Bool.true_and]
  have := pdL_depth ts
  exact decide_eq_true (by rw [PyData.depth]; omega)
theorem dS_dp {K : PySem.W.Frag} {S : Store} {t : T} {x : V} {d : PyData} (rs : RS K cl L H S) (px : Rp K cl L H t x) (h : dS S t = some d) : Dp K H x d ∧ SeqAt.shaped d = true := by
  have gen : ∀ {t : T}, Rp K cl L H t x → (if t.dat = true ∧ t.depth ≤ 60 then some (pd t) else none) = some d → Dp K H x d ∧ SeqAt.shaped d = true := fun {t} px h => by
    split at h
    · rename_i hc
      cases h
      exact ⟨dp_of px hc.1, shaped_of hc.1 hc.2⟩
    · cases h
  cases px with
  | loc ha =>
    simp only [dS] at h
    split at h
    · rename_i xs e1
      split at h
      · rename_i hc
        cases h
        obtain ⟨vs, q1, r1⟩ := lst_of rs (lstN_some e1) ha
        exact ⟨.lst (SqL.of q1) (dps_of r1 hc.1), shapedL_of hc.1 hc.2⟩
      · cases h
    · cases h
  | non => exact gen .non h
  | bl b => exact gen (.bl b) h
  | int i => exact gen (.int i) h
  | str z => exact gen (.str z) h
  | tup a b => exact gen (.tup a b) h
  | frl a b => exact gen (.frl a b) h
  | rng a => exact gen (.rng a) h
  | ex a b c => exact gen (.ex a b c) h
/-- the answer of == of the values -/
theorem eq_dp {K : PySem.W.Frag} {S : Store} {t w : T} {x y : V} {b : Bool} (rs : RS K cl L H S) (px : Rp K cl L H t x) (py : Rp K cl L H w y) (h : eqA S t w = some b) :
    (∃ d e, Dp K H x d ∧ Dp K H y e ∧ SeqAt.shaped d = true ∧ SeqAt.shaped e = true ∧ PyData.eqv d e = b) ∨ (∃ i j : Str, x = .str i ∧ y = .str j ∧ decide (i = j) = b) := by
  unfold eqA at h
  split at h
  · cases h
    cases px
    cases py
    exact .inr ⟨_, _, rfl, rfl, rfl⟩
  · split at h
    · rename_i d e h1 h2
      injection h with h
      obtain ⟨a1, a2⟩ := dS_dp rs px h1
      obtain ⟨b1, b2⟩ := dS_dp rs py h2
      exact .inl ⟨d, e, a1, b1, a2, b2, h⟩
    · cases h
theorem ad_eq (hu : X.A.units + 64 < cLine) : OpR X (compareOp .Eq) (rO2 X.K cl opEq) := opr_imp (OpR.or (op_eqD hu) op_eq) fun x y H Q h => by
  obtain ⟨L, S, t, w, rs, px, py, h⟩ := h
  unfold opEq at h
  split at h
  · rename_i b e
    have q := post_same rs (.bl b) h
    rcases eq_dp rs px py e with ⟨d, e', h1, h2, h3, h4, h5⟩ | ⟨i, j, h1, h2, h3⟩
    · exact .inl ⟨d, e', h1, h2, h3, h4, by rw [h5]; exact q⟩
    · subst h1 h2
      exact .inr ⟨rfl, by rw [show decide (V.str i = V.str j) = decide (i = j) by simp, h3]; exact q⟩
  · exact False.elim h
theorem ad_ne (hu : X.A.units + 64 < cLine) : OpR X (compareOp .NotEq) (rO2 X.K cl opNe) := opr_imp (OpR.or (op_neD hu) op_ne) fun x y H Q h => by
  obtain ⟨L, S, t, w, rs, px, py, h⟩ := h
  unfold opNe at h
  split at h
  · rename_i b e
    have q := post_same rs (.bl (!b)) h
    rcases eq_dp rs px py e with ⟨d, e', h1, h2, h3, h4, h5⟩ | ⟨i, j, h1, h2, h3⟩
    · exact .inl ⟨d, e', h1, h2, h3, h4, by rw [h5]; exact q⟩
    · subst h1 h2
      exact .inr ⟨rfl, by rw [show decide (V.str i = V.str j) = decide (i = j) by simp, h3]; exact q⟩
  · exact False.elim h
end
end EV
end
section
set_option Elab.async false
set_option linter.all false
set_option maxRecDepth 100000
set_option maxHeartbeats 4000000
set_option autoImplicit false
namespace EV
open PySem PySem.Spec PyProof.Rows L2
section
variable {X : Cx} {cl : Nat → Addr} {L : List Addr} {H : Hp}
/-! ### dicts -/
theorem key_of {K : PySem.W.Frag} {t : T} {x : V} (h : Rp K cl L H t x) (k : isKeyT t = true) : ∃ q : Key, x = kV q ∧ ((∃ i, t = .int i ∧ q = .inl i) ∨ ∃ z, t = .str z ∧ q = .inr z) := by
  cases h with
  | int i => exact ⟨.inl i, rfl, .inl ⟨i, rfl, rfl⟩⟩
  | str z => exact ⟨.inr z, rfl, .inr ⟨z, rfl, rfl⟩⟩
  | _ => simp [isKeyT] at k
theorem key_eqv {K : PySem.W.Frag} {t u : T} {p q : Key} (h : Rp K cl L H t (kV p)) (h' : Rp K cl L H u (kV q)) (k : isKeyT t = true) (k' : isKeyT u = true) : T.eqv t u = decide (p = q) := by
  cases p with
  | inl i =>
    cases h with
    | int _ =>
      cases q with
      | inl j =>
        cases h' with
        | int _ => simp only [T.eqv]; by_cases e : i = j <;> simp [e]
      | inr z =>
        cases h' with
        | str _ => simp [T.eqv]
  | inr x =>
    cases h with
    | str _ =>
      cases q with
      | inl j =>
        cases h' with
        | int _ => simp [T.eqv]
      | inr z =>
        cases h' with
        | str _ => simp only [T.eqv]; by_cases e : x = z <;> simp [e]
theorem dget_val {K : PySem.W.Frag} {k : T} {q : Key} (hk : Rp K cl L H k (kV q)) (kk : isKeyT k = true) : ∀ {kvs : List (T × T)} {ws : List (Key × V)}, kvs? kvs = true → Rps K cl L H (kvs.map (·.1)) (ws.map fun p => kV p.1) → Rps K cl L H (kvs.map (·.2)) (ws.map (·.2)) →
    (∀ v, dget kvs k = some v → ∃ x, valV ws q = some x ∧ Rp K cl L H v x) ∧ (dget kvs k).isSome = (valV ws q).isSome
  | [], [], _, _, _ => ⟨fun v e => by simp [dget] at e, rfl⟩
  | [], _ :: _, _, r, _ => by simp at r; cases r
  | _ :: _, [], _, r, _ => by simp at r; cases r
  | (a, v) :: kvs, (p, x) :: ws, hq, r, r2 => by
    simp only [kvs?, List.all_cons, Bool.and_eq_true] at hq
    simp only [List.map_cons] at r r2
    cases r with
    | cons h1 t1 =>
      cases r2 with
      | cons h2 t2 =>
        have e := key_eqv h1 hk hq.1 kk
        have ih := dget_val hk kk (kvs := kvs) (ws := ws) hq.2 t1 t2
        by_cases hpq : p = q
        · rw [decide_eq_true hpq] at e
          refine ⟨fun u eu => ?_, ?_⟩
          · simp only [dget, e, if_true] at eu
            cases eu
            exact ⟨x, valV_pos (p := (p, x)) hpq, h2⟩
          · simp only [dget, e, if_true]
            rw [valV_pos (p := (p, x)) hpq]; rfl
        · rw [decide_eq_false hpq] at e
          rw [valV_neg (p := (p, x)) hpq]
          simpa [dget, e] using ih
theorem dput_put {K : PySem.W.Frag} {k v : T} {q : Key} {y : V} (hk : Rp K cl L H k (kV q)) (kk : isKeyT k = true) (hv : Rp K cl L H v y) : ∀ {kvs : List (T × T)} {ws : List (Key × V)}, kvs? kvs = true → (ws.map (·.1)).Nodup → Rps K cl L H (kvs.map (·.1)) (ws.map fun p => kV p.1) → Rps K cl L H (kvs.map (·.2)) (ws.map (·.2)) →
    kvs? (dput kvs k v) = true ∧ Rps K cl L H ((dput kvs k v).map (·.1)) ((putK ws q y).map fun p => kV p.1) ∧ Rps K cl L H ((dput kvs k v).map (·.2)) ((putK ws q y).map (·.2))
  | [], [], _, _, _, _ => ⟨by simp [dput, kvs?, kk], by simp [dput, putK]; exact .cons hk .nil, by simp [dput, putK]; exact .cons hv .nil⟩
  | [], _ :: _, _, _, r, _ => by simp at r; cases r
  | _ :: _, [], _, _, r, _ => by simp at r; cases r
  | (a, u) :: kvs, (p, x) :: ws, hq, nd, r, r2 => by
    simp only [kvs?, List.all_cons, Bool.and_eq_true] at hq
    simp only [List.map_cons] at r r2 nd
    have nd' := List.nodup_cons.mp nd
    cases r with
    | cons h1 t1 =>
      cases r2 with
      | cons h2 t2 =>
        have e := key_eqv h1 hk hq.1 kk
        by_cases hpq : p = q
        · rw [decide_eq_true hpq] at e
          have same : (ws.map fun kv => if kv.1 = q then (kv.1, y) else kv) = ws := by
            have : ∀ kv ∈ ws, (if kv.1 = q then (kv.1, y) else kv) = kv := fun kv hm => by
              rw [if_neg]
              intro z
              exact nd'.1 (List.mem_map.mpr ⟨kv, hm, by rw [z, hpq]⟩)
            calc (ws.map fun kv => if kv.1 = q then (kv.1, y) else kv) = ws.map id := List.map_congr_left this
              _ = ws := List.map_id ws
          have ep : putK ((p, x) :: ws) q y = (p, y) :: ws := by
            unfold putK
            simp only [List.any_cons, hpq, decide_true, Bool.true_or, if_true, List.map_cons]
            rw [same]
          rw [ep]
          simp only [dput, e, if_true, List.map_cons, kvs?, List.all_cons, Bool.and_eq_true]
          exact ⟨hq, .cons h1 t1, .cons hv t2⟩
        · rw [decide_eq_false hpq] at e
          have ih := dput_put hk kk hv (kvs := kvs) (ws := ws) hq.2 nd'.2 t1 t2
          have ep : putK ((p, x) :: ws) q y = (p, x) :: putK ws q y := by
            unfold putK
            simp only [List.any_cons, hpq, decide_false, Bool.false_or, List.map_cons, if_false]
            split <;> simp
          rw [ep]
          have ed : dput ((a, u) :: kvs) k v = (a, u) :: dput kvs k v := by simp [dput, e]
          rw [ed]
          simp only [List.map_cons, kvs?, List.all_cons, Bool.and_eq_true]
          exact ⟨⟨hq.1, ih.1⟩, .cons h1 ih.2.1, .cons h2 ih.2.2⟩
end
end EV
end
section
set_option Elab.async false
set_option linter.all false
set_option maxRecDepth 100000
set_option maxHeartbeats 4000000
set_option autoImplicit false
namespace EV
open PySem PySem.Spec PyProof.Rows L2
section
variable {X : Cx} {cl : Nat → Addr} {L : List Addr} {H : Hp}
/-! ### in -/
theorem op_in_dict (hu : X.A.units + 1 < cLine) : OpR X (compareOp .In) (fun x y H Q => ∃ a o, y = .ref a ∧ DGet H a x o ∧ Q (.bl o.isSome) H) := fun pins s σ H x y v u Q I rx ry h => by
  obtain ⟨a, o, rfl, g, q⟩ := h
  cases ry
  exact d_in hu I g rx fun s' I' => ⟨.bl _, H, I', rfl, q⟩
theorem op_notin_dict (hu : X.A.units + 1 < cLine) : OpR X (compareOp .NotIn) (fun x y H Q => ∃ a o, y = .ref a ∧ DGet H a x o ∧ Q (.bl (!o.isSome)) H) := fun pins s σ H x y v u Q I rx ry h => by
  obtain ⟨a, o, rfl, g, q⟩ := h
  cases ry
  exact d_notIn hu I g rx fun s' I' => ⟨.bl _, H, I', rfl, q⟩
theorem any_pd (x : T) (hx : x.dat = true) : ∀ ys : List T, T.datL ys = true → ((pdL ys).any fun z => PyData.eqv z (pd x)) = ys.any fun z => T.eqv z x
  | [], _ => rfl
  | y :: ys, h => by
    simp only [T.datL, Bool.and_eq_true] at h
    simp only [pdL, List.any_cons]
    rw [pd_eqv y x h.1 hx, any_pd x hx ys h.2]
theorem in_cases {K : PySem.W.Frag} {S : Store} {t w : T} {x y : V} {b : Bool} (rs : RS K cl L H S) (px : Rp K cl L H t x) (py : Rp K cl L H w y) (h : inA S t w = some b) :
    (∃ d ds, Dp K H x d ∧ Dp K H y (.list ds) ∧ SeqAt.shaped d = true ∧ SeqAt.shaped (.list ds) = true ∧ (ds.any fun z => PyData.eqv z d) = b) ∨ (∃ a o, y = .ref a ∧ DGet H a x o ∧ o.isSome = b) := by
  cases py with
  | loc hl =>
    simp only [inA] at h
    split at h
    · rename_i ys e
      split at h
      · rename_i hc
        injection h with h
        obtain ⟨vs, q1, r1⟩ := lst_of rs e hl
        exact .inl ⟨_, _, dp_of px hc.1, .lst (SqL.of q1) (dps_of r1 hc.2.1), shaped_of hc.1 hc.2.2.2, shapedL_of hc.2.1 hc.2.2.1, by rw [any_pd t hc.1 _ hc.2.1]; exact h⟩
      · cases h
    · rename_i kvs e
      split at h
      · rename_i hc
        injection h with h
        obtain ⟨q, rfl, _⟩ := key_of px hc.1
        obtain ⟨hk, ws, e1, r1, r2⟩ := rs.get e hl
        refine .inr ⟨_, _, rfl, DGet.k e1, ?_⟩
        rw [← (dget_val px hc.1 hk r1 r2).2]
        exact h
      · cases h
    · cases h
  | _ => simp [inA] at h
theorem ad_in (hu : X.A.units + 65 < cLine) : OpR X (compareOp .In) (rO2 X.K cl opIn) := opr_imp (OpR.or (op_inD hu) (op_in_dict (by omega))) fun x y H Q h => by
  obtain ⟨L, S, t, w, rs, px, py, h⟩ := h
  unfold opIn at h
  split at h
  · rename_i b e
    have q := post_same rs (.bl b) h
    rcases in_cases rs px py e with ⟨d, ds, h1, h2, h3, h4, h5⟩ | ⟨a, o, h1, h2, h3⟩
    · exact .inl ⟨d, ds, h1, h2, h3, h4, by rw [h5]; exact q⟩
    · exact .inr ⟨a, o, h1, h2, by rw [h3]; exact q⟩
  · exact False.elim h
theorem ad_notin (hu : X.A.units + 65 < cLine) : OpR X (compareOp .NotIn) (rO2 X.K cl opNotIn) := opr_imp (OpR.or (op_notInD hu) (op_notin_dict (by omega))) fun x y H Q h => by
  obtain ⟨L, S, t, w, rs, px, py, h⟩ := h
  unfold opNotIn at h
  split at h
  · rename_i b e
    have q := post_same rs (.bl (!b)) h
    rcases in_cases rs px py e with ⟨d, ds, h1, h2, h3, h4, h5⟩ | ⟨a, o, h1, h2, h3⟩
    · exact .inl ⟨d, ds, h1, h2, h3, h4, by rw [h5]; exact q⟩
    · exact .inr ⟨a, o, h1, h2, by rw [h3]; exact q⟩
  · exact False.elim h
/-! ### index -/
theorem ixr_imp {r r' : R2} (h : IxR X r) (i : ∀ x y H Q, r' x y H Q → r x y H Q) : IxR X r' := fun a b pins s σ H x y v u Q I rx ry q => h a b pins s σ H x y v u Q I rx ry (i x y H Q q)
def rIxD : R2 := fun x y H Q => ∃ a kvs k v, x = .ref a ∧ y = kV k ∧ H a = some (.dK kvs) ∧ valV kvs k = some v ∧ Q v H
theorem ix_dict : IxR X rIxD := by
  intro value slice pins s σ H x y v u Q I rx ry h hs
  obtain ⟨a, kvs, k, z, rfl, rfl, e, l, q⟩ := h
  cases rx
  obtain ⟨_, hd, vs, rel, dd⟩ := dk_of I.hok e
  obtain ⟨w', hw, rw'⟩ := RelO.some_of (v := z) (o := valueAt vs k) (by rw [← l]; exact rel.val k)
  exact subscriptTail_builtinR (x := w') dd.typeIs slot_dict_getitem.lookup (wpAny_getItem_of (Q := fun r s' => r = w' ∧ EP X pins σ Q r s') (kV_is ry) dd.mapOf hw ⟨rfl, ⟨z, H, I.tok _, rw', q⟩⟩) hs
theorem ixN_same (n : Nat) (i : Int) : EV.ixN n i = L2.ixN n i := rfl
theorem atT_rel {K : PySem.W.Frag} {xs : List T} {vs : List V} {i : Int} {v : T} (r : Rps K cl L H xs vs) (h : atT xs i = some v) : ∃ x, atI vs i = some x ∧ Rp K cl L H v x := by
  unfold atT at h
  unfold atI
  rw [ixN_same, r.length] at h
  cases e : L2.ixN vs.length i with
  | none => rw [e] at h; cases h
  | some j =>
    rw [e] at h
    obtain ⟨x, h1, h2⟩ := r.get (show xs[j]? = some v from h)
    exact ⟨x, h1, h2⟩
theorem ix_dcase {K : PySem.W.Frag} {S : Store} {n : Nat} {a : Addr} {kvs : List (T × T)} {i v : T} {y : V} (rs : RS K cl L H S) (hn : S[n]? = some (.dict kvs)) (hl : L[n]? = some a) (py : Rp K cl L H i y) (ki : isKeyT i = true) (h : dget kvs i = some v) :
    ∃ ws k x, y = kV k ∧ H a = some (.dK ws) ∧ valV ws k = some x ∧ Rp K cl L H v x := by
  obtain ⟨q, rfl, _⟩ := key_of py ki
  obtain ⟨hk, ws, e1, r1, r2⟩ := rs.get hn hl
  obtain ⟨x, h1, h2⟩ := (dget_val py ki hk r1 r2).1 v h
  exact ⟨ws, q, x, rfl, e1, h1, h2⟩
def rIx4 (K : PySem.W.Frag) : R2 := fun x y H Q => rIx K x y H Q ∨ rIxD x y H Q
theorem rd_ix {K : PySem.W.Frag} (x y : V) (H : Hp) (Q : VK) (h : rO2 K cl opIx x y H Q) : rIx4 K x y H Q := by
  obtain ⟨L, S, t, w, rs, px, py, h⟩ := h
  cases px with
  | tup ta ra =>
    cases py with
    | int i =>
      simp only [opIx] at h
      split at h
      · rename_i v e
        obtain ⟨z, h1, h2⟩ := atT_rel ra e
        exact .inl (.inr (.inl ⟨_, _, i, z, rfl, rfl, ta.sq, h1, post_same rs h2 h⟩))
      · exact False.elim h
    | _ => exact False.elim h
  | frl ta ra =>
    cases py with
    | int i =>
      simp only [opIx] at h
      split at h
      · rename_i v e
        obtain ⟨z, h1, h2⟩ := atT_rel ra e
        exact .inl (.inl ⟨_, _, i, z, rfl, rfl, ta.sq, h1, post_same rs h2 h⟩)
      · exact False.elim h
    | _ => exact False.elim h
  | str z =>
    cases py with
    | int i =>
      simp only [opIx] at h
      split at h
      · rename_i hz
        split at h
        · rename_i c e
          exact .inl (.inr (.inr ⟨z, i, c, rfl, rfl, by rw [line_eq]; exact hz, e, post_same rs (.str _) h⟩))
        · exact False.elim h
      · exact False.elim h
    | _ => exact False.elim h
  | loc hl =>
    rename_i n a
    cases py with
    | int i =>
      simp only [opIx] at h
      split at h
      · rename_i xs e1
        split at h
        · rename_i v e
          obtain ⟨vs, q1, r1⟩ := lst_of rs e1 hl
          obtain ⟨z, h1, h2⟩ := atT_rel r1 e
          exact .inl (.inl ⟨_, _, i, z, rfl, rfl, SqL.of q1, h1, post_same rs h2 h⟩)
        · exact False.elim h
      · rename_i kvs e1
        split at h
        · split at h
          · rename_i v e
            obtain ⟨ws, k, z, h0, h1, h2, h3⟩ := ix_dcase rs e1 hl (.int i) rfl e
            exact .inr ⟨_, ws, k, z, rfl, h0, h1, h2, post_same rs h3 h⟩
          · exact False.elim h
        · exact False.elim h
      · exact False.elim h
    | str i =>
      simp only [opIx] at h
      split at h
      · rename_i kvs e1
        split at h
        · split at h
          · rename_i v e
            obtain ⟨ws, k, z, h0, h1, h2, h3⟩ := ix_dcase rs e1 hl (.str i) rfl e
            exact .inr ⟨_, ws, k, z, rfl, h0, h1, h2, post_same rs h3 h⟩
          · exact False.elim h
        · exact False.elim h
      · exact False.elim h
    | _ => exact False.elim h
  | _ => exact False.elim h
theorem ad_ix : IxR X (rO2 X.K cl opIx) := ixr_imp (IxR.or ix_seq ix_dict) rd_ix
/-! ### slices -/
theorem sIx_same (n d : Nat) (o : Option Int) : EV.sIx n d o = HT.sIx n d o := by cases o <;> rfl
theorem cut_rel {K : PySem.W.Frag} {xs : List T} {vs : List V} (lo hi : Option Int) (r : Rps K cl L H xs vs) : Rps K cl L H (cut xs lo hi) (cutV vs lo hi) := by
  unfold cut cutV
  rw [sIx_same, sIx_same, r.length]
  exact (r.drop _).take _
def rSl1 (K : PySem.W.Frag) (cl : Nat → Addr) : V → Option Int → Option Int → Hp → VK → Prop := fun x lo hi H Q => ∃ L S t, RS K cl L H S ∧ Rp K cl L H t x ∧ ResR K cl L H (Rp K cl) (opSl t lo hi S) Q NoW
theorem slr_imp {r r' : V → Option Int → Option Int → Hp → VK → Prop} (h : SlR X r) (i : ∀ x lo hi H Q, r' x lo hi H Q → r x lo hi H Q) : SlR X r' :=
  fun pins s σ H x v vl vu lo hi sl Q I rx hs pl pu q => h pins s σ H x v vl vu lo hi sl Q I rx hs pl pu (i x lo hi H Q q)
theorem ad_sl (sstr : SlR X (fun x lo hi H Q => ∃ z, x = .str z ∧ z.length ≤ sizeLine ∧ Q (.str (cutS z lo hi)) H)) : SlR X (rSl1 X.K cl) := slr_imp (SlR.or sl_tupA (SlR.or sl_list sstr)) fun x lo hi H Q h => by
  obtain ⟨L, S, t, rs, px, h⟩ := h
  cases px with
  | tup ta ra =>
    rename_i xs a vs
    have r' := cut_rel lo hi ra
    refine .inl ⟨a, vs, rfl, ta.sq, fun hw => ?_, fun _ p hp => post_tup rs r' hp h⟩
    have e : cut xs lo hi = xs := by
      unfold cut
      rw [sIx_same, sIx_same, ra.length, hw.1, hw.2, ← ra.length]
      simp
    simp only [opSl] at h
    rw [e] at h
    exact post_same rs (.tup ta ra) h
  | str z =>
    simp only [opSl] at h
    split at h
    · rename_i hz
      exact .inr (.inr ⟨z, rfl, by rw [line_eq]; exact hz, post_same rs (.str _) h⟩)
    · exact False.elim h
  | loc hl =>
    simp only [opSl] at h
    split at h
    · rename_i xs e
      obtain ⟨a, vs, ev, sq, r⟩ := lst_at rs e (.loc hl)
      exact .inr (.inl ⟨a, vs, ev, sq, fun p hp => post_lst rs (cut_rel lo hi r) hp h⟩)
    · exact False.elim h
  | frl ta ra =>
    simp only [opSl] at h
    split at h
    · rename_i xs e
      obtain ⟨a, vs, ev, sq, r⟩ := lst_at rs e (.frl ta ra)
      exact .inr (.inl ⟨a, vs, ev, sq, fun p hp => post_lst rs (cut_rel lo hi r) hp h⟩)
    · exact False.elim h
  | _ => exact False.elim h
/-! ### stores -/
def rSet4 : TSet := fun o i v H Q => rSetL o i v H Q ∨ rSetD o i v H Q
theorem set4 (hu : X.A.units + 1 < cLine) : PSet X rSet4 := fun pins s σ H o i v ov iv u Q I ro ri rv h => by
  rcases h with h | h
  · exact set_list pins s σ H o i v ov iv u Q I ro ri rv h
  · exact set_dict hu pins s σ H o i v ov iv u Q I ro ri rv h
/-- o[i] = v over the store -/
def rSet1 (K : PySem.W.Frag) (cl : Nat → Addr) : TSet := fun o i v H Q => ∃ L S ot it vt S', RS K cl L H S ∧ Rp K cl L H ot o ∧ Rp K cl L H it i ∧ Rp K cl L H vt v ∧ setIx ot it vt S = some S' ∧ ∀ L' H', Ext L L' H H' → RS K cl L' H' S' → Q H'
theorem ad_set (hu : X.A.units + 1 < cLine) : PSet X (rSet1 X.K cl) := fun pins s σ H o i v ov iv u Q I ro ri rv h => by
  refine set4 hu pins s σ H o i v ov iv u Q I ro ri rv ?_
  obtain ⟨L, S, ot, it, vt, S', rs, po, pi, pv, hs, q⟩ := h
  cases po with
  | loc hl =>
    rename_i n a
    simp only [setIx] at hs
    split at hs
    · rename_i xs e
      split at hs
      · rename_i k
        split at hs
        · rename_i j ej
          cases hs
          cases pi
          obtain ⟨vs, q1, r1⟩ := lst_of rs e hl
          obtain ⟨e2, r2⟩ := rs.write (o' := .lst (xs.set j vt)) (u := .lst (vs.set j v)) e hl fun e => ⟨_, upd_same, (r1.mono e).set (pv.mono e) j⟩
          exact .inl ⟨a, vs, k, j, rfl, rfl, q1, by rw [← r1.length]; exact ej, q _ _ e2 r2⟩
        · cases hs
      · cases hs
    · rename_i kvs e
      split at hs
      · rename_i hc
        cases hs
        obtain ⟨k, rfl, _⟩ := key_of pi hc.1
        obtain ⟨hk, ws, e1, r1, r2⟩ := rs.get e hl
        obtain ⟨_, hd, vs, rel, dd⟩ := dk_of I.hok e1
        have nd : (ws.map (·.1)).Nodup := by
          rw [rel.keys]
          obtain ⟨_, _, _, _, _, _, _, _, nd⟩ := dd
          exact nd
        have len : kvs.length = ws.length := by have := r1.length; simpa using this
        obtain ⟨e2, r3⟩ := rs.write (o' := .dict (dput kvs it vt)) (u := .dK (putK ws k v)) e hl fun e => by
          obtain ⟨a1, a2, a3⟩ := dput_put (pi.mono e) hc.1 (pv.mono e) hk nd (r1.mono e) (r2.mono e)
          exact ⟨a1, _, upd_same, a2, a3⟩
        exact .inr ⟨a, _, rfl, DPut.k e1 (by rw [line_eq, ← len]; exact hc.2.2), q _ _ e2 r3⟩
      · cases hs
    · cases hs
  | _ => simp [setIx] at hs
end
end EV
end
section
set_option Elab.async false
set_option linter.all false
set_option maxRecDepth 100000
set_option maxHeartbeats 4000000
set_option autoImplicit false
namespace EV
open PySem PySem.Spec PyProof.Rows L2
section
variable {X : Cx} {cl : Nat → Addr} {L : List Addr} {H : Hp}
abbrev RC := List V → Hp → VK → Prop
def rC1 (K : PySem.W.Frag) (cl : Nat → Addr) (f : T → Store → R T) : RC := fun xs H Q => ∃ x, xs = [x] ∧ rO1 K cl f x H Q
def rC2 (K : PySem.W.Frag) (cl : Nat → Addr) (f : T → T → Store → R T) : RC := fun xs H Q => ∃ x y, xs = [x, y] ∧ rO2 K cl f x y H Q
theorem callr_imp {f : Value} {r r' : RC} (h : CallR X f r) (i : ∀ xs H Q, r' xs H Q → r xs H Q) : CallR X f r' := fun pins s σ H xs us Q I rx q => h pins s σ H xs us Q I rx (i xs H Q q)
theorem mtr_imp {id : String} {r r' : V → List V → Hp → VK → Prop} (h : MtR X id r) (i : ∀ x xs H Q, r' x xs H Q → r x xs H Q) : MtR X id r' := fun pins s σ H x xs v us Q I rx rxs q => h pins s σ H x xs v us Q I rx rxs (i x xs H Q q)
theorem call_len_dict : CallR X (.builtin "len") (fun xs H Q => ∃ a kvs, xs = [.ref a] ∧ H a = some (.dK kvs) ∧ Q (.int kvs.length) H) := by
  intro pins s σ H xs us Q I r h
  obtain ⟨a, kvs, rfl, e, q⟩ := h
  obtain rfl := Vals.ref1 r
  exact d_len I (.inl e) fun t s' I' => ⟨.int kvs.length, H, I', ⟨t, rfl⟩, q⟩
theorem cb_len : CallR X (.builtin "len") (rC1 X.K cl bLen) := callr_imp (CallR.or call_len call_len_dict) fun xs H Q h => by
  obtain ⟨x, rfl, L, S, t, rs, px, h⟩ := h
  cases px with
  | tup ta ra => exact .inl ⟨_, _, rfl, .inr ⟨_, ta.sq, rfl⟩, by rw [← ra.length]; exact post_same rs (.int _) h⟩
  | frl ta ra => exact .inl ⟨_, _, rfl, .inl ⟨_, ta.sq, rfl⟩, by rw [← ra.length]; exact post_same rs (.int _) h⟩
  | str z =>
    simp only [bLen] at h
    split at h
    · rename_i hz
      exact .inl ⟨_, z.length, rfl, ⟨by rw [line_eq]; exact hz, rfl⟩, post_same rs (.int _) h⟩
    · exact False.elim h
  | loc hl =>
    simp only [bLen] at h
    split at h
    · rename_i ys e
      obtain ⟨vs, q1, r1⟩ := lst_of rs e hl
      exact .inl ⟨_, _, rfl, .inl ⟨_, SqL.of q1, rfl⟩, by rw [← r1.length]; exact post_same rs (.int _) h⟩
    · rename_i kvs e
      split at h
      · obtain ⟨hk, ws, e1, r1, r2⟩ := rs.get e hl
        have len : kvs.length = ws.length := by have := r1.length; simpa using this
        exact .inr ⟨_, ws, rfl, e1, by rw [← len]; exact post_same rs (.int _) h⟩
      · exact False.elim h
    · exact False.elim h
  | _ => exact False.elim h
theorem cb_int : CallR X (.type "int") (rC1 X.K cl bInt) := callr_imp call_int1 fun xs H Q h => by
  obtain ⟨x, rfl, L, S, t, rs, px, h⟩ := h
  cases px with
  | int i => exact .inl ⟨i, rfl, post_same rs (.int _) h⟩
  | bl b => exact .inr ⟨b, rfl, post_same rs (.int _) h⟩
  | _ => exact False.elim h
theorem cb_abs : CallR X (.builtin "abs") (rC1 X.K cl bAbs) := callr_imp call_abs fun xs H Q h => by
  obtain ⟨x, rfl, L, S, t, rs, px, h⟩ := h
  cases px with
  | int i => exact ⟨i, rfl, post_same rs (.int _) h⟩
  | _ => exact False.elim h
theorem cb_str : CallR X (.type "str") (rC1 X.K cl bStr) := callr_imp call_str_int fun xs H Q h => by
  obtain ⟨x, rfl, L, S, t, rs, px, h⟩ := h
  cases px with
  | int i =>
    simp only [bStr] at h
    split at h
    · rename_i hc; exact ⟨i, rfl, hc, post_same rs (.str _) h⟩
    · exact False.elim h
  | _ => exact False.elim h
theorem cb_list : CallR X (.type "list") (rC1 X.K cl bList) := callr_imp call_list_of fun xs H Q h => by
  obtain ⟨x, rfl, L, S, t, rs, px, h⟩ := h
  have gen : ∀ {t : T} {x : V}, Rp X.K cl L H t x → ResR X.K cl L H (Rp X.K cl) (match lstAt S t with | some xs => alloc (.lst xs) S | none => .stuck) Q NoW → ∃ p ys, [x] = [V.ref p] ∧ (SqL X.K H p ys ∨ SqT X.K H p ys) ∧ ∀ l, H l = none → Q (.ref l) (upd H l (.lst ys)) := fun {t x} px h => by
    split at h
    · rename_i ys e
      obtain ⟨a, vs, ev, sq, r⟩ := lst_at rs e px
      exact ⟨a, vs, by rw [ev], .inl sq, fun l hl => post_lst rs r hl h⟩
    · exact False.elim h
  cases px with
  | tup ta ra => exact ⟨_, _, rfl, .inr ta.sq, fun l hl => post_lst rs ra hl h⟩
  | loc hl => exact gen (.loc hl) h
  | frl a b => exact gen (.frl a b) h
  | _ => exact False.elim h
theorem cb_tuple : CallR X (.type "tuple") (rC1 X.K cl bTuple) := callr_imp call_tuple_of fun xs H Q h => by
  obtain ⟨x, rfl, L, S, t, rs, px, h⟩ := h
  have gen : ∀ {t : T} {x : V}, Rp X.K cl L H t x → ResR X.K cl L H (Rp X.K cl) (match lstAt S t with | some xs => .ok (.tup xs) S | none => .stuck) Q NoW → ∃ p ys, [x] = [V.ref p] ∧ ((SqL X.K H p ys ∧ ∀ l, H l = none → Q (.ref l) (upd H l (.tup ys))) ∨ (SqT X.K H p ys ∧ Q (.ref p) H)) := fun {t x} px h => by
    split at h
    · rename_i ys e
      obtain ⟨a, vs, ev, sq, r⟩ := lst_at rs e px
      exact ⟨a, vs, by rw [ev], .inl ⟨sq, fun l hl => post_tup rs r hl h⟩⟩
    · exact False.elim h
  cases px with
  | tup ta ra => exact ⟨_, _, rfl, .inr ⟨ta.sq, post_same rs (.tup ta ra) h⟩⟩
  | loc hl => exact gen (.loc hl) h
  | frl a b => exact gen (.frl a b) h
  | _ => exact False.elim h
theorem bls_rel {K : PySem.W.Frag} : ∀ {xs : List T} {vs : List V} {bs : List Bool}, Rps K cl L H xs vs → bls? xs = some bs → vs = bs.map V.bl
  | _, _, _, .nil, e => by simp [bls?] at e; subst e; rfl
  | _, _, bs, .cons h t, e => by
    cases h with
    | bl b =>
      simp only [bls?, Option.map_eq_some_iff] at e
      obtain ⟨r, e1, e2⟩ := e
      subst e2
      rw [bls_rel t e1]; rfl
    | _ => simp [bls?] at e
theorem ints_rel {K : PySem.W.Frag} : ∀ {xs : List T} {vs : List V} {bs : List Int}, Rps K cl L H xs vs → ints? xs = some bs → vs = bs.map V.int
  | _, _, _, .nil, e => by simp [ints?] at e; subst e; rfl
  | _, _, bs, .cons h t, e => by
    cases h with
    | int b =>
      simp only [ints?, Option.map_eq_some_iff] at e
      obtain ⟨r, e1, e2⟩ := e
      subst e2
      rw [ints_rel t e1]; rfl
    | _ => simp [ints?] at e
theorem strs_rel {K : PySem.W.Frag} : ∀ {xs : List T} {vs : List V} {bs : List Str}, Rps K cl L H xs vs → strs? xs = some bs → vs = bs.map V.str
  | _, _, _, .nil, e => by simp [strs?] at e; subst e; rfl
  | _, _, bs, .cons h t, e => by
    cases h with
    | str b =>
      simp only [strs?, Option.map_eq_some_iff] at e
      obtain ⟨r, e1, e2⟩ := e
      subst e2
      rw [strs_rel t e1]; rfl
    | _ => simp [strs?] at e
theorem lst_bind {K : PySem.W.Frag} {α : Type} {S : Store} {t : T} {x : V} {f : List T → Option α} {r : α} (rs : RS K cl L H S) (px : Rp K cl L H t x) (h : (lstAt S t).bind f = some r) : ∃ a xs vs, x = .ref a ∧ SqL K H a vs ∧ Rps K cl L H xs vs ∧ f xs = some r := by
  cases e : lstAt S t with
  | none => rw [e] at h; cases h
  | some xs =>
    rw [e] at h
    obtain ⟨a, vs, ev, sq, q⟩ := lst_at rs e px
    exact ⟨a, xs, vs, ev, sq, q, h⟩
theorem cb_all (hc : X.calm = true) : CallR X (.builtin "all") (rC1 X.K cl bAll) := callr_imp (cr_all hc) fun xs H Q h => by
  obtain ⟨x, rfl, L, S, t, rs, px, h⟩ := h
  simp only [bAll] at h
  split at h
  · rename_i bs e
    obtain ⟨a, ys, vs, ev, sq, r, e2⟩ := lst_bind rs px e
    exact ⟨a, bs, by rw [ev], by rw [← bls_rel r e2]; exact sq, post_same rs (.bl _) h⟩
  · exact False.elim h
theorem cb_any (hc : X.calm = true) : CallR X (.builtin "any") (rC1 X.K cl bAny) := callr_imp (cr_any hc) fun xs H Q h => by
  obtain ⟨x, rfl, L, S, t, rs, px, h⟩ := h
  simp only [bAny] at h
  split at h
  · rename_i bs e
    obtain ⟨a, ys, vs, ev, sq, r, e2⟩ := lst_bind rs px e
    exact ⟨a, bs, by rw [ev], by rw [← bls_rel r e2]; exact sq, post_same rs (.bl _) h⟩
  · exact False.elim h
theorem cb_sum (hc : X.calm = true) : CallR X (.builtin "sum") (rC1 X.K cl bSum) := callr_imp (cr_sum hc) fun xs H Q h => by
  obtain ⟨x, rfl, L, S, t, rs, px, h⟩ := h
  simp only [bSum] at h
  split at h
  · rename_i bs e
    obtain ⟨a, ys, vs, ev, sq, r, e2⟩ := lst_bind rs px e
    exact ⟨a, bs, by rw [ev], by rw [← ints_rel r e2]; exact sq, post_same rs (.int _) h⟩
  · exact False.elim h
theorem cb_max2 (hc : X.calm = true) : CallR X (.builtin "max") (rC2 X.K cl bMax2) := callr_imp (call_max2 hc) fun xs H Q h => by
  obtain ⟨x, y, rfl, L, S, t, w, rs, px, py, h⟩ := h
  cases px with
  | int i =>
    cases py with
    | int j => exact ⟨i, j, rfl, post_same rs (.int _) h⟩
    | _ => exact False.elim h
  | _ => exact False.elim h
theorem cb_min2 (hc : X.calm = true) : CallR X (.builtin "min") (rC2 X.K cl bMin2) := callr_imp (call_min2 hc) fun xs H Q h => by
  obtain ⟨x, y, rfl, L, S, t, w, rs, px, py, h⟩ := h
  cases px with
  | int i =>
    cases py with
    | int j => exact ⟨i, j, rfl, post_same rs (.int _) h⟩
    | _ => exact False.elim h
  | _ => exact False.elim h

/-! ### methods -/
theorem cm_append : MtR X "list.append" (fun x vs H Q => ∃ y, vs = [y] ∧ rO2 X.K cl mAppend x y H Q) := mtr_imp mt_append fun x xs H Q h => by
  obtain ⟨y, rfl, L, S, t, w, rs, px, py, h⟩ := h
  cases px with
  | loc hl =>
    simp only [mAppend] at h
    split at h
    · rename_i xs e
      split at h
      · rename_i hz
        obtain ⟨vs, q1, r1⟩ := lst_of rs e hl
        obtain ⟨e2, r2⟩ := rs.write (o' := .lst (xs ++ [w])) (u := .lst (vs ++ [y])) e hl fun e => ⟨_, upd_same, (r1.mono e).append (.cons (py.mono e) .nil)⟩
        exact ⟨_, vs, y, rfl, rfl, q1, by rw [line_eq, ← r1.length]; exact hz, h _ _ _ e2 r2 .non⟩
      · exact False.elim h
    · exact False.elim h
  | _ => exact False.elim h
theorem cm_extend : MtR X "list.extend" (fun x vs H Q => ∃ y, vs = [y] ∧ rO2 X.K cl mExtend x y H Q) := mtr_imp mt_extend fun x xs H Q h => by
  obtain ⟨y, rfl, L, S, t, w, rs, px, py, h⟩ := h
  cases px with
  | loc hl =>
    cases py with
    | loc hm =>
      simp only [mExtend] at h
      split at h
      · rename_i xs ys e e'
        split at h
        · rename_i hz
          obtain ⟨vs, q1, r1⟩ := lst_of rs e hl
          obtain ⟨ws, q2, r2⟩ := lst_of rs e' hm
          obtain ⟨e2, r3⟩ := rs.write (o' := .lst (xs ++ ys)) (u := .lst (vs ++ ws)) e hl fun e => ⟨_, upd_same, (r1.mono e).append (r2.mono e)⟩
          exact ⟨_, _, vs, ws, rfl, rfl, q1, q2, by rw [line_eq, ← r1.length, ← r2.length]; exact hz, h _ _ _ e2 r3 .non⟩
        · exact False.elim h
      · exact False.elim h
    | _ => exact False.elim h
  | _ => exact False.elim h
theorem cm_pop : MtR X "list.pop" (fun x vs H Q => vs = [] ∧ rO1 X.K cl mPop x H Q) := mtr_imp mt_pop fun x xs H Q h => by
  obtain ⟨rfl, L, S, t, rs, px, h⟩ := h
  cases px with
  | loc hl =>
    simp only [mPop] at h
    split at h
    · rename_i xs e
      split at h
      · rename_i y ey
        obtain ⟨vs, q1, r1⟩ := lst_of rs e hl
        obtain ⟨z, h1, h2⟩ := r1.get ey
        obtain ⟨e2, r2⟩ := rs.write (o' := .lst xs.dropLast) (u := .lst vs.dropLast) e hl fun e => ⟨_, upd_same, (r1.mono e).dropLast⟩
        exact ⟨_, vs, z, rfl, rfl, q1, by rw [← r1.length]; exact h1, h _ _ _ e2 r2 (h2.mono e2)⟩
      · exact False.elim h
    · exact False.elim h
  | _ => exact False.elim h
theorem cm_popAt : MtR X "list.pop" (fun x vs H Q => ∃ y, vs = [y] ∧ rO2 X.K cl mPopAt x y H Q) := mtr_imp mt_popAt fun x xs H Q h => by
  obtain ⟨y, rfl, L, S, t, w, rs, px, py, h⟩ := h
  cases px with
  | loc hl =>
    cases py with
    | int i =>
      simp only [mPopAt] at h
      split at h
      · rename_i hi
        split at h
        · rename_i xs e
          split at h
          · rename_i k ek
            split at h
            · rename_i y ey
              obtain ⟨vs, q1, r1⟩ := lst_of rs e hl
              obtain ⟨z, h1, h2⟩ := r1.get ey
              obtain ⟨e2, r2⟩ := rs.write (o' := .lst (xs.eraseIdx k)) (u := .lst (vs.eraseIdx k)) e hl fun e => ⟨_, upd_same, (r1.mono e).eraseIdx k⟩
              rw [ixN_same, r1.length] at ek
              obtain ⟨s1, s2, s3, s4⟩ := ixN_seq ek
              exact ⟨_, vs, i, k, z, rfl, rfl, q1, hi.1, hi.2, s1, h1, h _ _ _ e2 r2 (h2.mono e2)⟩
            · exact False.elim h
          · exact False.elim h
        · exact False.elim h
      · exact False.elim h
    | _ => exact False.elim h
  | _ => exact False.elim h
theorem pdL_get : ∀ (xs : List T) (j : Nat), (pdL xs)[j]? = (xs[j]?).map pd
  | [], j => by simp [pdL]
  | x :: xs, 0 => by simp [pdL]
  | x :: xs, j + 1 => by simp only [pdL, List.getElem?_cons_succ]; exact pdL_get xs j
theorem datL_get : ∀ {xs : List T} {j : Nat} {z : T}, T.datL xs = true → xs[j]? = some z → z.dat = true
  | [], j, z, _, e => by simp at e
  | x :: xs, 0, z, d, e => by
    simp only [T.datL, Bool.and_eq_true] at d
    simp at e; subst e; exact d.1
  | x :: xs, j + 1, z, d, e => by
    simp only [T.datL, Bool.and_eq_true] at d
    exact datL_get d.2 (by simpa using e)
theorem findT_some {y : T} : ∀ {xs : List T} {j : Nat}, findT y xs = some j → (∃ z, xs[j]? = some z ∧ T.eqv z y = true) ∧ ∀ (m : Nat) (z : T), m < j → xs[m]? = some z → T.eqv z y = false
  | [], j, e => by simp [findT] at e
  | x :: xs, j, e => by
    unfold findT at e
    split at e
    · rename_i h
      cases e
      exact ⟨⟨x, rfl, h⟩, fun m z hm => absurd hm (Nat.not_lt_zero m)⟩
    · rename_i h
      rw [Option.map_eq_some_iff] at e
      obtain ⟨i, e1, rfl⟩ := e
      obtain ⟨⟨z, h1, h2⟩, h3⟩ := findT_some e1
      refine ⟨⟨z, by simpa using h1, h2⟩, fun m z' hm hz => ?_⟩
      cases m with
      | zero => simp at hz; subst hz; simpa using h
      | succ m => exact h3 m z' (by omega) (by simpa using hz)
theorem cm_index (hu : X.A.units + 65 < cLine) : MtR X "list.index" (fun x vs H Q => ∃ y, vs = [y] ∧ rO2 X.K cl mIndex x y H Q) := mtr_imp (mt_indexD hu) fun x xs H Q h => by
  obtain ⟨y, rfl, L, S, t, w, rs, px, py, h⟩ := h
  simp only [mIndex] at h
  split at h
  · rename_i ys e
    split at h
    · rename_i hc
      split at h
      · rename_i j ej
        obtain ⟨a, vs, rfl, sq, r⟩ := lst_at rs e px
        obtain ⟨⟨z, h1, h2⟩, h3⟩ := findT_some ej
        refine ⟨a, y, pd w, pdL ys, j, pd z, rfl, rfl, .lst sq (dps_of r hc.2.1), dp_of py hc.1, shapedL_of hc.2.1 hc.2.2.1, shaped_of hc.1 hc.2.2.2, ?_, ?_, fun m z' hm hz => ?_, post_same rs (.int _) h⟩
        · rw [pdL_get, h1]; rfl
        · rw [pd_eqv z w (datL_get hc.2.1 h1) hc.1]; exact h2
        · rw [pdL_get] at hz
          obtain ⟨z2, h4, rfl⟩ := Option.map_eq_some_iff.mp hz
          rw [pd_eqv z2 w (datL_get hc.2.1 h4) hc.1]
          exact h3 m z2 hm h4
      · exact False.elim h
    · exact False.elim h
  · exact False.elim h
theorem cm_join : MtR X "str.join" (fun x vs H Q => ∃ y, vs = [y] ∧ rO2 X.K cl mJoin x y H Q) := mtr_imp mt_join fun x xs H Q h => by
  obtain ⟨y, rfl, L, S, t, w, rs, px, py, h⟩ := h
  cases px with
  | str z =>
    cases py with
    | loc hl =>
      simp only [mJoin] at h
      split at h
      · rename_i ys e
        split at h
        · rename_i hz
          cases e2 : lstN S _ with
          | none => rw [e2] at e; cases e
          | some us =>
            rw [e2] at e
            obtain ⟨vs, q1, r1⟩ := lst_of rs (lstN_some e2) hl
            exact ⟨z, _, ys, rfl, rfl, .inl (by rw [← strs_rel r1 e]; exact SqL.of q1), hz, post_same rs (.str _) h⟩
        · exact False.elim h
      · exact False.elim h
    | tup ta ra =>
      simp only [mJoin] at h
      split at h
      · rename_i ys e
        split at h
        · rename_i hz
          exact ⟨z, _, ys, rfl, rfl, .inr (by rw [← strs_rel ra e]; exact ta.sq), hz, post_same rs (.str _) h⟩
        · exact False.elim h
      · exact False.elim h
    | _ => exact False.elim h
  | _ => exact False.elim h
end
end EV
end
section
set_option Elab.async false
set_option linter.all false
set_option maxRecDepth 100000
set_option maxHeartbeats 4000000
set_option autoImplicit false
namespace EV
open PySem PySem.Spec PyProof.Rows L2
section
variable {K : PySem.W.Frag} {cl : Nat → Addr} {L L' : List Addr} {H H' : Hp}
/-! ### forgetting is sound -/
mutual
theorem Rp.scoped : ∀ {t : T} {v : V}, Rp K cl L H t v → t.sco L.length = true
  | _, _, .non => by simp [T.sco]
  | _, _, .bl b => by simp [T.sco]
  | _, _, .int i => by simp [T.sco]
  | _, _, .str x => by simp [T.sco]
  | _, _, .tup h r => by simp only [T.sco]; exact Rps.scoped r
  | _, _, .frl h r => by simp only [T.sco]; exact Rps.scoped r
  | _, _, .loc h => by simp only [T.sco, decide_eq_true_eq]; exact (List.getElem?_eq_some_iff.mp h).1
  | _, _, .rng h => by simp [T.sco]
  | _, _, .ex h hd r => by simp only [T.sco]; exact Rp.scoped r
theorem Rps.scoped : ∀ {t : List T} {v : List V}, Rps K cl L H t v → T.scoL L.length t = true
  | _, _, .nil => by simp [T.scoL]
  | _, _, .cons h t => by simp only [T.scoL, Rp.scoped h, Rps.scoped t, Bool.and_self]
end
theorem Ext.pref (e : Ext L L' H H') {n : Nat} {a : Addr} (hn : n < L.length) (h : L'[n]? = some a) : L[n]? = some a := by
  have := e.pre n L[n] (List.getElem?_eq_getElem hn)
  rw [this] at h; cases h
  exact List.getElem?_eq_getElem hn
theorem RO.down {a : Addr} {o : O} {L'' : List Addr} (h : RO K cl L' H' a o) (s : o.sco L.length = true) (e : ∀ (n : Nat) (b : Addr), n < L.length → L'[n]? = Option.some b → L''[n]? = Option.some b) : RO K cl L'' H' a o := by
  cases o with
  | lst xs => obtain ⟨vs, q, r⟩ := h; exact ⟨vs, q, r.sco e (by simpa [O.sco] using s)⟩
  | dict kvs =>
    obtain ⟨z, ws, q, r1, r2⟩ := h
    simp only [O.sco, List.all_eq_true, Bool.and_eq_true] at s
    have s1 : T.scoL L.length (kvs.map (·.1)) = true := by
      clear r1 r2 z q
      induction kvs with
      | nil => simp [T.scoL]
      | cons p r ih => simp only [List.map_cons, T.scoL, (s p List.mem_cons_self).1, ih (fun x hx => s x (List.mem_cons_of_mem _ hx)), Bool.and_self]
    have s2 : T.scoL L.length (kvs.map (·.2)) = true := by
      clear r1 r2 z q
      induction kvs with
      | nil => simp [T.scoL]
      | cons p r ih => simp only [List.map_cons, T.scoL, (s p List.mem_cons_self).2, ih (fun x hx => s x (List.mem_cons_of_mem _ hx)) (by
          have := s1
          simp only [List.map_cons, T.scoL, Bool.and_eq_true] at this
          exact this.2), Bool.and_self]
    exact ⟨z, ws, q, r1.sco e s1, r2.sco e s2⟩
  | sset xs => exact h.elim
theorem RO.scoped {a : Addr} {o : O} (h : RO K cl L H a o) : o.sco L.length = true := by
  cases o with
  | lst xs => obtain ⟨vs, q, r⟩ := h; simpa [O.sco] using r.scoped
  | dict kvs =>
    obtain ⟨z, ws, q, r1, r2⟩ := h
    have h1 := r1.scoped
    have h2 := r2.scoped
    simp only [O.sco, List.all_eq_true, Bool.and_eq_true]
    clear r1 r2 z q
    induction kvs with
    | nil => intro x hx; cases hx
    | cons p r ih =>
      simp only [List.map_cons, T.scoL, Bool.and_eq_true] at h1 h2
      intro x hx
      rcases List.mem_cons.mp hx with rfl | hx
      · exact ⟨h1.1, h2.1⟩
      · exact ih h1.2 h2.2 x hx
  | sset xs => exact h.elim
theorem RS.take {S S' : Store} (rs : RS K cl L H S) (e : Ext L L' H H') (rs' : RS K cl L' H' S') (k : keeps S S') :
    Ext L L H H' ∧ RS K cl L H' (S'.take S.length) := by
  refine ⟨⟨fun _ _ h => h, e.fix, e.frame, fun n _ h => .inl ⟨n, h⟩, e.dom⟩, by rw [List.length_take, rs.len]; have := k.1; omega, rs.nd, fun n o h => ?_⟩
  have hn : n < S.length := by
    have := (List.getElem?_eq_some_iff.mp h).1
    rw [List.length_take] at this
    omega
  rw [List.getElem?_take_of_lt hn] at h
  obtain ⟨a, h1, h2⟩ := rs'.at_ n o h
  have h1' : L[n]? = some a := e.pref (by rw [rs.len]; exact hn) h1
  refine ⟨a, h1', h2.down (L := L) ?_ fun m b hm hb => e.pref hm hb⟩
  rcases k.2 n hn with q | ⟨o', q, s⟩
  · rw [h] at q
    obtain ⟨b, h3, h4⟩ := rs.at_ n o q.symm
    exact h4.scoped
  · rw [h] at q; cases q
    rw [rs.len]; exact s
theorem gc_ok {S S' : Store} {v : T} {x : V} {Q : VK} {W : Value → Option Addr → Hp → Prop} (rs : RS K cl L H S) (e : Ext L L' H H') (rs' : RS K cl L' H' S') (r : Rp K cl L' H' v x) (h : ResR K cl L H (Rp K cl) (gc S S' v) Q W) : Q x H' := by
  unfold gc at h
  split at h
  · rename_i k
    obtain ⟨e2, r2⟩ := rs.take e rs' k
    split at h
    · rename_i s
      exact h _ _ _ e2 r2 (r.sco (fun n a hn ha => e.pref (by rw [rs.len]; exact hn) ha) s)
    · rename_i s
      split at h
      · rename_i n
        split at h
        · rename_i o ho
          split at h
          · rename_i so
            cases r with
            | loc hl =>
              rename_i a
              have hn : ¬ n < S.length := fun q => s (by simp only [T.sco, decide_eq_true_eq]; exact q)
              have ha : ∀ (m : Nat) (b : Addr), L[m]? = some b → b ≠ a := fun m b hb q => by
                have := rs'.nd m n b (e.pre m b hb) (by rw [q]; exact hl)
                have hm := (List.getElem?_eq_some_iff.mp hb).1
                rw [rs.len] at hm
                omega
              have pre : ∀ (m : Nat) (b : Addr), L[m]? = some b → (L ++ [a])[m]? = some b := fun m b hb => by
                rw [List.getElem?_append_left (List.getElem?_eq_some_iff.mp hb).1]; exact hb
              have last : (L ++ [a])[S.length]? = some a := by rw [← rs.len]; simp
              have inv : ∀ (m : Nat) (b : Addr), (L ++ [a])[m]? = some b → L[m]? = some b ∨ (m = S.length ∧ b = a) := fun m b hb => by
                by_cases hm : m < L.length
                · left; rw [List.getElem?_append_left hm] at hb; exact hb
                · right
                  rw [List.getElem?_append_right (by omega)] at hb
                  have h0 : m - L.length = 0 := by
                    have := (List.getElem?_eq_some_iff.mp hb).1
                    simp at this; omega
                  rw [h0] at hb
                  simp at hb
                  exact ⟨by rw [← rs.len]; omega, hb.symm⟩
              refine h (L ++ [a]) H' _ ⟨pre, e.fix, e.frame, fun m b hb => (inv m b hb).elim (fun z => .inl ⟨m, z⟩) (fun z => by rw [z.2]; exact e.new n a hl), e.dom⟩ ⟨?_, fun m m' b h1 h2 => ?_, fun m o' hm => ?_⟩ (.loc last)
              · rw [List.length_append, List.length_append, r2.len]; rfl
              · rcases inv m b h1 with h1 | ⟨h1, e1⟩
                · rcases inv m' b h2 with h2 | ⟨h2, e2⟩
                  · exact rs.nd m m' b h1 h2
                  · exact absurd e2 (ha m b h1)
                · rcases inv m' b h2 with h2 | ⟨h2, e2⟩
                  · exact absurd e1 (ha m' b h2)
                  · omega
              · have lt : (S'.take S.length).length = S.length := by rw [List.length_take]; have := k.1; omega
                by_cases hm' : m < S.length
                · rw [List.getElem?_append_left (by rw [lt]; exact hm')] at hm
                  obtain ⟨b, h1, h2⟩ := r2.at_ m o' hm
                  exact ⟨b, pre m b h1, h2.down (L := L) h2.scoped fun n' b' _ hb' => pre n' b' hb'⟩
                · rw [List.getElem?_append_right (by rw [lt]; omega), lt] at hm
                  have h0 : m - S.length = 0 := by
                    have := (List.getElem?_eq_some_iff.mp hm).1
                    simp at this; omega
                  rw [h0] at hm
                  simp at hm
                  subst hm
                  have : m = S.length := by omega
                  subst this
                  obtain ⟨b, h1, h2⟩ := rs'.at_ n o ho
                  rw [hl] at h1; cases h1
                  exact ⟨a, last, h2.down (L := L) (by rw [rs.len]; exact so) fun n' b' hn' hb' => pre n' b' (e.pref hn' hb')⟩
          · exact h _ _ _ e rs' r
        · exact h _ _ _ e rs' r
      · exact h _ _ _ e rs' r
  · exact h _ _ _ e rs' r
theorem gcB_ok {S S' : Store} {b : Bool} {Q : Bool → Hp → Prop} {W : Value → Option Addr → Hp → Prop} (rs : RS K cl L H S) (e : Ext L L' H H') (rs' : RS K cl L' H' S') (h : ResR K cl L H relB (gcB S S' b) Q W) : Q b H' := by
  unfold gcB at h
  split at h
  · rename_i k
    obtain ⟨e2, r2⟩ := rs.take e rs' k
    exact h _ _ _ e2 r2 rfl
  · exact h _ _ _ e rs' rfl
theorem gl_gc {W : WX} {m : EM} {σ : L2.St} {Q : VK} (h : tO K cl W (cGc m) σ H Q) : tO K cl W m σ H Q := by
  obtain ⟨L, τ, S, rs, rl, h⟩ := h
  refine ⟨L, τ, S, rs, rl, ?_⟩
  unfold cGc at h
  cases e : m τ S with
  | ok v S' =>
    rw [e] at h
    exact fun L' H' z ex r rz => gc_ok rs ex r rz h
  | exc c v S' => rw [e] at h; exact h
  | stuck => rw [e] at h; exact h
theorem gl_gcB {W : WX} {m : TM} {σ : L2.St} {Q : Bool → Hp → Prop} (h : tOT K cl W (cGcB m) σ H Q) : tOT K cl W m σ H Q := by
  obtain ⟨L, τ, S, rs, rl, h⟩ := h
  refine ⟨L, τ, S, rs, rl, ?_⟩
  unfold cGcB at h
  cases e : m τ S with
  | ok v S' =>
    rw [e] at h
    exact fun L' H' z ex r rz => by cases rz; exact gcB_ok rs ex r h
  | exc c v S' => rw [e] at h; exact h
  | stuck => rw [e] at h; exact h
end
end EV
end
section
set_option Elab.async false
set_option linter.all false
set_option maxRecDepth 100000
set_option maxHeartbeats 4000000
set_option autoImplicit false
namespace EV
open PySem PySem.Spec PyProof.Rows L2

/-! ### shapes of syntax -/
theorem star_cons {e : Expr} (h : isStar e = false) (es : List Expr) (env : Env) : starEach (e :: es) env = (false, eval e env) :: starEach es env := by
  cases e <;> first | rfl | (simp [isStar] at h)
theorem star_any : ∀ {es : List Expr} (env : Env), es.any isStar = false → (starEach es env).any (·.1) = false
  | [], _, _ => rfl
  | e :: es, env, h => by
    simp only [List.any_cons, Bool.or_eq_false_iff] at h
    rw [star_cons h.1, List.any_cons, star_any env h.2]; rfl
theorem back_any {pos : Pos} {ts : List (Bool × Sem Value)} : (backTo pos ts).any (·.1) = ts.any (·.1) := by
  unfold backTo
  rw [List.any_map]
  rfl
theorem back_star {pos : Pos} {es : List Expr} {env : Env} (h : es.any isStar = false) : (backTo pos (starEach es env)).any (·.1) = false := by rw [back_any, star_any env h]
theorem asg_each {e : Expr} (h : isStar e = false) (es : List Expr) (env : Env) : (assignEach (e :: es) env) = (false, assign e env) :: assignEach es env := by
  cases e <;> first | rfl | (simp [isStar] at h)
theorem asg_len : ∀ {es : List Expr} (env : Env), (assignEach es env).length = es.length
  | [], _ => rfl
  | e :: es, env => by
    by_cases h : isStar e = false
    · rw [asg_each h, List.length_cons, List.length_cons, asg_len env]
    · cases e <;> first | (simp [isStar] at h; done) | (show (assignEach es env).length + 1 = _; rw [asg_len env]; rfl)
theorem asg_find : ∀ {es : List Expr} (env : Env), es.any isStar = false → (assignEach es env).findIdx? (·.1) = none
  | [], _, _ => rfl
  | e :: es, env, h => by
    simp only [List.any_cons, Bool.or_eq_false_iff] at h
    rw [asg_each h.1, List.findIdx?_cons, asg_find env h.2]; rfl

/-! ### the glue: meanings to readings -/
section
variable {K : PySem.W.Frag} {cl : Nat → Addr} {W : WX} {σ : L2.St} {H : Hp} {Q : VK}
theorem gl_bin {f : T → T → Store → R T} {ma mb : EM} (cf : Calm2 f) (h : tO K cl W (cBin f ma mb) σ H Q) : tOp (rO2 K cl f) (tO K cl W ma) (tO K cl W mb) σ H Q := by
  obtain ⟨L, τ, S, rs, rl, h⟩ := h
  refine ⟨L, τ, S, rs, rl, ResR.bind h fun x S1 L1 H1 z1 e1 r1 p1 h1 => ?_⟩
  refine ⟨L1, τ, S1, r1, rl.mono e1, ResR.bind h1 fun y S2 L2 H2 z2 e2 r2 p2 h2 => ?_⟩
  exact ⟨L2, S2, x, y, r2, p1.mono e2, p2, h2.calm (cf x y S2)⟩
theorem gl_un {f : T → Store → R T} {ma : EM} (cf : Calm1 f) (h : tO K cl W (cUn f ma) σ H Q) : tUn (rO1 K cl f) (tO K cl W ma) σ H Q := by
  obtain ⟨L, τ, S, rs, rl, h⟩ := h
  refine ⟨L, τ, S, rs, rl, ResR.bind h fun x S1 L1 H1 z1 e1 r1 p1 h1 => ?_⟩
  exact ⟨L1, S1, x, r1, p1, h1.calm (cf x S1)⟩
theorem gl_stuck (h : tO K cl W cStuck σ H Q) : False := by
  obtain ⟨L, τ, S, rs, rl, h⟩ := h
  exact h
theorem gl_var {i : Nat} (h : tO K cl W (cVar i) σ H Q) : tVar i σ H Q := by
  obtain ⟨L, τ, S, rs, rl, h⟩ := h
  unfold cVar at h
  split at h
  · rename_i v e
    obtain ⟨x, h1, h2⟩ := rl.at_ i v e
    exact ⟨x, h1, h _ _ _ (Ext.refl _ _) rs h2⟩
  · exact h.elim
theorem gl_k {v : T} {x : V} (r : ∀ L H, Rp K cl L H v x) (h : tO K cl W (cK v) σ H Q) : tC x σ H Q := by
  obtain ⟨L, τ, S, rs, rl, h⟩ := h
  exact h _ _ _ (Ext.refl _ _) rs (r L H)
theorem gl_bl {m : EM} {Q : Bool → Hp → Prop} (h : tOT K cl W (cBl m) σ H Q) : tB (tO K cl W m) σ H Q := by
  obtain ⟨L, τ, S, rs, rl, h⟩ := h
  refine ⟨L, τ, S, rs, rl, ResR.bind h fun x S1 L1 H1 z1 e1 r1 p1 h1 => ?_⟩
  cases p1 with
  | bl b => exact ⟨b, rfl, h1 _ _ _ (Ext.refl _ _) r1 rfl⟩
  | _ => exact False.elim h1
theorem gl_not {m : EM} (h : tO K cl W (cNot m) σ H Q) : tNotV (tO K cl W m) σ H Q := by
  obtain ⟨L, τ, S, rs, rl, h⟩ := h
  refine ⟨L, τ, S, rs, rl, ?_⟩
  unfold cNot cBl at h
  cases e : m τ S with
  | ok x S1 =>
    rw [e] at h
    intro L1 H1 z1 e1 r1 p1
    cases p1 with
    | bl b => exact ⟨b, rfl, h _ _ _ e1 r1 (.bl _)⟩
    | _ => exact False.elim h
  | exc c v S1 => rw [e] at h; exact h
  | stuck => rw [e] at h; exact h
theorem gl_and {a b : EM} (h : tO K cl W (cAnd a b) σ H Q) : tAndV (tO K cl W a) (tO K cl W b) σ H Q := by
  obtain ⟨L, τ, S, rs, rl, h⟩ := h
  refine ⟨L, τ, S, rs, rl, ?_⟩
  unfold cAnd cBl at h
  cases e : a τ S with
  | ok x S1 =>
    rw [e] at h
    intro L1 H1 z1 e1 r1 p1
    cases p1 with
    | bl c =>
      refine ⟨c, rfl, ?_⟩
      cases c with
      | true => exact ⟨L1, τ, S1, r1, rl.mono e1, ResR.mono h e1⟩
      | false => exact h _ _ _ e1 r1 (.bl _)
    | _ => exact False.elim h
  | exc c v S1 => rw [e] at h; exact h
  | stuck => rw [e] at h; exact h
theorem gl_or {a b : EM} (h : tO K cl W (cOr a b) σ H Q) : tOrV (tO K cl W a) (tO K cl W b) σ H Q := by
  obtain ⟨L, τ, S, rs, rl, h⟩ := h
  refine ⟨L, τ, S, rs, rl, ?_⟩
  unfold cOr cBl at h
  cases e : a τ S with
  | ok x S1 =>
    rw [e] at h
    intro L1 H1 z1 e1 r1 p1
    cases p1 with
    | bl c =>
      refine ⟨c, rfl, ?_⟩
      cases c with
      | false => exact ⟨L1, τ, S1, r1, rl.mono e1, ResR.mono h e1⟩
      | true => exact h _ _ _ e1 r1 (.bl _)
    | _ => exact False.elim h
  | exc c v S1 => rw [e] at h; exact h
  | stuck => rw [e] at h; exact h
theorem gl_ite {c : TM} {a b : EM} (h : tO K cl W (cIte c a b) σ H Q) : tIf (tOT K cl W c) (tO K cl W a) (tO K cl W b) σ H Q := by
  obtain ⟨L, τ, S, rs, rl, h⟩ := h
  refine ⟨L, τ, S, rs, rl, ResR.bind h fun x S1 L1 H1 z1 e1 r1 p1 h1 => ?_⟩
  cases p1
  cases x with
  | true => exact ⟨L1, τ, S1, r1, rl.mono e1, h1⟩
  | false => exact ⟨L1, τ, S1, r1, rl.mono e1, h1⟩
theorem gl_chain {f g : T → T → Store → R T} {a b c : EM} (cf : Calm2 f) (cg : Calm2 g) (h : tO K cl W (cChain f g a b c) σ H Q) : tChain (rO2 K cl f) (rO2 K cl g) (tO K cl W a) (tO K cl W b) (tO K cl W c) σ H Q := by
  obtain ⟨L, τ, S, rs, rl, h⟩ := h
  refine ⟨L, τ, S, rs, rl, ResR.bind h fun x S1 L1 H1 z1 e1 r1 p1 h1 => ?_⟩
  refine ⟨L1, τ, S1, r1, rl.mono e1, ResR.bind h1 fun y S2 L2 H2 z2 e2 r2 p2 h2 => ?_⟩
  refine ⟨L2, S2, x, y, r2, p1.mono e2, p2, ?_⟩
  cases e : f x y S2 with
  | exc c v S' => exact absurd e (cf x y S2 c v S')
  | stuck => rw [e] at h2; exact h2
  | ok z S3 =>
    rw [e] at h2
    intro L3 H3 z3 e3 r3 p3
    cases p3 with
    | bl k =>
      refine ⟨k, rfl, ?_⟩
      cases k with
      | true =>
        simp only [if_true]
        refine ⟨L3, τ, S3, r3, ((rl.mono e1).mono e2).mono e3, ResR.bind (ResR.mono h2 e3) fun u S4 L4 H4 z4 e4 r4 p4 h4 => ?_⟩
        exact ⟨L4, S4, y, u, r4, (p2.mono e3).mono e4, p4, h4.calm (cg y u S4)⟩
      | false => exact h2 _ _ _ e3 r3 (.bl _)
    | _ => exact False.elim h2
theorem gl_aNil {Q : List V → Hp → Prop} (h : tOA K cl W aNil σ H Q) : tNil σ H Q := by
  obtain ⟨L, τ, S, rs, rl, h⟩ := h
  exact h _ _ _ (Ext.refl _ _) rs .nil
theorem gl_aCons {a : EM} {r : AM} {Q : List V → Hp → Prop} (h : tOA K cl W (aCons a r) σ H Q) : tCons (tO K cl W a) (tOA K cl W r) σ H Q := by
  obtain ⟨L, τ, S, rs, rl, h⟩ := h
  refine ⟨L, τ, S, rs, rl, ResR.bind h fun x S1 L1 H1 z1 e1 r1 p1 h1 => ?_⟩
  refine ⟨L1, τ, S1, r1, rl.mono e1, ResR.bind h1 fun xs S2 L2 H2 z2 e2 r2 p2 h2 => ?_⟩
  exact h2 _ _ _ (Ext.refl _ _) r2 (.cons (p1.mono e2) p2)
theorem gl_tup {a : AM} (h : tO K cl W (cTup a) σ H Q) : tTup (tOA K cl W a) σ H Q := by
  obtain ⟨L, τ, S, rs, rl, h⟩ := h
  refine ⟨L, τ, S, rs, rl, ResR.bind h fun xs S1 L1 H1 z1 e1 r1 p1 h1 => ?_⟩
  split at h1
  · rename_i hz
    refine ⟨by rw [line_eq, ← p1.length]; exact hz, fun p hp => post_tup r1 p1 hp (h1.calm (fun _ _ _ e => by cases e))⟩
  · exact h1.elim
theorem gl_lst {a : AM} (h : tO K cl W (cLst a) σ H Q) : tLst (tOA K cl W a) σ H Q := by
  obtain ⟨L, τ, S, rs, rl, h⟩ := h
  refine ⟨L, τ, S, rs, rl, ResR.bind h fun xs S1 L1 H1 z1 e1 r1 p1 h1 => ?_⟩
  split at h1
  · rename_i hz
    exact ⟨by rw [line_eq, ← p1.length]; exact hz, fun p hp => post_lst r1 p1 hp (h1.calm (fun _ _ _ e => by cases e))⟩
  · exact h1.elim
theorem gl_dict (h : tO K cl W (fun _ S => alloc (.dict []) S) σ H Q) : tDNewK σ H Q := by
  obtain ⟨L, τ, S, rs, rl, h⟩ := h
  intro p hp
  obtain ⟨e, r1, r2⟩ := rs.alloc (o := .dict []) (u := .dK []) hp ⟨rfl, [], upd_same, .nil, .nil⟩
  exact h _ _ _ e r1 r2
/-- tests -/
theorem gl_tnot {m : TM} {Q : Bool → Hp → Prop} (h : tOT K cl W (EV.tNot m) σ H Q) : L2.tNot (tOT K cl W m) σ H Q := by
  obtain ⟨L, τ, S, rs, rl, h⟩ := h
  refine ⟨L, τ, S, rs, rl, ResR.bind h fun x S1 L1 H1 z1 e1 r1 p1 h1 => ?_⟩
  cases p1
  exact h1 _ _ _ (Ext.refl _ _) r1 rfl
theorem gl_tand {a b : TM} {Q : Bool → Hp → Prop} (h : tOT K cl W (EV.tAnd a b) σ H Q) : L2.tAnd (tOT K cl W a) (tOT K cl W b) σ H Q := by
  obtain ⟨L, τ, S, rs, rl, h⟩ := h
  refine ⟨L, τ, S, rs, rl, ResR.bind h fun x S1 L1 H1 z1 e1 r1 p1 h1 => ?_⟩
  cases p1
  cases x with
  | true => exact ⟨L1, τ, S1, r1, rl.mono e1, h1⟩
  | false => exact h1 _ _ _ (Ext.refl _ _) r1 rfl
theorem gl_tor {a b : TM} {Q : Bool → Hp → Prop} (h : tOT K cl W (EV.tOr a b) σ H Q) : L2.tOr (tOT K cl W a) (tOT K cl W b) σ H Q := by
  obtain ⟨L, τ, S, rs, rl, h⟩ := h
  refine ⟨L, τ, S, rs, rl, ResR.bind h fun x S1 L1 H1 z1 e1 r1 p1 h1 => ?_⟩
  cases p1
  cases x with
  | false => exact ⟨L1, τ, S1, r1, rl.mono e1, h1⟩
  | true => exact h1 _ _ _ (Ext.refl _ _) r1 rfl
theorem gl_yes {Q : Bool → Hp → Prop} (h : tOT K cl W EV.tYes σ H Q) : L2.tYes σ H Q := by
  obtain ⟨L, τ, S, rs, rl, h⟩ := h
  exact h _ _ _ (Ext.refl _ _) rs rfl
/-- slices -/
theorem gl_oNone {Q : Option Int → Hp → Prop} (h : tOO K cl W oNone σ H Q) : tNoPart σ H Q := by
  obtain ⟨L, τ, S, rs, rl, h⟩ := h
  exact h _ _ _ (Ext.refl _ _) rs rfl
theorem gl_oSome {m : EM} {Q : Option Int → Hp → Prop} (h : tOO K cl W (oSome m) σ H Q) : tPart (tO K cl W m) σ H Q := by
  obtain ⟨L, τ, S, rs, rl, h⟩ := h
  refine ⟨L, τ, S, rs, rl, ResR.bind h fun x S1 L1 H1 z1 e1 r1 p1 h1 => ?_⟩
  cases p1 with
  | int i => exact ⟨i, rfl, h1 _ _ _ (Ext.refl _ _) r1 rfl⟩
  | _ => exact False.elim h1
def Calm3 (f : T → Option Int → Option Int → Store → R T) : Prop := ∀ t lo hi S c v S', f t lo hi S ≠ .exc c v S'
theorem calm_sl : Calm3 opSl := by
  intro t lo hi S c v S'
  unfold opSl
  split
  · intro e; cases e
  · split <;> (intro e; cases e)
  · split <;> (intro e; cases e)
theorem gl_sl {m : EM} {l u : OM} (h : tO K cl W (cSl m l u) σ H Q) : tSl (rSl1 K cl) (tO K cl W m) (tOO K cl W l) (tOO K cl W u) σ H Q := by
  obtain ⟨L, τ, S, rs, rl, h⟩ := h
  refine ⟨L, τ, S, rs, rl, ResR.bind h fun x S1 L1 H1 z1 e1 r1 p1 h1 => ?_⟩
  refine ⟨L1, τ, S1, r1, rl.mono e1, ResR.bind h1 fun lo S2 L2 H2 z2 e2 r2 p2 h2 => ?_⟩
  cases p2
  refine ⟨L2, τ, S2, r2, (rl.mono e1).mono e2, ResR.bind h2 fun hi S3 L3 H3 z3 e3 r3 p3 h3 => ?_⟩
  cases p3
  exact ⟨L3, S3, x, r3, (p1.mono e2).mono e3, h3.calm (calm_sl x lo hi S3)⟩
/-- calls of built-ins, methods -/
theorem gl_c1 {f : T → Store → R T} {m : EM} (cf : Calm1 f) (h : tO K cl W (cUn f m) σ H Q) : tCB (rC1 K cl f) (tCons (tO K cl W m) tNil) σ H Q := by
  obtain ⟨L, τ, S, rs, rl, h⟩ := h
  refine ⟨L, τ, S, rs, rl, ResR.bind h fun x S1 L1 H1 z1 e1 r1 p1 h1 => ?_⟩
  exact ⟨z1, rfl, L1, S1, x, r1, p1, h1.calm (cf x S1)⟩
theorem gl_c2 {f : T → T → Store → R T} {m n : EM} (cf : Calm2 f) (h : tO K cl W (cBin f m n) σ H Q) : tCB (rC2 K cl f) (tCons (tO K cl W m) (tCons (tO K cl W n) tNil)) σ H Q := by
  obtain ⟨L, τ, S, rs, rl, h⟩ := h
  refine ⟨L, τ, S, rs, rl, ResR.bind h fun x S1 L1 H1 z1 e1 r1 p1 h1 => ?_⟩
  refine ⟨L1, τ, S1, r1, rl.mono e1, ResR.bind h1 fun y S2 L2 H2 z2 e2 r2 p2 h2 => ?_⟩
  exact ⟨z1, z2, rfl, L2, S2, x, y, r2, p1.mono e2, p2, h2.calm (cf x y S2)⟩
theorem tyL {S : Store} {L : List Addr} {t : T} {x : V} (rs : RS K cl L H S) (p : Rp K cl L H t x) (h : isL S t = true) : tyV K "list" x H := by
  unfold isL at h
  cases e : lstAt S t with
  | none => rw [e] at h; cases h
  | some xs =>
    obtain ⟨a, vs, rfl, sq, r⟩ := lst_at rs e p
    exact .inl ⟨rfl, vs, sq⟩
theorem tyS {S : Store} {L : List Addr} {t : T} {x : V} (p : Rp K cl L H t x) (h : isS S t = true) : tyV K "str" x H := by
  cases p with
  | str z => rfl
  | _ => simp [isS] at h
theorem gl_mt {Ty : String} {ty : Store → T → Bool} {f : T → T → Store → R T} {a b : EM} (cf : Calm2 f) (ht : ∀ {L : List Addr} {H : Hp} {S : Store} {t : T} {x : V}, RS K cl L H S → Rp K cl L H t x → ty S t = true → tyV K Ty x H) (h : tO K cl W (cMt ty f a b) σ H Q) :
    tBM K Ty (fun x vs H Q => ∃ y, vs = [y] ∧ rO2 K cl f x y H Q) (tO K cl W a) (tCons (tO K cl W b) tNil) σ H Q := by
  obtain ⟨L, τ, S, rs, rl, h⟩ := h
  refine ⟨L, τ, S, rs, rl, ResR.bind h fun x S1 L1 H1 z1 e1 r1 p1 h1 => ?_⟩
  split at h1
  · rename_i hty
    refine ⟨ht r1 p1 hty, L1, τ, S1, r1, rl.mono e1, ResR.bind h1 fun y S2 L2 H2 z2 e2 r2 p2 h2 => ?_⟩
    exact ⟨z2, rfl, L2, S2, x, y, r2, p1.mono e2, p2, h2.calm (cf x y S2)⟩
  · exact h1.elim
theorem gl_mt0 {Ty : String} {ty : Store → T → Bool} {f : T → Store → R T} {a : EM} (cf : Calm1 f) (ht : ∀ {L : List Addr} {H : Hp} {S : Store} {t : T} {x : V}, RS K cl L H S → Rp K cl L H t x → ty S t = true → tyV K Ty x H) (h : tO K cl W (cMt0 ty f a) σ H Q) :
    tBM0 K Ty (fun x vs H Q => vs = [] ∧ rO1 K cl f x H Q) (tO K cl W a) σ H Q := by
  obtain ⟨L, τ, S, rs, rl, h⟩ := h
  refine ⟨L, τ, S, rs, rl, ResR.bind h fun x S1 L1 H1 z1 e1 r1 p1 h1 => ?_⟩
  split at h1
  · rename_i hty
    exact ⟨ht r1 p1 hty, rfl, L1, S1, x, r1, p1, h1.calm (cf x S1)⟩
  · exact h1.elim
end
/-! ### what raises nothing -/
theorem calm_opAdd : Calm2 opAdd := by
  intro t u S c v S' e
  revert e
  unfold opAdd
  repeat' split
  all_goals (intro e; first | (cases e; done) | (simp [alloc] at e; done))
theorem calm_opSub : Calm2 opSub := by
  intro t u S c v S' e
  revert e
  unfold opSub
  repeat' split
  all_goals (intro e; first | (cases e; done) | (simp [alloc] at e; done))
theorem calm_opMul : Calm2 opMul := by
  intro t u S c v S' e
  revert e
  unfold opMul
  repeat' split
  all_goals (intro e; first | (cases e; done) | (simp [alloc] at e; done))
theorem calm_opDiv : Calm2 opDiv := by
  intro t u S c v S' e
  revert e
  unfold opDiv
  repeat' split
  all_goals (intro e; first | (cases e; done) | (simp [alloc] at e; done))
theorem calm_opMod : Calm2 opMod := by
  intro t u S c v S' e
  revert e
  unfold opMod
  repeat' split
  all_goals (intro e; first | (cases e; done) | (simp [alloc] at e; done))
theorem calm_opPow : Calm2 opPow := by
  intro t u S c v S' e
  revert e
  unfold opPow
  repeat' split
  all_goals (intro e; first | (cases e; done) | (simp [alloc] at e; done))
theorem calm_opEq : Calm2 opEq := by
  intro t u S c v S' e
  revert e
  unfold opEq
  repeat' split
  all_goals (intro e; first | (cases e; done) | (simp [alloc] at e; done))
theorem calm_opNe : Calm2 opNe := by
  intro t u S c v S' e
  revert e
  unfold opNe
  repeat' split
  all_goals (intro e; first | (cases e; done) | (simp [alloc] at e; done))
theorem calm_opIs : Calm2 opIs := by
  intro t u S c v S' e
  revert e
  unfold opIs
  repeat' split
  all_goals (intro e; first | (cases e; done) | (simp [alloc] at e; done))
theorem calm_opIsNot : Calm2 opIsNot := by
  intro t u S c v S' e
  revert e
  unfold opIsNot
  repeat' split
  all_goals (intro e; first | (cases e; done) | (simp [alloc] at e; done))
theorem calm_opIn : Calm2 opIn := by
  intro t u S c v S' e
  revert e
  unfold opIn
  repeat' split
  all_goals (intro e; first | (cases e; done) | (simp [alloc] at e; done))
theorem calm_opNotIn : Calm2 opNotIn := by
  intro t u S c v S' e
  revert e
  unfold opNotIn
  repeat' split
  all_goals (intro e; first | (cases e; done) | (simp [alloc] at e; done))
theorem calm_opIx : Calm2 opIx := by
  intro t u S c v S' e
  revert e
  unfold opIx
  repeat' split
  all_goals (intro e; first | (cases e; done) | (simp [alloc] at e; done))
theorem calm_bMax2 : Calm2 bMax2 := by
  intro t u S c v S' e
  revert e
  unfold bMax2
  repeat' split
  all_goals (intro e; first | (cases e; done) | (simp [alloc] at e; done))
theorem calm_bMin2 : Calm2 bMin2 := by
  intro t u S c v S' e
  revert e
  unfold bMin2
  repeat' split
  all_goals (intro e; first | (cases e; done) | (simp [alloc] at e; done))
theorem calm_mAppend : Calm2 mAppend := by
  intro t u S c v S' e
  revert e
  unfold mAppend
  repeat' split
  all_goals (intro e; first | (cases e; done) | (simp [alloc] at e; done))
theorem calm_mExtend : Calm2 mExtend := by
  intro t u S c v S' e
  revert e
  unfold mExtend
  repeat' split
  all_goals (intro e; first | (cases e; done) | (simp [alloc] at e; done))
theorem calm_mPopAt : Calm2 mPopAt := by
  intro t u S c v S' e
  revert e
  unfold mPopAt
  repeat' split
  all_goals (intro e; first | (cases e; done) | (simp [alloc] at e; done))
theorem calm_mIndex : Calm2 mIndex := by
  intro t u S c v S' e
  revert e
  unfold mIndex
  repeat' split
  all_goals (intro e; first | (cases e; done) | (simp [alloc] at e; done))
theorem calm_mJoin : Calm2 mJoin := by
  intro t u S c v S' e
  revert e
  unfold mJoin
  repeat' split
  all_goals (intro e; first | (cases e; done) | (simp [alloc] at e; done))
theorem calm_opNeg : Calm1 opNeg := by
  intro t S c v S' e
  revert e
  unfold opNeg
  repeat' split
  all_goals (intro e; first | (cases e; done) | (simp [alloc] at e; done))
theorem calm_bLen : Calm1 bLen := by
  intro t S c v S' e
  revert e
  unfold bLen
  repeat' split
  all_goals (intro e; first | (cases e; done) | (simp [alloc] at e; done))
theorem calm_bInt : Calm1 bInt := by
  intro t S c v S' e
  revert e
  unfold bInt
  repeat' split
  all_goals (intro e; first | (cases e; done) | (simp [alloc] at e; done))
theorem calm_bAbs : Calm1 bAbs := by
  intro t S c v S' e
  revert e
  unfold bAbs
  repeat' split
  all_goals (intro e; first | (cases e; done) | (simp [alloc] at e; done))
theorem calm_bStr : Calm1 bStr := by
  intro t S c v S' e
  revert e
  unfold bStr
  repeat' split
  all_goals (intro e; first | (cases e; done) | (simp [alloc] at e; done))
theorem calm_bList : Calm1 bList := by
  intro t S c v S' e
  revert e
  unfold bList
  repeat' split
  all_goals (intro e; first | (cases e; done) | (simp [alloc] at e; done))
theorem calm_bTuple : Calm1 bTuple := by
  intro t S c v S' e
  revert e
  unfold bTuple
  repeat' split
  all_goals (intro e; first | (cases e; done) | (simp [alloc] at e; done))
theorem calm_bAll : Calm1 bAll := by
  intro t S c v S' e
  revert e
  unfold bAll
  repeat' split
  all_goals (intro e; first | (cases e; done) | (simp [alloc] at e; done))
theorem calm_bAny : Calm1 bAny := by
  intro t S c v S' e
  revert e
  unfold bAny
  repeat' split
  all_goals (intro e; first | (cases e; done) | (simp [alloc] at e; done))
theorem calm_bSum : Calm1 bSum := by
  intro t S c v S' e
  revert e
  unfold bSum
  repeat' split
  all_goals (intro e; first | (cases e; done) | (simp [alloc] at e; done))
theorem calm_mPop : Calm1 mPop := by
  intro t S c v S' e
  revert e
  unfold mPop
  repeat' split
  all_goals (intro e; first | (cases e; done) | (simp [alloc] at e; done))
theorem calm_cmp (p : Int → Int → Bool) : Calm2 (opCmp p) := by
  intro t u S c v S' e
  revert e
  unfold opCmp
  repeat' split
  all_goals (intro e; cases e)
theorem calm_none : Calm2 (fun _ _ _ => R.stuck) := by
  intro t u S c v S' e
  cases e
theorem calm_opB (op : Operator) : Calm2 (opB op) := by
  cases op <;> first | exact calm_opAdd | exact calm_opSub | exact calm_opMul | exact calm_opDiv | exact calm_opMod | exact calm_opPow | exact calm_none
theorem calm_opC (op : CmpOp) : Calm2 (opC op) := by
  cases op <;> first | exact calm_opEq | exact calm_opNe | exact calm_cmp _ | exact calm_opIs | exact calm_opIsNot | exact calm_opIn | exact calm_opNotIn
end EV
end
section
set_option Elab.async false
set_option linter.all false
set_option maxRecDepth 100000
set_option maxHeartbeats 4000000
set_option autoImplicit false
namespace EV
open PySem PySem.Spec PyProof.Rows L2
section
variable {X : Cx} {cl : Nat → Addr} {W : WX}
/-! ### ranges -/
theorem rg_rel {K : PySem.W.Frag} {L : List Addr} {H : Hp} (a b : Int) : Rps K cl L H (rgT a b) (rgV a b) := by
  unfold rgT rgV
  generalize List.range (b - a).toNat = l
  induction l with
  | nil => exact .nil
  | cons n r ih => exact .cons (.int _) ih
theorem rgOk {a b : Int} (h : EV.RgOk a b = true) : L2.RgOk a b := by
  unfold EV.RgOk at h
  simp only [Bool.and_eq_true, decide_eq_true_eq] at h
  exact ⟨h.1.1.1.1, h.1.1.1.2, h.1.1.2, h.1.2, h.2⟩
theorem gl_lrg1 {K : PySem.W.Frag} {m : EM} {σ : L2.St} {H : Hp} {Q : VK} (h : tO K cl W (cUn bListRg1 m) σ H Q) : tLstRg (tRg1 (tO K cl W m)) σ H Q := by
  obtain ⟨L, τ, S, rs, rl, h⟩ := h
  refine ⟨L, τ, S, rs, rl, ResR.bind h fun x S1 L1 H1 z1 e1 r1 p1 h1 => ?_⟩
  cases p1 with
  | int b =>
    simp only [bListRg1] at h1
    split at h1
    · rename_i hc
      exact ⟨b, rfl, rgOk hc, fun p hp => post_lst r1 (rg_rel 0 b) hp (h1.calm (fun _ _ _ e => by cases e))⟩
    · exact h1.elim
  | _ => exact False.elim h1
theorem gl_trg1 {K : PySem.W.Frag} {m : EM} {σ : L2.St} {H : Hp} {Q : VK} (h : tO K cl W (cUn bTupleRg1 m) σ H Q) : tTupRg (tRg1 (tO K cl W m)) σ H Q := by
  obtain ⟨L, τ, S, rs, rl, h⟩ := h
  refine ⟨L, τ, S, rs, rl, ResR.bind h fun x S1 L1 H1 z1 e1 r1 p1 h1 => ?_⟩
  cases p1 with
  | int b =>
    simp only [bTupleRg1] at h1
    split at h1
    · rename_i hc
      exact ⟨b, rfl, rgOk hc, fun p hp => post_tup r1 (rg_rel 0 b) hp (h1.calm (fun _ _ _ e => by cases e))⟩
    · exact h1.elim
  | _ => exact False.elim h1
theorem gl_lrg2 {K : PySem.W.Frag} {m n : EM} {σ : L2.St} {H : Hp} {Q : VK} (h : tO K cl W (cBin bListRg2 m n) σ H Q) : tLstRg (tRg2 (tO K cl W m) (tO K cl W n)) σ H Q := by
  obtain ⟨L, τ, S, rs, rl, h⟩ := h
  refine ⟨L, τ, S, rs, rl, ResR.bind h fun x S1 L1 H1 z1 e1 r1 p1 h1 => ?_⟩
  refine ⟨L1, τ, S1, r1, rl.mono e1, ResR.bind h1 fun y S2 L2 H2 z2 e2 r2 p2 h2 => ?_⟩
  cases p1 with
  | int a =>
    cases p2 with
    | int b =>
      simp only [bListRg2] at h2
      split at h2
      · rename_i hc
        exact ⟨a, b, rfl, rfl, rgOk hc, fun p hp => post_lst r2 (rg_rel a b) hp (h2.calm (fun _ _ _ e => by cases e))⟩
      · exact h2.elim
    | _ => exact False.elim h2
  | _ => cases p2 <;> exact False.elim h2
theorem gl_trg2 {K : PySem.W.Frag} {m n : EM} {σ : L2.St} {H : Hp} {Q : VK} (h : tO K cl W (cBin bTupleRg2 m n) σ H Q) : tTupRg (tRg2 (tO K cl W m) (tO K cl W n)) σ H Q := by
  obtain ⟨L, τ, S, rs, rl, h⟩ := h
  refine ⟨L, τ, S, rs, rl, ResR.bind h fun x S1 L1 H1 z1 e1 r1 p1 h1 => ?_⟩
  refine ⟨L1, τ, S1, r1, rl.mono e1, ResR.bind h1 fun y S2 L2 H2 z2 e2 r2 p2 h2 => ?_⟩
  cases p1 with
  | int a =>
    cases p2 with
    | int b =>
      simp only [bTupleRg2] at h2
      split at h2
      · rename_i hc
        exact ⟨a, b, rfl, rfl, rgOk hc, fun p hp => post_tup r2 (rg_rel a b) hp (h2.calm (fun _ _ _ e => by cases e))⟩
      · exact h2.elim
    | _ => exact False.elim h2
  | _ => cases p2 <;> exact False.elim h2

/-! ### what is walked -/
def ItOk (K : PySem.W.Frag) (cl : Nat → Addr) (L0 : List Addr) (H0 : Hp) (p : List T × Src) (J : It) : Prop :=
  ∀ L H S, Ext L0 L H0 H → RS K cl L H S → p.2.ok p.1 S →
    (∀ i, i < p.1.length → J.go i H) ∧ (∀ i x H', i < p.1.length → J.yld i H x H' → ∃ t, p.1[i]? = some t ∧ Ext L L H H' ∧ RS K cl L H' S ∧ Rp K cl L H' t x) ∧ J.stop p.1.length H
def iO (K : PySem.W.Frag) (cl : Nat → Addr) (W : WX) (m : IM) : TI := fun σ H R => ∃ L τ S, RS K cl L H S ∧ RL K cl L H τ σ ∧ ResR K cl L H (ItOk K cl) (m τ S) R fun c d H' => W c d σ H'
theorem itl_ok {K : PySem.W.Frag} {L : List Addr} {H : Hp} {a : Addr} {xs : List T} {src : Src}
    (h : ∀ L' H' S, Ext L L' H H' → RS K cl L' H' S → src.ok xs S → ∃ vs, SqL K H' a vs ∧ Rps K cl L' H' xs vs) : ItOk K cl L H (xs, src) (Itl K a) := by
  intro L' H' S e rs ok
  obtain ⟨vs, sq, r⟩ := h L' H' S e rs ok
  refine ⟨fun i hi => ?_, fun i x H2 hi y => ?_, ⟨vs, sq, Nat.le_of_eq r.length.symm⟩⟩
  · obtain ⟨y, h1, h2⟩ := r.get (List.getElem?_eq_getElem hi)
    exact ⟨vs, y, sq, h1⟩
  · obtain ⟨rfl, y⟩ := y
    obtain ⟨z, h1, h2⟩ := r.get (List.getElem?_eq_getElem hi)
    have := y vs sq
    rw [h1] at this; cases this
    exact ⟨_, List.getElem?_eq_getElem hi, Ext.refl _ _, rs, h2⟩
theorem itt_ok {K : PySem.W.Frag} {L : List Addr} {H : Hp} {a : Addr} {xs : List T} {vs : List V} (ta : TupAt K H a vs) (ra : Rps K cl L H xs vs) : ItOk K cl L H (xs, .fix) (Itt K a) := by
  intro L' H' S e rs ok
  have sq := (ta.mono e).sq
  have r := ra.mono e
  refine ⟨fun i hi => ?_, fun i x H2 hi y => ?_, ⟨vs, sq, Nat.le_of_eq r.length.symm⟩⟩
  · obtain ⟨y, h1, h2⟩ := r.get (List.getElem?_eq_getElem hi)
    exact ⟨vs, y, sq, h1⟩
  · obtain ⟨rfl, y⟩ := y
    obtain ⟨z, h1, h2⟩ := r.get (List.getElem?_eq_getElem hi)
    have := y vs sq
    rw [h1] at this; cases this
    exact ⟨_, List.getElem?_eq_getElem hi, Ext.refl _ _, rs, h2⟩
theorem itr_ok {K : PySem.W.Frag} {L : List Addr} {H : Hp} (a b : Int) : ItOk K cl L H (rgT a b, .fix) (Itr a (b - a).toNat) := by
  have len : (rgT a b).length = (b - a).toNat := by unfold rgT; rw [List.length_map, List.length_range]
  intro L' H' S e rs ok
  refine ⟨fun i hi => by rw [← len]; exact hi, fun i x H2 hi y => ?_, Nat.le_of_eq len.symm⟩
  obtain ⟨rfl, rfl⟩ := y
  refine ⟨.int (a + i), ?_, Ext.refl _ _, rs, .int _⟩
  show (rgT a b)[i]? = _
  have hi' : i < (b - a).toNat := by rw [← len]; exact hi
  unfold rgT
  rw [List.getElem?_map, List.getElem?_range hi']; rfl
theorem its_ok {K : PySem.W.Frag} {L : List Addr} {H : Hp} (z : Str) : ItOk K cl L H (z.cps.toList.map fun c => T.str ⟨#[c]⟩, .fix) (Its z) := by
  intro L' H' S e rs ok
  have len : (z.cps.toList.map fun c => T.str ⟨#[c]⟩).length = z.cps.size := by rw [List.length_map, Array.length_toList]
  refine ⟨fun i hi => (show i < z.cps.size by rw [← len]; exact hi), fun i x H2 hi y => ?_, Nat.le_of_eq len.symm⟩
  obtain ⟨rfl, c, h1, rfl⟩ := y
  refine ⟨.str ⟨#[c]⟩, ?_, Ext.refl _ _, rs, .str _⟩
  show (z.cps.toList.map _)[i]? = _
  rw [List.getElem?_map, Array.getElem?_toList, h1]; rfl
theorem pi_val {tg e : Expr} {m : EM} (he : PE X e (tO X.K cl W m)) : PI X tg e (iO X.K cl W (iVal m)) := by
  refine ⟨fun pins s σ H R I h => ?_⟩
  obtain ⟨L, τ, S, rs, rl, h⟩ := h
  refine thn (he.run pins s σ H (fun x H1 => ∃ L1 S1 t, RS X.K cl L1 H1 S1 ∧ Rp X.K cl L1 H1 t x ∧ ResR X.K cl L1 H1 (ItOk X.K cl) (iV t S1) R NoW) I ⟨L, τ, S, rs, rl, ResR.bind h fun x S1 L1 H1 z1 e1 r1 p1 h1 => ⟨L1, S1, x, r1, p1, h1.calm (fun c v S' e => by
    revert e
    unfold iV
    repeat' split
    all_goals (intro e; cases e))⟩⟩) fun v s1 ⟨x, H1, I1, rv, q1⟩ => ?_
  obtain ⟨L1, S1, t, r1, p1, h1⟩ := q1
  have lst : ∀ (a : Addr) (vs : List V), v = .ref a → SqL X.K H1 a vs → R (Itl X.K a) H1 → wpAny (model X.prog X.w) X.A (pyIter v) (PIE X pins σ tg R) X.xe s1 := fun a vs ev hq q => by
    subst ev
    obtain ⟨its, rv, p, hz⟩ := I1.list hq
    refine wpAny_pyIter_list p.isList ?_
    refine ⟨s1.heap.objs.size, [s1.heap.objs.size], _, _, H1, rfl, I1.kept (t' := s1.toks) fun b o e => Heap.get?_push_of_some _ e, turn_list a _, ⟨_, Heap.get?_push_size _ rfl, rfl, rfl⟩, fun b hb => ?_, q⟩
    have e : b = s1.heap.objs.size := by simpa using hb
    subst e
    exact I1.fpOk (Nat.le_refl _) (I1.hok.fresh (Nat.le_refl _))
  cases p1 with
  | tup ta ra =>
    rename_i xs a vs
    cases rv
    obtain ⟨its, rv, p, hz⟩ := I1.tuple ta.sq
    refine wpAny_pyIter_tuple (show s1.heap.IsTuple a its.toArray from p) ?_
    refine ⟨s1.heap.objs.size, [s1.heap.objs.size], _, _, H1, rfl, I1.kept (t' := s1.toks) fun b o e => Heap.get?_push_of_some _ e, turn_tuple a _, ⟨_, Heap.get?_push_size _ rfl, rfl, rfl⟩, fun b hb => ?_, h1 _ _ _ (Ext.refl _ _) r1 (itt_ok ta ra)⟩
    have e : b = s1.heap.objs.size := by simpa using hb
    subst e
    exact I1.fpOk (Nat.le_refl _) (I1.hok.fresh (Nat.le_refl _))
  | str z =>
    obtain ⟨t, rfl⟩ := rv
    have q := h1 _ _ _ (Ext.refl _ _) r1 (its_ok z)
    cases ha : z.cps.all (· < 128)
    · exact wpAny_pyIter_wide ha (pi_one (tk := s1.toks) I1 _ (turn_str _ z t "str_iterator" (.inr rfl)) ⟨_, Heap.get?_push_size _ rfl, rfl, rfl⟩ q)
    · exact wpAny_pyIter_ascii ha (pi_one (tk := s1.toks) I1 _ (turn_str _ z t "str_ascii_iterator" (.inl rfl)) ⟨_, Heap.get?_push_size _ rfl, rfl, rfl⟩ q)
  | loc hl =>
    rename_i n a
    simp only [iV] at h1
    split at h1
    · rename_i xs e
      obtain ⟨vs, q1, r⟩ := lst_of r1 (lstN_some e) hl
      cases rv
      refine lst a vs rfl (SqL.of q1) (h1 _ _ _ (Ext.refl _ _) r1 (itl_ok fun L' H' S' e' rs' ok => ?_))
      have hl' := e'.pre _ _ hl
      obtain ⟨ws, q2, r2⟩ := lst_of rs' (lstN_some ok) hl'
      exact ⟨ws, SqL.of q2, r2⟩
    · exact h1.elim
  | frl ta ra =>
    rename_i xs a vs
    cases rv
    exact lst a vs rfl ta.sq (h1 _ _ _ (Ext.refl _ _) r1 (itl_ok fun L' H' S' e' rs' ok => ⟨vs, (ta.mono e').sq, ra.mono e'⟩))
  | _ => exact False.elim h1
end
end EV
end
section
set_option Elab.async false
set_option linter.all false
set_option maxRecDepth 100000
set_option maxHeartbeats 4000000
set_option autoImplicit false
namespace EV
open PySem PySem.Spec PyProof.Rows L2
/-! ### targets -/
/-- all slots but those of ws are as they were -/
def Same (ws : List Nat) (σ σ' : L2.St) : Prop := σ'.length = σ.length ∧ ∀ i : Nat, i ∉ ws → σ'[i]? = σ[i]?
theorem Same.refl (ws : List Nat) (σ : L2.St) : Same ws σ σ := ⟨rfl, fun _ _ => rfl⟩
theorem Same.set (σ : L2.St) (i : Nat) (v : Option V) : Same [i] σ (σ.set i v) := ⟨List.length_set, fun j h => by
  rw [List.getElem?_set_ne]
  intro e
  exact h (by rw [e]; exact List.mem_singleton.mpr rfl)⟩
theorem Same.trans {a b : List Nat} {σ σ1 σ2 : L2.St} (h : Same a σ σ1) (h' : Same b σ1 σ2) : Same (a ++ b) σ σ2 :=
  ⟨h'.1.trans h.1, fun i hi => (h'.2 i fun q => hi (List.mem_append_right _ q)).trans (h.2 i fun q => hi (List.mem_append_left _ q))⟩
theorem wipe_at (σ : L2.St) (i : Nat) : ∀ vs : List Nat, (L2.wipe σ vs)[i]? = if i ∈ vs then (if i < σ.length then some none else none) else σ[i]?
  | [] => by simp [L2.wipe]
  | v :: vs => by
    unfold L2.wipe
    have ih := wipe_at σ i vs
    by_cases hv : v = i
    · subst hv
      rw [List.getElem?_set]
      simp [L2.wipe_length]
    · rw [List.getElem?_set_ne hv, ih]
      have : i ∈ v :: vs ↔ i ∈ vs := by simp [Ne.symm hv]
      simp only [this]
theorem Same.wipe {ws vs : List Nat} {σ σ' : L2.St} (h : Same ws (L2.wipe σ vs) σ') (hw : ∀ i ∈ ws, i ∈ vs) : L2.wipe σ' vs = L2.wipe σ vs := by
  have hl : σ'.length = σ.length := h.1.trans (L2.wipe_length σ vs)
  refine List.ext_getElem? fun i => ?_
  rw [wipe_at, wipe_at, hl]
  by_cases hi : i ∈ vs
  · rw [if_pos hi, if_pos hi]
  · rw [if_neg hi, if_neg hi]
    have := h.2 i fun q => hi (hw i q)
    rw [wipe_at, if_neg hi] at this
    exact this
def gO (K : PySem.W.Frag) (cl : Nat → Addr) (ws : List Nat) (g : GM) : TG := fun v σ H Q => ∃ L τ S t τ', RS K cl L H S ∧ RL K cl L H τ σ ∧ Rp K cl L H t v ∧ g t τ = some τ' ∧ ∀ σ', RL K cl L H τ' σ' → Same ws σ σ' → Q σ' H
def gsO (K : PySem.W.Frag) (cl : Nat → Addr) (ws : List Nat) (g : List T → Loc → Option Loc) : TGs := fun vs σ H Q => ∃ L τ S ts τ', RS K cl L H S ∧ RL K cl L H τ σ ∧ Rps K cl L H ts vs ∧ g ts τ = some τ' ∧ ∀ σ', RL K cl L H τ' σ' → Same ws σ σ' → Q σ' H
section
variable {K : PySem.W.Frag} {cl : Nat → Addr} {W : WX} {σ : L2.St} {H : Hp} {Q : VK}
theorem gl_gname {i : Nat} {v : V} {Q : L2.St → Hp → Prop} (h : gO K cl [i] (EV.gName i) v σ H Q) : L2.gName i v σ H Q := by
  obtain ⟨L, τ, S, t, τ', rs, rl, p, e, q⟩ := h
  cases e
  exact q _ (rl.set p i) (Same.set _ _ _)
theorem gl_gnil {vs : List V} {Q : L2.St → Hp → Prop} (h : gsO K cl [] EV.gNil vs σ H Q) : L2.gNil vs σ H Q := by
  obtain ⟨L, τ, S, ts, τ', rs, rl, p, e, q⟩ := h
  cases p with
  | nil => cases e; exact ⟨rfl, q _ rl (Same.refl _ _)⟩
  | cons h t => cases e
theorem gl_gcons {g : GM} {r : List T → Loc → Option Loc} {vs : List V} {Q : L2.St → Hp → Prop} {w1 w2 : List Nat} (h : gsO K cl (w1 ++ w2) (EV.gCons g r) vs σ H Q) : L2.gCons (gO K cl w1 g) (gsO K cl w2 r) vs σ H Q := by
  obtain ⟨L, τ, S, ts, τ', rs, rl, p, e, q⟩ := h
  cases p with
  | nil => cases e
  | cons h t =>
    simp only [EV.gCons] at e
    cases e1 : g _ τ with
    | none => rw [e1] at e; cases e
    | some τ1 =>
      rw [e1] at e
      exact ⟨_, _, rfl, L, τ, S, _, τ1, rs, rl, h, e1, fun σ' rl' sm => ⟨L, τ1, S, _, τ', rs, rl', t, e, fun σ2 rl2 sm2 => q σ2 rl2 (sm.trans sm2)⟩⟩
theorem gl_gtup {gs : List T → Loc → Option Loc} {n : Nat} {v : V} {Q : L2.St → Hp → Prop} (len : ∀ xs τ τ', gs xs τ = some τ' → xs.length = n) {ws : List Nat} (h : gO K cl ws (EV.gTup gs) v σ H Q) : L2.gTup K n (gsO K cl ws gs) v σ H Q := by
  obtain ⟨L, τ, S, t, τ', rs, rl, p, e, q⟩ := h
  cases p with
  | tup ta ra =>
    simp only [EV.gTup] at e
    exact ⟨_, _, rfl, ta.sq, by rw [← ra.length]; exact len _ _ _ e, L, τ, S, _, τ', rs, rl, ra, e, q⟩
  | _ => cases e

/-! ### comprehensions -/
abbrev W0 : WX := fun _ _ _ _ => False
theorem wipe_set (τ : Loc) : ∀ vs : List Nat, (EV.wipe τ vs).length = τ.length
  | [] => rfl
  | v :: vs => by unfold EV.wipe; rw [List.length_set, wipe_set τ vs]
theorem gl_lc {wi : IM} {vs : List Nat} {g : GM} {tt : TM} {te : EM} {ws : List Nat} (hw : ∀ i ∈ ws, i ∈ vs)
    (h : tO K cl W (cLC wi vs g tt te) σ H Q) : tLc (iO K cl W wi) (gO K cl ws g) (tOT K cl W0 tt) (tO K cl W0 te) vs σ H Q := by
  obtain ⟨L, τ, S, rs, rl, h⟩ := h
  refine ⟨L, τ, S, rs, rl, ResR.bind h fun p S1 L1 H1 J e1 r1 it h1 => ?_⟩
  split at h1
  case isFalse => exact h1.elim
  rename_i hz
  split at h1
  case h_2 => exact h1.elim
  rename_i ys S2 hl
  intro D hD
  have rl1 := rl.mono e1
  let WW : Nat → Nat → Hp → Prop := fun i m H => m = p.1.length - i ∧ i ≤ p.1.length ∧ ∃ L' S' acc accV ys', RS K cl L' H S' ∧ Ext L1 L' H1 H ∧ (∀ n : Nat, L'[n]? ≠ some D) ∧ H D = some (.lst accV) ∧ Rps K cl L' H acc accV ∧ acc.length ≤ i ∧
    lcLoop p.2 p.1 vs g tt te τ (p.1.drop i) S' = .ok ys' S2 ∧ ys = acc ++ ys'
  have nD : ∀ n : Nat, L1[n]? ≠ some D := fun n q => (r1.ne hD n D q) rfl
  refine ⟨WW, ⟨p.1.length, by simp, Nat.zero_le _, L1, S1, [], [], ys, ?_, Ext.new0 hD, nD, upd_same, .nil, Nat.zero_le _, by simpa using hl, rfl⟩, ?_⟩
  · exact (r1.new hD).2
  · rintro i m H2 ⟨rfl, hi, L2', S', acc, accV, ys', r2, e2, nd, hD2, ra, la, hlp, hys⟩
    have rl2 := rl1.mono e2
    by_cases hlt : i < p.1.length
    · have hdrop : p.1.drop i = p.1[i] :: p.1.drop (i + 1) := List.drop_eq_getElem_cons hlt
      rw [hdrop] at hlp
      simp only [lcLoop] at hlp
      split at hlp
      case isFalse => cases hlp
      rename_i ok
      obtain ⟨go, yld, _⟩ := it L2' H2 S' e2 r2 ok
      right
      refine ⟨go i hlt, WW (i + 1) (p.1.length - (i + 1)), fun H' q => ⟨_, by omega, q⟩, fun x H3 y => ?_⟩
      obtain ⟨t, ht, e3, r3, pt⟩ := yld i x H3 hlt y
      rw [List.getElem?_eq_getElem hlt] at ht
      cases ht
      have rl3 := rl2.mono e3
      split at hlp
      case h_1 => cases hlp
      rename_i τ2 hτ
      refine ⟨L2', EV.wipe τ vs, S', p.1[i], τ2, r3, rl3.wipe vs, pt, hτ, fun σ2 rl4 sm => ⟨sm.wipe hw, ?_⟩⟩
      have hD3 : H3 D = some (.lst accV) := e3.frame D _ hD2 nd
      cases hb : tt τ2 S' with
      | exc c v S3 => rw [hb] at hlp; cases hlp
      | stuck => rw [hb] at hlp; cases hlp
      | ok b S3 =>
        rw [hb] at hlp
        simp only [R.bind_ok] at hlp
        refine ⟨L2', τ2, S', r3, rl4, ?_⟩
        rw [hb]
        intro L4 H4 b' e4 r4 eb
        cases eb
        have rl5 := rl4.mono e4
        have hD4 := e4.frame D _ hD3 nd
        have nd4 := e4.notIn hD3 nd
        have e14 : Ext L1 L4 H1 H4 := (e2.trans e3).trans e4
        cases b with
        | false =>
          simp only [Bool.false_eq_true, if_false] at hlp ⊢
          exact ⟨rfl, hlt, L4, S3, acc, accV, ys', r4, e14, nd4, hD4, (ra.mono e3).mono e4, by omega, hlp, hys⟩
        | true =>
          simp only [if_true] at hlp ⊢
          cases he : te τ2 S3 with
          | exc c v S5 => rw [he] at hlp; cases hlp
          | stuck => rw [he] at hlp; cases hlp
          | ok y S5 =>
            rw [he] at hlp
            simp only [R.bind_ok] at hlp
            cases hr : lcLoop p.2 p.1 vs g tt te τ (p.1.drop (i + 1)) S5 with
            | exc c v S6 => rw [hr] at hlp; cases hlp
            | stuck => rw [hr] at hlp; cases hlp
            | ok ys2 S6 =>
              rw [hr] at hlp
              simp only [R.bind_ok] at hlp
              injection hlp with hl1 hl2
              subst hl1 hl2
              refine ⟨L4, τ2, S3, r4, rl5, ?_⟩
              rw [he]
              intro L5 H5 yv e5 r5 py
              have hD5 := e5.frame D _ hD4 nd4
              have nd5 := e5.notIn hD4 nd4
              have ra5 := ((ra.mono e3).mono e4).mono e5
              refine ⟨accV, hD5, ?_, rfl, hlt, L5, S5, acc ++ [y], accV ++ [yv], ys2, ?_⟩
              · rw [line_eq, ← ra5.length]
                omega
              · obtain ⟨st, r6⟩ := r5.beside (o := .lst (accV ++ [yv])) hD5 (fun z => z) nd5
                exact ⟨r6, (e14.trans e5).beside hD, nd5, upd_same, (ra5.append (.cons py .nil)).stay st, by simp; omega, hr, by simp [hys]⟩
    · have hi' : i = p.1.length := by omega
      subst hi'
      rw [List.drop_length] at hlp
      simp only [lcLoop] at hlp
      split at hlp
      case isFalse => cases hlp
      rename_i ok
      injection hlp with hl1 hl2
      subst hl1 hl2
      obtain ⟨_, _, stop⟩ := it L2' H2 S' e2 r2 ok
      left
      refine ⟨stop, ?_⟩
      rw [List.append_nil] at hys
      subst hys
      -- the new list is taken into the store
      have fin : Ext L1 (L2' ++ [D]) H1 H2 := ⟨fun n a q => app_old (e2.pre n a q), e2.fix, e2.frame, fun n a q => (app_inv q).elim (e2.new n a) fun z => .inr (by rw [z.2]; exact hD), e2.dom⟩
      have rs2 : RS K cl (L2' ++ [D]) H2 (S' ++ [.lst ys]) := by
        have st : Stay L2' (L2' ++ [D]) H2 H2 := ⟨fun _ _ => app_old, fun _ _ _ q => q⟩
        refine ⟨by simp [r2.len], fun m n a h1 h2 => ?_, fun n o h => ?_⟩
        · rcases app_inv h1 with h1 | ⟨h1, z1⟩
          · rcases app_inv h2 with h2 | ⟨h2, z2⟩
            · exact r2.nd m n a h1 h2
            · exact absurd (by rw [← z2]; exact h1) (nd m)
          · rcases app_inv h2 with h2 | ⟨h2, z2⟩
            · exact absurd (by rw [← z1]; exact h2) (nd n)
            · omega
        · by_cases hn : n < S'.length
          · rw [List.getElem?_append_left hn] at h
            obtain ⟨a, h3, h4⟩ := r2.at_ n o h
            exact ⟨a, app_old h3, h4.stay st rfl⟩
          · rw [List.getElem?_append_right (by omega)] at h
            have h0 : n - S'.length = 0 := by
              have := (List.getElem?_eq_some_iff.mp h).1
              simp at this; omega
            rw [h0] at h
            simp at h
            subst h
            have : n = S'.length := by omega
            subst this
            exact ⟨D, by rw [← r2.len]; simp, accV, hD2, ra.stay st⟩
      exact h1 (L2' ++ [D]) H2 (.ref D) fin rs2 (.loc (by rw [← r2.len]; simp))
end
end EV
end
section
set_option Elab.async false
set_option linter.all false
set_option maxRecDepth 100000
set_option maxHeartbeats 4000000
set_option autoImplicit false
namespace EV
open PySem PySem.Spec PyProof.Rows L2
/-! ### what stands behind the names -/
def bltName : Blt → Str
  | .len => "len" | .range => "range" | .isinstance => "isinstance" | .int => "int" | .bool => "bool" | .str => "str" | .list => "list" | .tuple => "tuple" | .dict => "dict" | .set => "set"
  | .abs => "abs" | .all => "all" | .any => "any" | .sum => "sum" | .max => "max" | .min => "min" | .sorted => "sorted" | .enumerate => "enumerate" | .zip => "zip" | .reversed => "reversed" | .ValueError => "ValueError"
/-- the promise of a def: it does what the function says -/
def spF (K : PySem.W.Frag) (cl : Nat → Addr) (n : Nat) (f : List T → Store → R T) : Sp := fun vs H Q E => vs.length = n ∧ ∃ L S ts, RS K cl L H S ∧ Rps K cl L H ts vs ∧ ResR K cl L H (Rp K cl) (f ts S) Q E
/-- the arguments by keyword in their places -/
def pick {α : Type} (d : α) : List Str → List α → Str → α
  | k :: ks, v :: vs, p => if k = p then v else pick d ks vs p
  | _, _, _ => d
def gArg {α : Type} (d : α) (ps ks : List Str) (m : Nat) (us ws : List α) : List α := if us.length = m ∧ ws.length = ks.length then us ++ (ps.drop m).map (pick d ks ws) else []
structure GlOk (p : Prog) (K : PySem.W.Frag) (mg : Str → Option Value) (cl : Nat → Addr) : Prop where
  fn : ∀ x i, p.gl.lookup x = some (.fn i) → ∃ f, p.defs[i]? = some f ∧ f.name = x
  cls : ∀ x i, p.gl.lookup x = some (.cls i) → mg x = some (.ref (cl i))
  con : ∀ x v, p.gl.lookup x = some (.con v) → ∃ xv u, mg x = some u ∧ RelV xv u ∧ ∀ L H, Rp K cl L H v xv
  blt : ∀ x b, p.gl.lookup x = some (.blt b) → x = bltName b ∧ mg x = none
  nn : ∀ x i, p.gl.lookup x = some (.cls i) → PySem.W.kitOne K (.type "NoneType") (.ref (cl i)) = some false
  ks : ∀ x i, p.gl.lookup x = some (.cls i) → ∀ c, PySem.W.kitOne K (.ref (cl c)) (.ref (cl i)) = some (p.subC c i)
  hk : ∀ c, ExcK K (cl c)
structure CallOk (p : Prog) (P : Program) (w : World) (K : PySem.W.Frag) (mg : Str → Option Value) (base : Heap) (cl : Nat → Addr) (k : Nat) (call : Nat → List T → Store → R T) : Prop where
  at_ : ∀ i f, p.defs[i]? = some f → ∃ a fd, mg f.name = some (.ref a) ∧ PySem.W.keepIn K (.ref a) = true ∧ Binds K fd f.ps [] ∧ FnOk P w K mg base (L2.CX P w) (k + 2) a fd f.ps (spF K cl f.ps.length (call i)) ∧
    ∀ m ks, (i, m, ks) ∈ p.kw → KBinds K fd f.ps ks (gArg Value.none f.ps ks m) (gArg V.non f.ps ks m)
  len : ∀ i f ts S, p.defs[i]? = some f → ts.length ≠ f.ps.length → call i ts S = .stuck
  kw : ∀ i m ks, (i, m, ks) ∈ p.kw → ks.Nodup ∧ ∀ f, p.defs[i]? = some f → m + ks.length = f.ps.length ∧ ∀ x ∈ f.ps.drop m, x ∈ ks
structure Good (p : Prog) (cl : Nat → Addr) (k : Nat) (call : Nat → List T → Store → R T) (Γ : Cxt) (X : Cx) : Prop where
  N : X.N = Γ.N
  sc : X.env.scope = Γ.sc
  kind : X.env.scope.kind = .function
  nd : X.N.Nodup
  calm : X.calm = true
  room : Room (k + 2) X.A
  gl : Γ.gl = p.gl
  ps : Γ.ps = p.psOf
  kw : Γ.kw = p.kw
  subC : Γ.subC = p.subC
  tg : ∀ x, isLoc (Γ.sc.names.lookup x) = true → Γ.tg x = true → X.fn x = true ∨ X.env.scope.names.lookup x = some .local
  G : GlOk p X.K X.mg cl
  C : CallOk p X.prog X.w X.K X.mg X.base cl k call
section
variable {p : Prog} {cl : Nat → Addr} {k : Nat} {call : Nat → List T → Store → R T} {Γ : Cxt} {X : Cx} {W : WX}
theorem idx_get : ∀ {N : List Str} {x : Str} {i : Nat}, idx N x = some i → N[i]? = some x
  | [], _, _, h => by simp [idx] at h
  | y :: r, x, i, h => by
    unfold idx at h
    split at h
    · rename_i e; cases h; rw [e]; rfl
    · rw [Option.map_eq_some_iff] at h
      obtain ⟨j, h1, rfl⟩ := h
      simpa using idx_get h1
theorem ok_names {x : Str} (h : okName x = true) : (x == ("__debug__" : Str)) = false ∧ (x == ("__classdict__" : Str)) = false ∧ x ≠ "__name__" := by
  unfold okName at h
  simp only [Bool.and_eq_true, decide_eq_true_eq] at h
  exact ⟨by simpa using h.1.1, by simpa using h.1.2, h.2⟩
theorem Good.slot (g : Good p cl k call Γ X) {x : Str} {i : Nat} (h : Γ.slot x = some i) : X.N[i]? = some x ∧ Vis X.env.scope x ∧ okName x = true := by
  unfold Cxt.slot at h
  split at h
  · rename_i hv
    simp only [Bool.and_eq_true] at hv
    refine ⟨by rw [g.N]; exact idx_get h, ?_, hv.2⟩
    rw [g.sc]
    have hv := hv.1
    unfold Vis
    cases e : Γ.sc.names.lookup x with
    | none => rw [e] at hv; simp [isVis] at hv
    | some q => rw [e] at hv; cases q <;> simp_all [isVis]
  · cases h
theorem Good.slotL (g : Good p cl k call Γ X) {x : Str} {i : Nat} (h : Γ.slotL x = some i) : X.N[i]? = some x ∧ L2.Loc X.env.scope x ∧ (X.fn x = true ∨ X.env.scope.names.lookup x = some .local) := by
  unfold Cxt.slotL at h
  split at h
  · rename_i hv
    simp only [Bool.and_eq_true] at hv
    refine ⟨by rw [g.N]; exact idx_get h, ?_, g.tg x hv.1 hv.2⟩
    rw [g.sc]
    have hv := hv.1
    unfold L2.Loc
    cases e : Γ.sc.names.lookup x with
    | none => rw [e] at hv; simp [isLoc] at hv
    | some q => rw [e] at hv; cases q <;> simp_all [isLoc]
  · cases h
theorem Good.glob (g : Good p cl k call Γ X) {x : Str} {v : GV} (h : Γ.glob x = some v) : Gl X x ∧ p.gl.lookup x = some v ∧ okName x = true := by
  unfold Cxt.glob at h
  split at h
  · rename_i hv
    simp only [Bool.and_eq_true] at hv
    refine ⟨?_, by rw [← g.gl]; exact h, hv.2⟩
    show X.env.scope.names.lookup x = _
    rw [g.sc]
    have hv := hv.1
    cases e : Γ.sc.names.lookup x with
    | none => rw [e] at hv; simp [isGl] at hv
    | some q => rw [e] at hv; cases q <;> simp_all [isGl]
  · cases h
/-- a comprehension's block -/
theorem Good.blk (g : Good p cl k call Γ X) {scope : Scope} (hb : L2.blkC Γ.N Γ.sc scope (ownOf Γ.N scope.names) = true) (s : Shared) (H : Hp) (C : Addr) (cs : List (Str × Addr)) (fp : List Addr) :
    Good p cl k call (Γ.blk scope) (X.blk s H scope (compEnvC scope cs C X.env) fp) := by
  have ok := blkOk_by hb
  have hsc : (compEnvC scope cs C X.env).scope = L2.relS scope X.env.scope := rfl
  refine ⟨g.N, by show (compEnvC scope cs C X.env).scope = _; rw [hsc, g.sc]; rfl, ok.kind, g.nd, g.calm, g.room, g.gl, g.ps, g.kw, g.subC, fun x h1 h2 => ?_, g.G, g.C⟩
  have h2' : isLoc (scope.names.lookup x) = true := h2
  cases e : scope.names.lookup x with
  | none => rw [e] at h2'; simp [isLoc] at h2'
  | some q =>
    rw [e] at h2'
    cases q with
    | cell => left; show (scope.names.lookup x == some .cell) = true; rw [e]; rfl
    | «local» =>
      right
      show (compEnvC scope cs C X.env).scope.names.lookup x = _
      rw [hsc]
      exact lookup_relS_keep (by decide) e
    | _ => simp [isLoc] at h2'

/-! ### calls of defs -/
theorem gl_call {i : Nat} {f : Def} {m : AM} {σ : L2.St} {H : Hp} {Q : VK} {K : PySem.W.Frag} (hl : ∀ ts S, ts.length ≠ f.ps.length → call i ts S = .stuck) (h : tO K cl W (cCall (call i) m) σ H Q) : tCallS (spF K cl f.ps.length (call i)) (WE W) (tOA K cl W m) σ H Q := by
  obtain ⟨L, τ, S, rs, rl, h⟩ := h
  refine ⟨L, τ, S, rs, rl, ResR.bind h fun xs S1 L1 H1 z1 e1 r1 p1 h1 => ?_⟩
  refine ⟨?_, L1, S1, xs, r1, p1, h1⟩
  by_cases e : xs.length = f.ps.length
  · rw [← p1.length]; exact e
  · rw [hl xs S1 e] at h1; exact h1.elim
theorem kw_rel {K : PySem.W.Frag} {L : List Addr} {H : Hp} : ∀ {ks : List Str} {ys : List T} {vs : List V} {p : Str} {v : T}, Rps K cl L H ys vs → kwAt ks ys p = some v → Rp K cl L H v (pick V.non ks vs p)
  | [], _, _, _, _, _, e => by simp [kwAt] at e
  | k :: ks, [], _, _, _, _, e => by simp [kwAt] at e
  | k :: ks, y :: ys, _, p, v, .cons h t, e => by
    unfold kwAt at e
    unfold pick
    split at e
    · rename_i hk; cases e; rw [if_pos hk]; exact h
    · rename_i hk; rw [if_neg hk]; exact kw_rel t e
theorem kwAll_rel {K : PySem.W.Frag} {L : List Addr} {H : Hp} {ks : List Str} {ys : List T} {vs : List V} (r : Rps K cl L H ys vs) : ∀ {ps : List Str} {zs : List T}, kwAll ks ys ps = some zs → Rps K cl L H zs (ps.map (pick V.non ks vs))
  | [], _, e => by simp [kwAll] at e; subst e; exact .nil
  | p :: ps, zs, e => by
    unfold kwAll at e
    split at e
    · rename_i v w h1 h2
      cases e
      exact .cons (kw_rel r h1) (kwAll_rel r h2)
    · cases e
theorem gl_callK {i : Nat} {f : Def} {ks : List Str} {a kk : AM} {n : Nat} {σ : L2.St} {H : Hp} {Q : VK} {K : PySem.W.Frag} (hl : ∀ ts S, ts.length ≠ f.ps.length → call i ts S = .stuck)
    (la : ∀ τ S xs S', a τ S = .ok xs S' → xs.length = n) (lk : ∀ τ S xs S', kk τ S = .ok xs S' → xs.length = ks.length) (h : tO K cl W (cCallK (call i) f.ps ks a kk) σ H Q) :
    (fun σ H Q => tOA K cl W a σ H fun vs H1 => tOA K cl W kk σ H1 fun zs H2 => spF K cl f.ps.length (call i) (gArg V.non f.ps ks n vs zs) H2 Q (WE W σ)) σ H Q := by
  obtain ⟨L, τ, S, rs, rl, h⟩ := h
  refine ⟨L, τ, S, rs, rl, ?_⟩
  unfold cCallK at h
  cases ea : a τ S with
  | stuck => rw [ea] at h; exact h
  | exc c v S1 => rw [ea] at h; exact h
  | ok xs S1 =>
    rw [ea] at h
    simp only [R.bind_ok] at h
    intro L1 H1 z1 e1 r1 p1
    refine ⟨L1, τ, S1, r1, rl.mono e1, ?_⟩
    have h := ResR.mono h e1
    cases ek : kk τ S1 with
    | stuck => rw [ek] at h; exact h
    | exc c v S2 => rw [ek] at h; exact h
    | ok ys S2 =>
      rw [ek] at h
      simp only [R.bind_ok] at h
      intro L2' H2 z2 e2 r2 p2
      have h := ResR.mono h e2
      split at h
      · rename_i zs hz
        have l1 := la _ _ _ _ ea
        have l2 := lk _ _ _ _ ek
        have q1 := p1.mono e2
        have eg : gArg V.non f.ps ks n z1 z2 = z1 ++ (f.ps.drop n).map (pick V.non ks z2) := by
          unfold gArg
          rw [if_pos ⟨by rw [← p1.length]; exact l1, by rw [← p2.length]; exact l2⟩]
        have rel : Rps K cl L2' H2 (xs ++ zs) (gArg V.non f.ps ks n z1 z2) := by
          rw [eg, ← l1]
          exact q1.append (kwAll_rel p2 hz)
        refine ⟨?_, L2', S2, xs ++ zs, r2, rel, h⟩
        by_cases e : (xs ++ zs).length = f.ps.length
        · rw [← rel.length]; exact e
        · rw [hl _ S2 e] at h; exact h.elim
      · exact h.elim
theorem denA_len : ∀ {d : Nat} {Γ : Cxt} {es : List Expr} {τ : Loc} {S : Store} {xs : List T} {S' : Store}, denA call d Γ es τ S = .ok xs S' → xs.length = es.length
  | 0, _, _, _, _, _, _, h => by simp [denA, cStuck] at h
  | d + 1, Γ, [], τ, S, xs, S', h => by
    simp only [denA, aNil] at h
    cases h; rfl
  | d + 1, Γ, e :: es, τ, S, xs, S', h => by
    simp only [denA] at h
    split at h
    · cases h
    · unfold aCons at h
      cases e1 : denE call d Γ e τ S with
      | stuck => rw [e1] at h; cases h
      | exc c v S1 => rw [e1] at h; cases h
      | ok x S1 =>
        rw [e1] at h
        simp only [R.bind_ok] at h
        cases e2 : denA call d Γ es τ S1 with
        | stuck => rw [e2] at h; cases h
        | exc c v S2 => rw [e2] at h; cases h
        | ok ys S2 =>
          rw [e2] at h
          simp only [R.bind_ok] at h
          cases h
          rw [List.length_cons, List.length_cons, denA_len e2]
theorem denK_len : ∀ {d : Nat} {Γ : Cxt} {es : List Keyword} {τ : Loc} {S : Store} {xs : List T} {S' : Store}, denK call d Γ es τ S = .ok xs S' → xs.length = es.length
  | 0, _, _, _, _, _, _, h => by simp [denK, cStuck] at h
  | d + 1, Γ, [], τ, S, xs, S', h => by
    simp only [denK, aNil] at h
    cases h; rfl
  | d + 1, Γ, ⟨n, e, ps⟩ :: es, τ, S, xs, S', h => by
    simp only [denK] at h
    split at h
    · cases h
    · unfold aCons at h
      cases e1 : denE call d Γ e τ S with
      | stuck => rw [e1] at h; cases h
      | exc c v S1 => rw [e1] at h; cases h
      | ok x S1 =>
        rw [e1] at h
        simp only [R.bind_ok] at h
        cases e2 : denK call d Γ es τ S1 with
        | stuck => rw [e2] at h; cases h
        | exc c v S2 => rw [e2] at h; cases h
        | ok ys S2 =>
          rw [e2] at h
          simp only [R.bind_ok] at h
          cases h
          rw [List.length_cons, List.length_cons, denK_len e2]
theorem kwNames_len : ∀ {ks : List Keyword} {ns : List Str}, kwNames ks = some ns → ns.length = ks.length
  | [], _, h => by simp [kwNames] at h; subst h; rfl
  | ⟨some k, e, ps⟩ :: r, ns, h => by
    simp only [kwNames, Option.map_eq_some_iff] at h
    obtain ⟨q, h1, rfl⟩ := h
    rw [List.length_cons, List.length_cons, kwNames_len h1]
  | ⟨none, e, ps⟩ :: r, ns, h => by simp [kwNames] at h
theorem denGs_len : ∀ {d : Nat} {Γ : Cxt} {es : List Expr} {xs : List T} {τ τ' : Loc}, denGs call d Γ es xs τ = some τ' → xs.length = es.length
  | 0, _, _, _, _, _, h => by simp [denGs] at h
  | d + 1, Γ, [], xs, τ, τ', h => by
    simp only [denGs, EV.gNil] at h
    split at h
    · rfl
    · cases h
  | d + 1, Γ, e :: es, xs, τ, τ', h => by
    simp only [denGs] at h
    split at h
    · cases h
    · unfold EV.gCons at h
      split at h
      · rename_i x xs
        cases e1 : denG call d Γ e x τ with
        | none => rw [e1] at h; cases h
        | some τ1 =>
          rw [e1] at h
          rw [List.length_cons, List.length_cons, denGs_len (show denGs call d Γ es xs τ1 = some τ' from h)]
      · cases h
end
end EV
end
section
set_option Elab.async false
set_option linter.all false
set_option maxRecDepth 100000
set_option maxHeartbeats 4000000
set_option autoImplicit false
namespace EV
open PySem PySem.Spec PyProof.Rows L2
section
variable {X : Cx} {k : Nat} {f : Addr} {fd : FuncData} {ps ks : List Str} {sp : Sp} {E : L2.St → XK} {x : Str} {q pos : Pos} {e : Expr} {es : List Expr} {t tk : TA} {kws : List Keyword} {CX : CXT} {g : List Value → List Value → List Value} {gV : List V → List V → List V}
/-! ### a call with keywords -/
theorem run_fnKS {pins : List (Addr × Obj)} {σ : L2.St} {H : Hp} {s : Shared} {Q : VK} {us ws : List Value} {vs zs : List V} (F : FnOk X.prog X.w X.K X.mg X.base CX k f fd ps sp) (hr : Room k X.A) (hb : KBinds X.K fd ps ks g gV) (hx : PassesAt CX X σ (E σ))
    (I : Inv X pins σ H s) (r : Vals vs us) (rz : Vals zs ws) (h : sp (gV vs zs) H Q (E σ)) : wpAny (model X.prog X.w) X.A (call (.ref f) us (ks.zip ws)) (EP X pins σ Q) X.xe s := by
  have rg := hb.rel r rz
  have hl : (g us ws).length = ps.length := by rw [← rg.length]; exact F.len _ _ _ _ h
  refine wpAny_call (codeAny_mono (F.run X.A X.stack s H ⟨us, ks.zip ws⟩ (g us ws) (gV vs zs) Q (E σ) hr I.env0 (hb.to s us ws I.kIn hl) rg h) fun r s' hq => ?_)
  cases r with
  | error e => exact hx pins H s e s' I hq
  | ok fl =>
    cases fl with
    | ret u => exact I.after hq
    | next => exact False.elim hq
    | brk => exact False.elim hq
    | cont => exact False.elim hq
theorem kw_some : ∀ {kws : List Keyword} {ks : List Str} {env : Env}, kwNames kws = some ks → (keywordEach kws env).all (·.1.isSome) = true ∧ (keywordEach kws env).filterMap (·.1) = ks ∧ (keywordEach kws env).any (·.1.isNone) = false
  | [], _, _, h => by simp [kwNames] at h; subst h; exact ⟨rfl, rfl, rfl⟩
  | ⟨some n, e, ps⟩ :: r, ns, env, h => by
    simp only [kwNames, Option.map_eq_some_iff] at h
    obtain ⟨q, h1, rfl⟩ := h
    obtain ⟨a, b, c⟩ := kw_some (env := env) h1
    simp only [keywordEach, List.all_cons, List.filterMap_cons, List.any_cons, a, b, c]
    exact ⟨rfl, trivial, rfl⟩
  | ⟨none, e, ps⟩ :: r, ns, env, h => by simp [kwNames] at h
theorem backKw_map {pos : Pos} (ts : List (Option Str × Sem Value)) : (backToKw pos ts).map (·.1) = ts.map (·.1) := by
  unfold backToKw
  rw [List.map_map]
  rfl
theorem backKw {pos : Pos} {env : Env} (h : kwNames kws = some ks) : (backToKw pos (keywordEach kws env)).all (·.1.isSome) = true ∧ (backToKw pos (keywordEach kws env)).filterMap (·.1) = ks ∧ (backToKw pos (keywordEach kws env)).any (·.1.isNone) = false := by
  obtain ⟨a, b, c⟩ := kw_some (env := env) h
  unfold backToKw
  rw [List.all_map, List.filterMap_map, List.any_map]
  exact ⟨a, b, c⟩
theorem pe_callKS0 (F : FnOk X.prog X.w X.K X.mg X.base CX k f fd ps sp) (hr : Room k X.A) (hg : Gl X x) (hm : X.mg x = some (.ref f)) (hk : PySem.W.keepIn X.K (.ref f) = true) (hb : KBinds X.K fd ps ks g gV) (hx : ∀ σ, PassesAt CX X σ (E σ))
    (hkw : PK X kws tk) (hn : kwNames kws = some ks) (hdb : (x == ("__debug__" : Str)) = false) :
    PE X (.Call (.Name x q) [] kws pos) (fun σ H Q => tk σ H fun zs H2 => sp (gV [] zs) H2 Q (E σ)) := by
  refine ⟨fun pins s σ H Q I h => ?_⟩
  obtain ⟨b1, b2, b3⟩ := backKw (pos := pos) (env := X.env) hn
  refine wpAny_Call_Name_kw (ld_glob I hg hm ?_ hdb)
  refine PySem.W.callWith_KW0 (h₀ := X.base) I.ok.mod.kin hk b1 ?_ (by rw [b3]; rfl)
  refine thn (hkw.run pos pins s σ H _ I h) fun ws s2 ⟨zs, H2, I2, rz, q2⟩ => ⟨I2.kIn, ?_⟩
  rw [b2]
  exact run_fnKS F hr hb (hx σ) I2 (us := []) .nil rz q2
theorem pe_callKS (F : FnOk X.prog X.w X.K X.mg X.base CX k f fd ps sp) (hr : Room k X.A) (hg : Gl X x) (hm : X.mg x = some (.ref f)) (hk : PySem.W.keepIn X.K (.ref f) = true) (hb : KBinds X.K fd ps ks g gV) (hx : ∀ σ, PassesAt CX X σ (E σ))
    (ha : PA X (e :: es) t) (hkw : PK X kws tk) (hn : kwNames kws = some ks) (hs : (e :: es).any isStar = false) (hdb : (x == ("__debug__" : Str)) = false) :
    PE X (.Call (.Name x q) (e :: es) kws pos) (fun σ H Q => t σ H fun vs H1 => tk σ H1 fun zs H2 => sp (gV vs zs) H2 Q (E σ)) := by
  refine ⟨fun pins s σ H Q I h => ?_⟩
  obtain ⟨b1, b2, b3⟩ := backKw (pos := pos) (env := X.env) hn
  refine wpAny_Call_Name_kw (ld_glob I hg hm ?_ hdb)
  simp only [List.any_cons, Bool.or_eq_false_iff] at hs
  refine PySem.W.callWith_KW (h₀ := X.base) I.ok.mod.kin hk b1 (thn (ha.run pos pins s σ H _ I h) fun us s1 ⟨vs, H1, I1, r, q⟩ => ?_) (by rw [star_cons hs.1, b3, Bool.or_false]; show (false || (backTo pos (starEach es X.env)).any (·.1)) = false; rw [back_star hs.2]; rfl) (star_cons hs.1 es X.env)
  refine thn (hkw.run pos pins s1 σ H1 _ I1 q) fun ws s2 ⟨zs, H2, I2, rz, q2⟩ => ⟨I2.kIn, ?_⟩
  rw [b2]
  exact run_fnKS F hr hb (hx σ) I2 r rz q2
end

/-! ### isinstance -/
section
variable {p : Prog} {cl : Nat → Addr} {W : WX}
def tyStr : Ty → String
  | .int => "int" | .bool => "bool" | .str => "str" | .list => "list" | .tuple => "tuple" | .dict => "dict" | .cls _ => "" | .verr => "ValueError"
def tyU (cl : Nat → Addr) : Ty → Value
  | .cls i => .ref (cl i)
  | t => .type (tyStr t)
def tyC (cl : Nat → Addr) : Ty → V
  | .cls i => .ref (cl i)
  | t => .ty (tyStr t)
theorem tyCls (t : Ty) : ClsV (tyC cl t) (tyU cl t) := by cases t <;> first | exact .ty _ | exact .own _
/-- a value's type; exceptions of one's own, too -/
inductive TyY (K : PySem.W.Frag) (H : Hp) : V → Value → Prop where
  | base {x : V} {t : Value} (h : TyX K H x t) : TyY K H x t
  | ex {C d a : Addr} {y : V} (h : H a = some (ExH C d a)) (hd : H d = some (.xd [(("value" : Str), y)])) (k : ExcC K C) : TyY K H (.ref a) (.ref C)
section
variable {X : Cx} {pins : List (Addr × Obj)} {σ : L2.St} {H : Hp} {s : Shared}
theorem kit_ofY {x : V} {u t : Value} (I : Inv X pins σ H s) (rx : RelV x u) (ty : TyY X.K H x t) : ∃ P : Heap → Prop, PySem.W.KitX X.K u t P ∧ P s.heap ∧ u ≠ .builtin "__main__.__loader__#opaque" := by
  cases ty with
  | base b => exact kit_of I rx b
  | @ex C d a y h hd ec =>
    cases (show u = Value.ref a from rx)
    obtain ⟨⟨oe, vs, at1, z1, dt1⟩, _⟩ : ObjOk X.prog X.w H s.heap a (ExH C d a) := I.hok a _ h
    obtain ⟨mA, hns, _⟩ : ObjOk X.prog X.w H s.heap d (.xd [(("value" : Str), y)]) := I.hok d _ hd
    obtain ⟨od, ho, _⟩ := lookIn_ns hns
    obtain ⟨cd, hc, _⟩ := PySem.W.any_some ec.hd
    exact ⟨_, PySem.W.kitx_exc (ox := oe) (od := some od) (by rw [hc]; rfl) ec.hg ec.hk ec.hs ec.ha ec.hn ec.ht ec.hm, ⟨at1, z1.1, by unfold PySem.W.notCls; rw [dt1] <;> rfl, by rw [z1.2]; exact ho⟩, fun z => nomatch z⟩
end
def rIsiY (K : PySem.W.Frag) : List V → Hp → VK → Prop := fun xs H Q => ∃ (x c : V) (t u : Value) (b : Bool), xs = [x, c] ∧ ClsV c u ∧ TyY K H x t ∧ PySem.W.kitOne K t u = some b ∧ Q (.bl b) H
def rIsiTY (K : PySem.W.Frag) : List V → Hp → VK → Prop := fun xs H Q => ∃ (x : V) (tp : Addr) (cs : List V) (t : Value) (us : List Value) (b : Bool), xs = [x, .ref tp] ∧ H tp = some (.tup cs) ∧ Paired ClsV cs us ∧ TyY K H x t ∧ PySem.W.kitAny K t us = some b ∧ Q (.bl b) H
theorem call_isiY {X : Cx} : CallR X (.builtin "isinstance") (rIsiY X.K) := fun pins s σ H xs us Q I r h => by
  obtain ⟨x, y, tx, uy, ans, rfl, ky, hx, e, q⟩ := h
  obtain ⟨w1, w2, rfl, r1, r2⟩ := vals2 r
  cases ky.eq r2
  obtain ⟨PP, Z, pp, ne⟩ := kit_ofY I r1 hx
  exact PySem.W.kia_one Z I.kIn pp e ne fun n => ⟨.bl ans, H, I.tok n, rfl, q⟩
theorem call_isiTY {X : Cx} : CallR X (.builtin "isinstance") (rIsiTY X.K) := fun pins s σ H xs us Q I r h => by
  obtain ⟨x, tp, ys, tx, ws, ans, rfl, hT, ky, hx, e, q⟩ := h
  obtain ⟨w1, w2, rfl, r1, r2⟩ := vals2 r
  cases (show w2 = Value.ref tp from r2)
  obtain ⟨PP, Z, pp, ne⟩ := kit_ofY I r1 hx
  obtain ⟨_, its, rv, o, q1, q2, n, q3⟩ := (show ObjOk X.prog X.w H s.heap tp (.tup ys) from I.hok tp _ hT)
  cases ClsV.all ky rv
  obtain ⟨oc, od, dt, sl⟩ := o
  simp only at q2 q3
  subst q2 q3
  exact PySem.W.kia_tup Z I.kIn pp q1 e ne fun n => ⟨.bl ans, H, I.tok n, rfl, q⟩
/-- what a class that is asked for must say -/
structure IsK (K : PySem.W.Frag) (cl : Nat → Addr) (subC : Nat → Nat → Bool) (ty : Ty) : Prop where
  nn : ∀ i, ty = .cls i → PySem.W.kitOne K (.type "NoneType") (.ref (cl i)) = some false
  ks : ∀ i, ty = .cls i → ∀ c, PySem.W.kitOne K (.ref (cl c)) (.ref (cl i)) = some (subC c i)
  kv : ∀ c, PySem.W.kitOne K (.ref (cl c)) (.type "ValueError") = some true
  ec : ∀ c, ExcC K (cl c)
/-- the kinds that a tree has -/
def kindStr (S : Store) : T → Option String
  | .non => some "NoneType" | .bl _ => some "bool" | .int _ => some "int" | .str _ => some "str" | .tup _ => some "tuple" | .frl _ => some "list"
  | .loc n => (match S[n]? with
    | some (.lst _) => some "list"
    | some (.dict _) => some "dict"
    | _ => none)
  | _ => none
def kindV (cl : Nat → Addr) (S : Store) : T → Option Value
  | .ex c _ => some (.ref (cl c))
  | t => (kindStr S t).map .type
theorem kind_ty {K : PySem.W.Frag} {L : List Addr} {H : Hp} {S : Store} {t : T} {x : V} {n : String} (rs : RS K cl L H S) (p : Rp K cl L H t x) (h : kindStr S t = some n) : TyX K H x (.type n) := by
  cases p with
  | non => cases h; exact .base .non
  | bl b => cases h; exact .base (.bl b)
  | int i => cases h; exact .base (.int i)
  | str z => cases h; exact .base (.str z)
  | tup ta ra =>
    cases h
    rcases ta with e | ⟨o, its, n, e, c, _⟩
    · exact .base (.tup e)
    · exact .kTuple e c
  | frl ta ra =>
    cases h
    rcases ta with ⟨o, e⟩ | ⟨o, its, n, e, c, _⟩
    · exact .base (.frz e)
    · exact .kList e c
  | loc hl =>
    simp only [kindStr] at h
    split at h
    · rename_i xs e
      cases h
      obtain ⟨vs, q, _⟩ := lst_of rs e hl
      exact .base (.lst q)
    · rename_i kvs e
      cases h
      obtain ⟨_, ws, q, _⟩ := rs.get e hl
      exact .base (.dK q)
    · cases h
  | _ => cases h
theorem kindV_ty {K : PySem.W.Frag} {L : List Addr} {H : Hp} {S : Store} {t : T} {x : V} {n : Value} (ec : ∀ c, ExcC K (cl c)) (rs : RS K cl L H S) (p : Rp K cl L H t x) (h : kindV cl S t = some n) : TyY K H x n := by
  have gen : (kindStr S t).map Value.type = some n → TyY K H x n := fun h => by
    rw [Option.map_eq_some_iff] at h
    obtain ⟨m, h1, rfl⟩ := h
    exact .base (kind_ty rs p h1)
  cases p with
  | ex ha hd r => cases h; exact .ex ha hd (ec _)
  | _ => exact gen h
def kitTab : Bool := ["NoneType", "bool", "int", "str", "tuple", "list", "dict"].all fun a => ["int", "bool", "str", "list", "tuple", "dict", "ValueError"].all fun b => kitB a b == some (a == b || (a == "bool" && b == "int"))
theorem kitTab_ok : kitTab = true := by decide +kernel
theorem kit_at {a b : String} (ha : a ∈ ["NoneType", "bool", "int", "str", "tuple", "list", "dict"]) (hb : b ∈ ["int", "bool", "str", "list", "tuple", "dict", "ValueError"]) : kitB a b = some (a == b || (a == "bool" && b == "int")) := by
  have h := kitTab_ok
  unfold kitTab at h
  rw [List.all_eq_true] at h
  have h1 := h a ha
  rw [List.all_eq_true] at h1
  simpa using h1 b hb
theorem is_ty {K : PySem.W.Frag} {subC : Nat → Nat → Bool} {L : List Addr} {H : Hp} {S : Store} {t : T} {x : V} {ty : Ty} {b : Bool} (nn : IsK K cl subC ty) (rs : RS K cl L H S) (p : Rp K cl L H t x) (h : isTy subC S t ty = some b) :
    ∃ n, kindV cl S t = some n ∧ PySem.W.kitOne K n (tyU cl ty) = some b := by
  have gen : ∀ {n : String}, kindV cl S t = some (.type n) → n ∈ ["NoneType", "bool", "int", "str", "tuple", "list", "dict"] → (∀ i, ty ≠ .cls i) → (n == tyStr ty || (n == "bool" && tyStr ty == "int")) = b → ∃ n, kindV cl S t = some n ∧ PySem.W.kitOne K n (tyU cl ty) = some b := fun {n} hk hn nc e => by
    have hm : tyStr ty ∈ ["int", "bool", "str", "list", "tuple", "dict", "ValueError"] := by cases ty <;> first | (simp [tyStr]; done) | exact absurd rfl (nc _)
    have hu : tyU cl ty = .type (tyStr ty) := by cases ty <;> first | rfl | exact absurd rfl (nc _)
    exact ⟨_, hk, by rw [hu]; exact kit_ty (by rw [kit_at hn hm, e])⟩
  cases p with
  | non =>
    cases ty with
    | cls i => simp [isTy] at h; subst h; exact ⟨_, rfl, nn.nn i rfl⟩
    | _ => simp [isTy] at h; subst h; exact gen rfl (by simp) (by intro i e; cases e) (by decide)
  | bl _ => cases ty <;> first | (simp [isTy] at h; done) | (simp [isTy] at h; subst h; exact gen rfl (by simp) (by intro i e; cases e) (by decide))
  | int _ => cases ty <;> first | (simp [isTy] at h; done) | (simp [isTy] at h; subst h; exact gen rfl (by simp) (by intro i e; cases e) (by decide))
  | str _ => cases ty <;> first | (simp [isTy] at h; done) | (simp [isTy] at h; subst h; exact gen rfl (by simp) (by intro i e; cases e) (by decide))
  | tup ta ra => cases ty <;> first | (simp [isTy] at h; done) | (simp [isTy] at h; subst h; exact gen rfl (by simp) (by intro i e; cases e) (by decide))
  | frl ta ra => cases ty <;> first | (simp [isTy] at h; done) | (simp [isTy] at h; subst h; exact gen rfl (by simp) (by intro i e; cases e) (by decide))
  | ex ha hd r =>
    cases ty with
    | cls i => simp [isTy] at h; subst h; exact ⟨_, rfl, nn.ks i rfl _⟩
    | verr => simp [isTy] at h; subst h; exact ⟨_, rfl, nn.kv _⟩
    | _ => simp [isTy] at h
  | loc hl =>
    rename_i n a
    cases e : S[n]? with
    | none => cases ty <;> simp [isTy, e] at h
    | some o =>
      cases o with
      | lst xs =>
        have k2 : kindV cl S (.loc n) = some (.type "list") := by simp [kindV, kindStr, e]
        cases ty <;> simp [isTy, e] at h <;> (subst h; exact gen k2 (by simp) (by intro i e; cases e) (by decide))
      | dict xs =>
        have k2 : kindV cl S (.loc n) = some (.type "dict") := by simp [kindV, kindStr, e]
        cases ty <;> simp [isTy, e] at h <;> (subst h; exact gen k2 (by simp) (by intro i e; cases e) (by decide))
      | sset xs => cases ty <;> simp [isTy, e] at h
  | _ => cases ty <;> simp [isTy] at h
theorem gl_isi {K : PySem.W.Frag} {subC : Nat → Nat → Bool} {m : EM} {ty : Ty} {σ : L2.St} {H : Hp} {Q : VK} (nn : IsK K cl subC ty) (h : tO K cl W (cIsI subC m ty) σ H Q) :
    tCB (rIsiY K) (tCons (tO K cl W m) (tCons (tC (tyC cl ty)) tNil)) σ H Q := by
  obtain ⟨L, τ, S, rs, rl, h⟩ := h
  refine ⟨L, τ, S, rs, rl, ResR.bind h fun x S1 L1 H1 z1 e1 r1 p1 h1 => ?_⟩
  split at h1
  · rename_i b e
    obtain ⟨n, t1, t2⟩ := is_ty nn r1 p1 e
    exact ⟨z1, tyC cl ty, _, tyU cl ty, b, rfl, tyCls ty, kindV_ty nn.ec r1 p1 t1, t2, h1 _ _ _ (Ext.refl _ _) r1 (.bl b)⟩
  · exact h1.elim
theorem is_tys {K : PySem.W.Frag} {subC : Nat → Nat → Bool} {L : List Addr} {H : Hp} {S : Store} {t : T} {x : V} (rs : RS K cl L H S) (p : Rp K cl L H t x) {n : Value} (hk : kindV cl S t = some n) : ∀ {tys : List Ty} {b : Bool}, (∀ ty ∈ tys, IsK K cl subC ty) →
    isTys subC S t tys = some b → PySem.W.kitAny K n (tys.map (tyU cl)) = some b
  | [], b, _, h => by simp [isTys] at h; subst h; rfl
  | ty :: r, b, nn, h => by
    unfold isTys at h
    split at h
    · rename_i a c e1 e2
      cases h
      obtain ⟨n', k2, t2⟩ := is_ty (nn ty List.mem_cons_self) rs p e1
      rw [hk] at k2; cases k2
      have ih := is_tys rs p hk (fun ty h => nn ty (List.mem_cons_of_mem _ h)) e2
      refine kitAny_cons t2 (fun ha => ?_) (fun ha => ?_)
      · rw [ih, ha]; rfl
      · rw [ha]; rfl
    · cases h
theorem is_tys_kind {subC : Nat → Nat → Bool} {S : Store} {t : T} {tys : List Ty} {b : Bool} (hne : tys ≠ []) (h : isTys subC S t tys = some b) : ∃ n, kindV cl S t = some n := by
  cases tys with
  | nil => exact absurd rfl hne
  | cons ty r =>
    unfold isTys at h
    split at h
    · rename_i a c e1 e2
      cases t with
      | loc n =>
        simp only [kindV, kindStr]
        cases e : S[n]? with
        | none => cases ty <;> simp [isTy, e] at e1
        | some o => cases o with
          | lst _ => exact ⟨_, rfl⟩
          | dict _ => exact ⟨_, rfl⟩
          | sset _ => cases ty <;> simp [isTy, e] at e1
      | rng _ _ => cases ty <;> simp [isTy] at e1
      | clo _ _ => cases ty <;> simp [isTy] at e1
      | _ => exact ⟨_, rfl⟩
    · cases h
theorem paired_cls : ∀ tys : List Ty, Paired ClsV (tys.map (tyC cl)) (tys.map (tyU cl))
  | [] => .nil
  | t :: r => .cons (tyCls t) (paired_cls r)
def tConsts : List V → TA := fun vs _ H Q => Q vs H
theorem gl_isis {K : PySem.W.Frag} {subC : Nat → Nat → Bool} {m : EM} {tys : List Ty} {σ : L2.St} {H : Hp} {Q : VK} (hne : tys ≠ []) (hz : tys.length ≤ sizeLine) (nn : ∀ ty ∈ tys, IsK K cl subC ty) (h : tO K cl W (cIsIs subC m tys) σ H Q) :
    tCB (rIsiTY K) (tCons (tO K cl W m) (tCons (tTup (tConsts (tys.map (tyC cl)))) tNil)) σ H Q := by
  obtain ⟨L, τ, S, rs, rl, h⟩ := h
  refine ⟨L, τ, S, rs, rl, ResR.bind h fun x S1 L1 H1 z1 e1 r1 p1 h1 => ?_⟩
  split at h1
  · rename_i b e
    refine ⟨by rw [List.length_map]; exact hz, fun tp htp => ?_⟩
    obtain ⟨e2, r2⟩ := r1.new (u := .tup (tys.map (tyC cl))) htp
    obtain ⟨n, hk⟩ := is_tys_kind (cl := cl) hne e
    obtain ⟨t0, ht0⟩ := List.exists_mem_of_ne_nil _ hne
    exact ⟨z1, tp, tys.map (tyC cl), _, tys.map (tyU cl), b, rfl, upd_same, paired_cls tys, kindV_ty (nn t0 ht0).ec r2 (p1.mono e2) hk, is_tys r1 p1 hk nn e, h1 _ _ _ e2 r2 (.bl b)⟩
  · exact h1.elim
end
end EV
end
section
set_option Elab.async false
set_option linter.all false
set_option maxRecDepth 100000
set_option maxHeartbeats 8000000
set_option autoImplicit false
namespace EV
open PySem PySem.Spec PyProof.Rows L2
section
variable {X : Cx}
theorem pe_imp {e : Expr} {t t' : TE} (h : PE X e t) (i : ∀ σ H Q, t' σ H Q → t σ H Q) : PE X e t' := ⟨fun pins s σ H Q I q => h.run pins s σ H Q I (i σ H Q q)⟩
theorem pt_imp {e : Expr} {t t' : TT} (h : PT X e t) (i : ∀ σ H Q, t' σ H Q → t σ H Q) : PT X e t' := ⟨fun pins s σ H Q I q => h.run pins s σ H Q I (i σ H Q q)⟩
theorem pw_imp {e : Expr} {t t' : TT} (h : PW X e t) (i : ∀ σ H Q, t' σ H Q → t σ H Q) : PW X e t' := ⟨fun wh pins s σ H Q I q => h.run wh pins s σ H Q I (i σ H Q q)⟩
theorem pa_imp {es : List Expr} {t t' : TA} (h : PA X es t) (i : ∀ σ H Q, t' σ H Q → t σ H Q) : PA X es t' := ⟨fun pos pins s σ H Q I q => h.run pos pins s σ H Q I (i σ H Q q)⟩
theorem pk_imp {es : List Keyword} {t t' : TA} (h : PK X es t) (i : ∀ σ H Q, t' σ H Q → t σ H Q) : PK X es t' := ⟨fun pos pins s σ H Q I q => h.run pos pins s σ H Q I (i σ H Q q)⟩
theorem po_imp {e : Option Expr} {t t' : TO} (h : PO X e t) (i : ∀ σ H Q, t' σ H Q → t σ H Q) : PO X e t' := ⟨fun pins s σ H Q I q => h.run pins s σ H Q I (i σ H Q q)⟩
theorem pts_imp {es : List Expr} {t t' : TT} (h : PTs X es t) (i : ∀ σ H Q, t' σ H Q → t σ H Q) : PTs X es t' := ⟨fun pins s σ H Q I q => h.run pins s σ H Q I (i σ H Q q)⟩
theorem pg_imp {e : Expr} {t t' : TG} (h : PG X e t) (i : ∀ v σ H Q, t' v σ H Q → t v σ H Q) : PG X e t' := ⟨fun pins s σ H v u Q I r q => h.run pins s σ H v u Q I r (i v σ H Q q)⟩
theorem pgs_imp {es : List Expr} {t t' : TGs} (h : PGs X es t) (i : ∀ v σ H Q, t' v σ H Q → t v σ H Q) : PGs X es t' := ⟨fun pins s σ H v u Q I r q => h.run pins s σ H v u Q I r (i v σ H Q q)⟩
theorem pi_imp' {tg e : Expr} {t t' : TI} (h : PI X tg e t) (i : ∀ σ H Q, t' σ H Q → t σ H Q) : PI X tg e t' := ⟨fun pins s σ H Q I q => h.run pins s σ H Q I (i σ H Q q)⟩
theorem pe_stuck {e : Expr} {cl : Nat → Addr} {W : WX} : PE X e (tO X.K cl W cStuck) := ⟨fun pins s σ H Q I q => (gl_stuck q).elim⟩
theorem pt_stuck {e : Expr} {cl : Nat → Addr} {W : WX} : PT X e (tOT X.K cl W cStuck) := ⟨fun pins s σ H Q I q => by obtain ⟨L, τ, S, _, _, h⟩ := q; exact h.elim⟩
theorem pw_stuck {e : Expr} {cl : Nat → Addr} {W : WX} : PW X e (tOT X.K cl W cStuck) := ⟨fun wh pins s σ H Q I q => by obtain ⟨L, τ, S, _, _, h⟩ := q; exact h.elim⟩
theorem pa_stuck {e : List Expr} {cl : Nat → Addr} {W : WX} : PA X e (tOA X.K cl W cStuck) := ⟨fun pos pins s σ H Q I q => by obtain ⟨L, τ, S, _, _, h⟩ := q; exact h.elim⟩
theorem pk_stuck {e : List Keyword} {cl : Nat → Addr} {W : WX} : PK X e (tOA X.K cl W cStuck) := ⟨fun pos pins s σ H Q I q => by obtain ⟨L, τ, S, _, _, h⟩ := q; exact h.elim⟩
theorem po_stuck {e : Option Expr} {cl : Nat → Addr} {W : WX} : PO X e (tOO X.K cl W cStuck) := ⟨fun pins s σ H Q I q => by obtain ⟨L, τ, S, _, _, h⟩ := q; exact h.elim⟩
theorem pts_stuck {e : List Expr} {cl : Nat → Addr} {W : WX} : PTs X e (tOT X.K cl W cStuck) := ⟨fun pins s σ H Q I q => by obtain ⟨L, τ, S, _, _, h⟩ := q; exact h.elim⟩
theorem pi_stuck {tg e : Expr} {cl : Nat → Addr} {W : WX} : PI X tg e (iO X.K cl W cStuck) := ⟨fun pins s σ H Q I q => by obtain ⟨L, τ, S, _, _, h⟩ := q; exact h.elim⟩
theorem pg_none {e : Expr} {cl : Nat → Addr} {ws : List Nat} : PG X e (gO X.K cl ws fun _ _ => none) := ⟨fun pins s σ H v u Q I r q => by obtain ⟨L, τ, S, t, τ', _, _, _, h, _⟩ := q; cases h⟩
theorem pgs_none {e : List Expr} {cl : Nat → Addr} {ws : List Nat} : PGs X e (gsO X.K cl ws fun _ _ => none) := ⟨fun pins s σ H v u Q I r q => by obtain ⟨L, τ, S, t, τ', _, _, _, h, _⟩ := q; cases h⟩
theorem pe_cst {e : Expr} {cl : Nat → Addr} {W : WX} {v : T} {x : V} (h : PE X e (tC x)) (r : ∀ L H, Rp X.K cl L H v x) : PE X e (tO X.K cl W (cK v)) := pe_imp h fun _ _ _ q => gl_k r q
theorem attr_base {o : Expr} (h : isCall0 o = false) (name : Str) (env : Env) (whole : Sem Value) : attributeBase o name env whole = whole := by
  unfold attributeBase
  split
  · simp [isCall0] at h
  · rfl
theorem not_set {op : CmpOp} {b : Expr} (h : isSetE b = false) : behindInMarks op b = false := by cases b <;> first | rfl | (simp [isSetE] at h)
theorem pa_two {e : Expr} {te : TE} (h : PE X e te) (hs : isStar e = false) : PA X [e] (tCons te tNil) := pa_cons h pa_nil (star_cons hs _ _)
theorem pa_three {e e' : Expr} {te te' : TE} (h : PE X e te) (h' : PE X e' te') (hs : isStar e = false) (hs' : isStar e' = false) : PA X [e, e'] (tCons te (tCons te' tNil)) := pa_cons h (pa_two h' hs') (star_cons hs _ _)
theorem plain_ix {b : Expr} (h : isSlice b = false) : PlainIx b := fun o i => by cases b <;> first | rfl | (simp [isSlice] at h)
theorem pt_bl {e : Expr} {t : TE} (h : PE X e t) (he : ∀ whole, isTrue e X.env whole = (do let v ← whole; standAt e.pos; holding [v] (truthy v))) : PT X e (tB t) := pt_val h he
theorem ExcK.exc {K : PySem.W.Frag} {C : Addr} (h : ExcK K C) : ExcC K C := ⟨h.ga, h.gg, h.be, h.hd, h.ha, h.hn, h.ht, h.hm⟩
theorem ExcK.kv {K : PySem.W.Frag} {C : Addr} (h : ExcK K C) : PySem.W.kitOne K (.ref C) (.type "ValueError") = some true := by
  have e : PySem.W.kitMeta "ValueError" = true := by decide +kernel
  unfold PySem.W.kitOne PySem.W.kitCls
  simp only [e, if_true, h.ve]
  split <;> rfl
theorem pe_cls {x : Str} {pos : Pos} {p : Prog} {cl : Nat → Addr} {k : Nat} {call : Nat → List T → Store → R T} {Γ : Cxt} {t : Ty} (g : Good p cl k call Γ X) (h : Γ.ty (.Name x pos) = some t) :
    PE X (.Name x pos) (tC (tyC cl t)) ∧ IsK X.K cl Γ.subC t := by
  simp only [Cxt.ty] at h
  have blt : ∀ {b : Blt} {n : String}, Γ.glob x = some (.blt b) → bootBuiltins (bltName b) = some (.type n) → PE X (.Name x pos) (tC (.ty n)) := fun {b n} hb hn => by
    obtain ⟨h1, h2, h3⟩ := g.glob hb
    obtain ⟨h4, h5⟩ := g.G.blt x b h2
    obtain ⟨o1, o2, o3⟩ := ok_names h3
    exact pe_bltn h1 h5 (by rw [h4]; exact hn) (rfl : RelV (.ty n) (.type n)) o3 o1
  have isk : ∀ {t : Ty}, (∀ i, t ≠ .cls i) → IsK X.K cl Γ.subC t := fun {t} ht => ⟨fun i z => absurd z (ht i), fun i z => absurd z (ht i), fun c => (g.G.hk c).kv, fun c => (g.G.hk c).exc⟩
  split at h
  · rename_i e; cases h; exact ⟨blt e (by decide +kernel), isk fun i z => by cases z⟩
  · rename_i e; cases h; exact ⟨blt e (by decide +kernel), isk fun i z => by cases z⟩
  · rename_i e; cases h; exact ⟨blt e (by decide +kernel), isk fun i z => by cases z⟩
  · rename_i e; cases h; exact ⟨blt e (by decide +kernel), isk fun i z => by cases z⟩
  · rename_i e; cases h; exact ⟨blt e (by decide +kernel), isk fun i z => by cases z⟩
  · rename_i e; cases h; exact ⟨blt e (by decide +kernel), isk fun i z => by cases z⟩
  · rename_i e; cases h; exact ⟨blt e (by decide +kernel), isk fun i z => by cases z⟩
  · rename_i i e
    cases h
    obtain ⟨h1, h2, h3⟩ := g.glob e
    obtain ⟨o1, o2, o3⟩ := ok_names h3
    exact ⟨pe_glob h1 (g.G.cls x i h2) (rfl : RelV (.ref (cl i)) (.ref (cl i))) o1, fun j z => by cases z; exact g.G.nn x i h2, fun j z => by cases z; rw [g.subC]; exact g.G.ks x i h2, fun c => (g.G.hk c).kv, fun c => (g.G.hk c).exc⟩
  · cases h
theorem pa_tys {p : Prog} {cl : Nat → Addr} {k : Nat} {call : Nat → List T → Store → R T} {Γ : Cxt} (g : Good p cl k call Γ X) : ∀ {es : List Expr} {ts : List Ty}, Γ.tys es = some ts → PA X es (tConsts (ts.map (tyC cl))) ∧ ∀ t ∈ ts, IsK X.K cl Γ.subC t
  | [], ts, h => by
    simp [Cxt.tys] at h
    subst h
    exact ⟨pa_imp pa_nil fun _ _ _ q => q, fun t ht => by cases ht⟩
  | e :: r, ts, h => by
    unfold Cxt.tys at h
    split at h
    · rename_i t ts' h1 h2
      cases h
      obtain ⟨a1, a2⟩ := pa_tys g h2
      have he : ∃ x pos, e = .Name x pos := by
        unfold Cxt.ty at h1
        split at h1
        · exact ⟨_, _, rfl⟩
        · cases h1
      obtain ⟨x, pos, rfl⟩ := he
      obtain ⟨b1, b2⟩ := pe_cls g h1
      refine ⟨pa_imp (pa_cons b1 a1 (star_cons rfl _ _)) fun _ _ _ q => q, fun t' ht => ?_⟩
      rcases List.mem_cons.mp ht with rfl | ht
      · exact b2
      · exact a2 t' ht
    · cases h
theorem blt_boot {b : Blt} {n : String} (h : bootBuiltins (bltName b) = some (.builtin n)) {x : Str} (e : x = bltName b) : bootBuiltins x = some (.builtin n) := by rw [e]; exact h
theorem blt_bootT {b : Blt} {n : String} (h : bootBuiltins (bltName b) = some (.type n)) {x : Str} (e : x = bltName b) : bootBuiltins x = some (.type n) := by rw [e]; exact h
end
section
variable {X : Cx} {cl : Nat → Addr} {W : WX}
theorem pe_value {e : Expr} {m : EM} {pos : Pos} (hk : ∀ c, ExcK X.K (cl c)) (he : PE X e (tO X.K cl W m)) (hb : attributeBase e "value" X.env (eval e X.env) = eval e X.env) :
    PE X (.Attribute e "value" pos) (tO X.K cl W (cUn bVal m)) := by
  refine ⟨fun pins s σ H Q I h => ?_⟩
  obtain ⟨L, τ, S, rs, rl, h⟩ := h
  have q : tO X.K cl W m σ H fun x H1 => ∃ c a d v, x = .ref a ∧ H1 a = some (ExH (cl c) d a) ∧ H1 d = some (.xd [(("value" : Str), v)]) ∧ Q v H1 := by
    refine ⟨L, τ, S, rs, rl, ResR.bind h fun t S1 L1 H1 z e1 r1 p1 h1 => ?_⟩
    cases p1 with
    | ex ha hd r =>
      exact ⟨_, _, _, _, rfl, ha, hd, h1 L1 H1 _ (Ext.refl _ _) r1 r⟩
    | _ => exact h1.elim
  refine attr_of hb (thn (he.run pins s σ H _ I q) fun u s1 hh => ?_)
  obtain ⟨x, H1, I1, rx, c, a, d, v, ex, ha, hd, hq⟩ := hh
  subst ex
  obtain rfl : u = Value.ref a := rx
  obtain ⟨⟨oe, vs, at1, z1, dt1⟩, _⟩ : ObjOk X.prog X.w H1 s1.heap a (ExH (cl c) d a) := I1.hok a _ ha
  obtain ⟨mA, hns, hr⟩ : ObjOk X.prog X.w H1 s1.heap d (.xd [(("value" : Str), v)]) := I1.hok d _ hd
  obtain ⟨od, ho, hl⟩ := lookIn_ns hns
  have l : List.lookup ("value" : Str) [(("value" : Str), v)] = some v := by simp [List.lookup]
  obtain ⟨u, hu, ru⟩ := RelO.some_of (v := v) (o := mA "value") (by rw [← l]; exact hr "value")
  have inst : PySem.W.InstAt s1.heap a oe (cl c) (some od) := ⟨at1, z1.1, by unfold PySem.W.notCls; rw [dt1] <;> rfl, by rw [z1.2]; exact ho⟩
  exact HandSPX.exc_get I1.kIn inst (hk c).ga (hk c).gg (hk c).be (PySem.W.findObj_own (hk c).hd (hk c).nv rfl (by rw [hl, hu])) (handed_of ru) ⟨v, H1, I1.tok _, ru, hq⟩
end
end EV
end
section
set_option Elab.async false
set_option linter.all false
set_option maxRecDepth 100000
set_option maxHeartbeats 8000000
set_option autoImplicit false
namespace EV
open PySem PySem.Spec PyProof.Rows L2
/-- what is shown of all syntax up to a depth -/
structure AdE (p : Prog) (cl : Nat → Addr) (k : Nat) (call : Nat → List T → Store → R T) (d : Nat) : Prop where
  E : ∀ (Γ : Cxt) (X : Cx) (W : WX) (e : Expr), Good p cl k call Γ X → Takes X W → PE X e (tO X.K cl W (denE call d Γ e))
  T : ∀ (Γ : Cxt) (X : Cx) (W : WX) (e : Expr), Good p cl k call Γ X → Takes X W → PT X e (tOT X.K cl W (denT call d Γ e))
  C : ∀ (Γ : Cxt) (X : Cx) (W : WX) (a : Expr) (ops : List CmpOp) (bs : List Expr) (pos : Pos), Good p cl k call Γ X → Takes X W → PT X (.Compare a ops bs pos) (tOT X.K cl W (cBl (denE call d Γ (.Compare a ops bs pos))))
  B : ∀ (Γ : Cxt) (X : Cx) (W : WX) (op : BoolOp) (es : List Expr) (pos : Pos), Good p cl k call Γ X → Takes X W → PE X (.BoolOp op es pos) (tO X.K cl W (denB call d Γ op es))
  TB : ∀ (Γ : Cxt) (X : Cx) (W : WX) (op : BoolOp) (es : List Expr) (pos : Pos), Good p cl k call Γ X → Takes X W → PW X (.BoolOp op es pos) (tOT X.K cl W (denTB call d Γ op es))
  A : ∀ (Γ : Cxt) (X : Cx) (W : WX) (es : List Expr), Good p cl k call Γ X → Takes X W → PA X es (tOA X.K cl W (denA call d Γ es))
  Kw : ∀ (Γ : Cxt) (X : Cx) (W : WX) (es : List Keyword), Good p cl k call Γ X → Takes X W → PK X es (tOA X.K cl W (denK call d Γ es))
  O : ∀ (Γ : Cxt) (X : Cx) (W : WX) (e : Option Expr), Good p cl k call Γ X → Takes X W → PO X e (tOO X.K cl W (denO call d Γ e))
  F : ∀ (Γ : Cxt) (X : Cx) (W : WX) (es : List Expr), Good p cl k call Γ X → Takes X W → PTs X es (tOT X.K cl W (denF call d Γ es))
  G : ∀ (Γ : Cxt) (X : Cx) (e : Expr), Good p cl k call Γ X → PG X e (gO X.K cl (tgW d Γ e) (denG call d Γ e))
  Gs : ∀ (Γ : Cxt) (X : Cx) (es : List Expr), Good p cl k call Γ X → PGs X es (gsO X.K cl (tgWs d Γ es) (denGs call d Γ es))
  I : ∀ (Γ : Cxt) (X : Cx) (W : WX) (tg e : Expr), Good p cl k call Γ X → Takes X W → PI X tg e (iO X.K cl W (denI call d Γ e))
section
variable {p : Prog} {cl : Nat → Addr} {k : Nat} {call : Nat → List T → Store → R T} {d : Nat}
theorem adE_zero : AdE p cl k call 0 where
  E := fun _ _ _ _ _ _ => pe_stuck
  T := fun _ _ _ _ _ _ => pt_stuck
  C := fun Γ X W a ops bs pos _ _ => ⟨fun pins s σ H Q I q => by obtain ⟨L, τ, S, _, _, h⟩ := q; exact h.elim⟩
  B := fun _ _ _ _ _ _ _ _ => pe_stuck
  TB := fun _ _ _ _ _ _ _ _ => pw_stuck
  A := fun _ _ _ _ _ _ => pa_stuck
  Kw := fun _ _ _ _ _ _ => pk_stuck
  O := fun _ _ _ _ _ _ => po_stuck
  F := fun _ _ _ _ _ _ => pts_stuck
  G := fun _ _ _ _ => pg_none
  Gs := fun _ _ _ _ => pgs_none
  I := fun _ _ _ _ _ _ _ => pi_stuck
theorem adOpB {X : Cx} (op : Operator) : OpR X (binaryOp op) (rO2 X.K cl (opB op)) ∨ opB op = fun _ _ _ => .stuck := by
  cases op <;> first | exact .inl ad_add | exact .inl ad_sub | exact .inl ad_mul | exact .inl ad_div | exact .inl ad_mod | exact .inl ad_pow | exact .inr rfl
theorem adOpC {X : Cx} (hu : X.A.units + 65 < cLine) (op : CmpOp) : OpR X (compareOp op) (rO2 X.K cl (opC op)) := by
  cases op with
  | Eq => exact ad_eq (by omega)
  | NotEq => exact ad_ne (by omega)
  | Lt => exact ad_cmp op_lt
  | LtE => exact ad_cmp op_le
  | Gt => exact ad_cmp op_gt
  | GtE => exact ad_cmp op_ge
  | Is => exact ad_is
  | IsNot => exact ad_isnot
  | In => exact ad_in hu
  | NotIn => exact ad_notin hu
theorem opr_stuck {X : Cx} {f : Value → Value → Sem Value} : OpR X f (rO2 X.K cl fun _ _ _ => .stuck) := fun pins s σ H x y v u Q I rx ry h => by
  obtain ⟨L, S, t, w, _, _, _, h⟩ := h
  exact h.elim
theorem room65 {k : Nat} {A : Around} (r : Room k A) : A.units + 65 < cLine := by have := r.un; omega

section
variable {Γ : Cxt} {X : Cx} {W : WX} (ih : AdE p cl k call d) (g : Good p cl k call Γ X) (tk : Takes X W)
include ih g tk
theorem ad_blt {b : Blt} {a : Expr} {x : Str} {q pos : Pos} {f : T → Store → R T} {id : String} (hx : Γ.glob x = some (.blt b)) (hv : bootBuiltins (bltName b) = some (.builtin id)) (hc : CallR X (.builtin id) (rC1 X.K cl f)) (cf : Calm1 f) (hs : isStar a = false) :
    PE X (.Call (.Name x q) [a] [] pos) (tO X.K cl W (cUn f (denE call d Γ a))) := by
  obtain ⟨h1, h2, h3⟩ := g.glob hx
  obtain ⟨h4, h5⟩ := g.G.blt x b h2
  obtain ⟨o1, o2, o3⟩ := ok_names h3
  exact pe_imp (pe_callB hc h1 h5 (by rw [h4]; exact hv) (pa_two (ih.E Γ X W a g tk) hs) o3 o1 (star_cons hs _ _) rfl) fun σ H Q q => gl_c1 cf q
theorem ad_bltT {b : Blt} {a : Expr} {x : Str} {q pos : Pos} {f : T → Store → R T} {id : String} (hx : Γ.glob x = some (.blt b)) (hv : bootBuiltins (bltName b) = some (.type id)) (hc : CallR X (.type id) (rC1 X.K cl f)) (cf : Calm1 f) (hs : isStar a = false) :
    PE X (.Call (.Name x q) [a] [] pos) (tO X.K cl W (cUn f (denE call d Γ a))) := by
  obtain ⟨h1, h2, h3⟩ := g.glob hx
  obtain ⟨h4, h5⟩ := g.G.blt x b h2
  obtain ⟨o1, o2, o3⟩ := ok_names h3
  exact pe_imp (pe_callTy hc h1 h5 (by rw [h4]; exact hv) (pa_two (ih.E Γ X W a g tk) hs) o3 o1 (star_cons hs _ _) rfl) fun σ H Q q => gl_c1 cf q
theorem ad_blt2 {b : Blt} {a c : Expr} {x : Str} {q pos : Pos} {f : T → T → Store → R T} {id : String} (hx : Γ.glob x = some (.blt b)) (hv : bootBuiltins (bltName b) = some (.builtin id)) (hc : CallR X (.builtin id) (rC2 X.K cl f)) (cf : Calm2 f) (hs : isStar a = false) (hs' : isStar c = false) :
    PE X (.Call (.Name x q) [a, c] [] pos) (tO X.K cl W (cBin f (denE call d Γ a) (denE call d Γ c))) := by
  obtain ⟨h1, h2, h3⟩ := g.glob hx
  obtain ⟨h4, h5⟩ := g.G.blt x b h2
  obtain ⟨o1, o2, o3⟩ := ok_names h3
  exact pe_imp (pe_callB hc h1 h5 (by rw [h4]; exact hv) (pa_three (ih.E Γ X W a g tk) (ih.E Γ X W c g tk) hs hs') o3 o1 (star_cons hs _ _) (back_star (by simp [hs']))) fun σ H Q q => gl_c2 cf q
theorem ad_mtd {o a : Expr} {m : Str} {apos cpos : Pos} {Ty id : String} {ty : Store → T → Bool} {f : T → T → Store → R T} (pa : PlainAttrs Ty) (slot : Slot Ty m id) (hty : typeOf (.builtin id) = pure (.type "method_descriptor"))
    (hm : MtR X id (fun x vs H Q => ∃ y, vs = [y] ∧ rO2 X.K cl f x y H Q)) (cf : Calm2 f) (ht : ∀ {L : List Addr} {H : Hp} {S : Store} {t : T} {x : V}, RS X.K cl L H S → Rp X.K cl L H t x → ty S t = true → tyV X.K Ty x H) (hl : (apos.endLine == cpos.line) = true) (h0 : isCall0 o = false) (hs : isStar a = false) :
    PE X (.Call (.Attribute o m apos) [a] [] cpos) (tO X.K cl W (cMt ty f (denE call d Γ o) (denE call d Γ a))) := by
  refine pe_imp (pe_bm pa slot hty hm (ih.E Γ X W o g tk) (pa_two (ih.E Γ X W a g tk) hs) (attr_base h0 _ _ _) ?_ hl (star_cons hs _ _) rfl) fun σ H Q q => gl_mt cf ht q
  rw [star_cons hs]
  rfl
theorem ad_call {x : Str} {q pos : Pos} {i : Nat} {a : Expr} {r : List Expr} (hx : Γ.glob x = some (.fn i)) (hs : (a :: r).any isStar = false) : PE X (.Call (.Name x q) (a :: r) [] pos) (tO X.K cl W (cCall (call i) (denA call d Γ (a :: r)))) := by
  obtain ⟨h1, h2, h3⟩ := g.glob hx
  obtain ⟨f, e1, e2⟩ := g.G.fn x i h2
  obtain ⟨ad, fd, m1, m2, m3, m4, _⟩ := g.C.at_ i f e1
  obtain ⟨o1, o2, o3⟩ := ok_names h3
  simp only [List.any_cons, Bool.or_eq_false_iff] at hs
  exact pe_imp (pe_callS m4 g.room h1 (by rw [← e2]; exact m1) m2 m3 (fun σ => passAt tk σ) (ih.A Γ X W (a :: r) g tk) o1 (star_cons hs.1 _ _) (back_star hs.2)) fun σ H Q q => gl_call (fun ts S => g.C.len i f ts S e1) q
theorem ad_callK {x : Str} {q pos : Pos} {i : Nat} {es : List Expr} {kws : List Keyword} {ks : List Str} (hx : Γ.glob x = some (.fn i)) (hn : kwNames kws = some ks) (hk : (i, es.length, ks) ∈ Γ.kw) (hs : es.any isStar = false) :
    PE X (.Call (.Name x q) es kws pos) (tO X.K cl W (cCallK (call i) (Γ.ps i) ks (denA call d Γ es) (denK call d Γ kws))) := by
  obtain ⟨h1, h2, h3⟩ := g.glob hx
  obtain ⟨f, e1, e2⟩ := g.G.fn x i h2
  obtain ⟨ad, fd, m1, m2, m3, m4, m5⟩ := g.C.at_ i f e1
  obtain ⟨o1, o2, o3⟩ := ok_names h3
  have kb := m5 es.length ks (by rw [← g.kw]; exact hk)
  have eps : Γ.ps i = f.ps := by rw [g.ps]; unfold Prog.psOf; rw [e1]
  rw [eps]
  have glue : ∀ σ H Q, tO X.K cl W (cCallK (call i) f.ps ks (denA call d Γ es) (denK call d Γ kws)) σ H Q → _ := fun σ H Q q =>
    gl_callK (n := es.length) (fun ts S => g.C.len i f ts S e1) (fun τ S xs S' e => denA_len e) (fun τ S xs S' e => by rw [denK_len e, kwNames_len hn]) q
  cases es with
  | nil =>
    refine pe_imp (pe_callKS0 (E := WE W) m4 g.room h1 (by rw [← e2]; exact m1) m2 kb (fun σ => passAt tk σ) (ih.Kw Γ X W kws g tk) hn o1) fun σ H Q q => ?_
    have q' := glue σ H Q q
    cases d with
    | zero => obtain ⟨L, τ, S, _, _, h⟩ := q'; exact h.elim
    | succ d => exact gl_aNil q'
  | cons a r => exact pe_imp (pe_callKS (E := WE W) m4 g.room h1 (by rw [← e2]; exact m1) m2 kb (fun σ => passAt tk σ) (ih.A Γ X W (a :: r) g tk) (ih.Kw Γ X W kws g tk) hn hs o1) glue
end
end
end EV
end
section
set_option Elab.async false
set_option linter.all false
set_option maxRecDepth 100000
set_option maxHeartbeats 8000000
set_option autoImplicit false
namespace EV
open PySem PySem.Spec PyProof.Rows L2
section
variable {p : Prog} {cl : Nat → Addr} {k : Nat} {call : Nat → List T → Store → R T} {d : Nat}
variable {Γ : Cxt} {X : Cx} {W : WX} (ih : AdE p cl k call d) (g : Good p cl k call Γ X) (tk : Takes X W)
include ih g tk
theorem ad_name (x : Str) (pos : Pos) : PE X (.Name x pos) (tO X.K cl W (denE call (d + 1) Γ (.Name x pos))) := by
  simp only [denE]
  split
  · rename_i i e
    obtain ⟨h1, h2, h3⟩ := g.slot e
    obtain ⟨o1, o2, o3⟩ := ok_names h3
    exact pe_imp (pe_var h1 h2 o1 o2) fun _ _ _ q => gl_var q
  · split
    · rename_i v e
      obtain ⟨h1, h2, h3⟩ := g.glob e
      obtain ⟨o1, o2, o3⟩ := ok_names h3
      obtain ⟨xv, u, m1, m2, m3⟩ := g.G.con x v h2
      exact pe_cst (pe_glob h1 m1 m2 o1) m3
    · exact pe_stuck
theorem ad_subscript (a i : Expr) (pos : Pos) : PE X (.Subscript a i pos) (tO X.K cl W (denE call (d + 1) Γ (.Subscript a i pos))) := by
  have gen : isSlice i = false → PE X (.Subscript a i pos) (tO X.K cl W (cBin opIx (denE call d Γ a) (denE call d Γ i))) := fun h =>
    pe_imp (pe_ix ad_ix (ih.E Γ X W a g tk) (ih.E Γ X W i g tk) (plain_ix h)) fun _ _ _ q => gl_bin calm_opIx q
  cases i with
  | Slice lo hi st ps =>
    simp only [denE]
    cases st with
    | none => exact pe_imp (pe_slice (ad_sl sl_str) (ih.E Γ X W a g tk) (ih.O Γ X W lo g tk) (ih.O Γ X W hi g tk)) fun _ _ _ q => gl_sl q
    | some s => exact pe_stuck
  | _ => exact gen rfl
theorem ad_compare (a : Expr) (ops : List CmpOp) (bs : List Expr) (pos : Pos) : PE X (.Compare a ops bs pos) (tO X.K cl W (denE call (d + 1) Γ (.Compare a ops bs pos))) := by
  simp only [denE]
  split
  · exact pe_stuck
  · rename_i hset
    split
    · rename_i op b
      simp only [List.any_cons, List.any_nil, Bool.or_false, Bool.not_eq_true] at hset
      exact pe_imp (pe_cmpR (adOpC (room65 g.room) op) (ih.E Γ X W a g tk) (ih.E Γ X W b g tk) (not_set hset)) fun _ _ _ q => gl_bin (calm_opC op) q
    · rename_i op op' b c
      simp only [List.any_cons, List.any_nil, Bool.or_false, Bool.not_eq_true, Bool.or_eq_false_iff] at hset
      exact pe_imp (pe_chain (adOpC (room65 g.room) op) (adOpC (room65 g.room) op') (ih.E Γ X W a g tk) (ih.E Γ X W b g tk) (ih.E Γ X W c g tk) (not_set hset.2)) fun _ _ _ q => gl_chain (calm_opC op) (calm_opC op') q
    · exact pe_stuck
theorem ad_compareT (a : Expr) (ops : List CmpOp) (bs : List Expr) (pos : Pos) : PT X (.Compare a ops bs pos) (tOT X.K cl W (cBl (denE call (d + 1) Γ (.Compare a ops bs pos)))) := by
  have st : PT X (.Compare a ops bs pos) (tOT X.K cl W (cBl cStuck)) := ⟨fun pins s σ H Q I q => by obtain ⟨L, τ, S, _, _, h⟩ := q; exact h.elim⟩
  simp only [denE]
  split
  · exact st
  · rename_i hset
    split
    · rename_i op b
      simp only [List.any_cons, List.any_nil, Bool.or_false, Bool.not_eq_true] at hset
      exact pt_imp (pt_cmpR (adOpC (room65 g.room) op) (ih.E Γ X W a g tk) (ih.E Γ X W b g tk) (not_set hset)) fun _ _ _ q => gl_bin (calm_opC op) (gl_bl q)
    · rename_i op op' b c
      simp only [List.any_cons, List.any_nil, Bool.or_false, Bool.not_eq_true, Bool.or_eq_false_iff] at hset
      exact pt_imp (pt_chain (adOpC (room65 g.room) op) (adOpC (room65 g.room) op') (ih.E Γ X W a g tk) (ih.E Γ X W b g tk) (ih.E Γ X W c g tk) (not_set hset.2)) fun _ _ _ q => gl_chain (calm_opC op) (calm_opC op') (gl_bl q)
    · exact st
theorem ad_listcomp (elt : Expr) (gs : List Comprehension) (scope : Scope) (pos : Pos) : PE X (.ListComp elt gs scope pos) (tO X.K cl W (denE call (d + 1) Γ (.ListComp elt gs scope pos))) := by
  simp only [denE]
  split
  · rename_i tg iter ifs
    split
    · rename_i hb
      simp only [Bool.and_eq_true, List.all_eq_true] at hb
      obtain ⟨⟨hb, hw⟩, hset⟩ := hb
      have hb' : L2.blkC X.N X.env.scope scope (ownOf Γ.N scope.names) = true := by rw [g.N, g.sc]; exact hb
      refine pe_imp (pe_lc (own := ownOf Γ.N scope.names) (g := gO X.K cl (tgW d (Γ.blk scope) tg) (denG call d (Γ.blk scope) tg)) (tt := tOT X.K cl W0 (denF call d (Γ.blk scope) ifs)) (te := tO X.K cl W0 (cGc (denE call d (Γ.blk scope) elt))) g.calm g.nd (ih.I Γ X W tg iter g tk) (blkOk_by hb') (fun s H C cs fp => ih.G (Γ.blk scope) _ tg (g.blk hb s H C cs fp))
        (fun s H C cs fp => ih.F (Γ.blk scope) _ W0 ifs (g.blk hb s H C cs fp) takes0) (fun s H C cs fp => pe_imp (t' := tO X.K cl W0 (cGc (denE call d (Γ.blk scope) elt))) (ih.E (Γ.blk scope) _ W0 elt (g.blk hb s H C cs fp) takes0) fun _ _ _ q => gl_gc q) ?_) fun σ H Q q => ?_
      · cases iter <;> first | (intro _; rfl) | (simp [isSetE] at hset)
      · exact gl_lc (fun i hi => by simpa using hw i hi) q
    · exact pe_stuck
  · exact pe_stuck
end
end EV
end
section
set_option Elab.async false
set_option linter.all false
set_option maxRecDepth 100000
set_option maxHeartbeats 8000000
set_option autoImplicit false
namespace EV
open PySem PySem.Spec PyProof.Rows L2
section
variable {p : Prog} {cl : Nat → Addr} {k : Nat} {call : Nat → List T → Store → R T} {d : Nat}
variable {Γ : Cxt} {X : Cx} {W : WX} (ih : AdE p cl k call d) (g : Good p cl k call Γ X) (tk : Takes X W)
include ih g tk
theorem rg_names {r : Str} (hr : Γ.glob r = some (.blt .range)) : r = "range" ∧ Gl X "range" ∧ X.mg "range" = none := by
  obtain ⟨h1, h2, h3⟩ := g.glob hr
  obtain ⟨h4, h5⟩ := g.G.blt r _ h2
  have e : r = "range" := h4
  subst e
  exact ⟨rfl, h1, h5⟩
theorem ad_blts (b : Blt) (x : Str) (q : Pos) (args : List Expr) (pos : Pos) (hx : Γ.glob x = some (.blt b)) (hs : args.any isStar = false) (hns : Γ.slot x = none) :
    PE X (.Call (.Name x q) args [] pos) (tO X.K cl W (denE call (d + 1) Γ (.Call (.Name x q) args [] pos))) := by
  have hl : ∀ {r : Str}, Γ.glob r = some (.blt .list) → r = "list" ∧ Gl X "list" ∧ X.mg "list" = none := fun {r} hr => by
    obtain ⟨h1, h2, h3⟩ := g.glob hr
    obtain ⟨h4, h5⟩ := g.G.blt r _ h2
    have e : r = "list" := h4
    subst e
    exact ⟨rfl, h1, h5⟩
  have ht : ∀ {r : Str}, Γ.glob r = some (.blt .tuple) → r = "tuple" ∧ Gl X "tuple" ∧ X.mg "tuple" = none := fun {r} hr => by
    obtain ⟨h1, h2, h3⟩ := g.glob hr
    obtain ⟨h4, h5⟩ := g.G.blt r _ h2
    have e : r = "tuple" := h4
    subst e
    exact ⟨rfl, h1, h5⟩
  simp only [denE, hs, hns, hx]
  rw [if_neg (by decide)]
  split
  · simp only [List.any_cons, List.any_nil, Bool.or_false] at hs
    exact ad_blt ih g tk hx (by decide +kernel) cb_len calm_bLen hs
  · simp only [List.any_cons, List.any_nil, Bool.or_false] at hs
    exact ad_bltT ih g tk hx (by decide +kernel) cb_int calm_bInt hs
  · simp only [List.any_cons, List.any_nil, Bool.or_false] at hs
    exact ad_blt ih g tk hx (by decide +kernel) cb_abs calm_bAbs hs
  · simp only [List.any_cons, List.any_nil, Bool.or_false] at hs
    exact ad_bltT ih g tk hx (by decide +kernel) cb_str calm_bStr hs
  · simp only [List.any_cons, List.any_nil, Bool.or_false] at hs
    exact ad_blt ih g tk hx (by decide +kernel) (cb_all g.calm) calm_bAll hs
  · simp only [List.any_cons, List.any_nil, Bool.or_false] at hs
    exact ad_blt ih g tk hx (by decide +kernel) (cb_any g.calm) calm_bAny hs
  · simp only [List.any_cons, List.any_nil, Bool.or_false] at hs
    exact ad_blt ih g tk hx (by decide +kernel) (cb_sum g.calm) calm_bSum hs
  · simp only [List.any_cons, List.any_nil, Bool.or_false, Bool.or_eq_false_iff] at hs
    exact ad_blt2 ih g tk hx (by decide +kernel) (cb_max2 g.calm) calm_bMax2 hs.1 hs.2
  · simp only [List.any_cons, List.any_nil, Bool.or_false, Bool.or_eq_false_iff] at hs
    exact ad_blt2 ih g tk hx (by decide +kernel) (cb_min2 g.calm) calm_bMin2 hs.1 hs.2
  · rename_i a
    simp only [List.any_cons, List.any_nil, Bool.or_false] at hs
    obtain ⟨rfl, l1, l2⟩ := hl hx
    split
    · rename_i r rp ras rq
      split
      · rename_i h1 h2
        obtain ⟨rfl, r1, r2⟩ := rg_names ih g tk h2
        split
        · exact pe_stuck
        · rename_i hst
          simp only [Bool.not_eq_true] at hst
          split
          · simp only [List.any_cons, List.any_nil, Bool.or_false] at hst
            exact pe_imp (pe_listRg g.calm l1 l2 (prg_1 r1 r2 (ih.E Γ X W _ g tk) (star_cons hst _ _)) (star_cons rfl _ _)) fun _ _ _ q => gl_lrg1 q
          · simp only [List.any_cons, List.any_nil, Bool.or_false, Bool.or_eq_false_iff] at hst
            exact pe_imp (pe_listRg g.calm l1 l2 (prg_2 r1 r2 (ih.E Γ X W _ g tk) (ih.E Γ X W _ g tk) (star_cons hst.1 _ _) (star_cons hst.2 _ _) (back_star (by simp [hst.2]))) (star_cons rfl _ _)) fun _ _ _ q => gl_lrg2 q
          · exact pe_stuck
      · exact ad_bltT ih g tk hx (by decide +kernel) cb_list calm_bList hs
    · exact ad_bltT ih g tk hx (by decide +kernel) cb_list calm_bList hs
  · rename_i a
    simp only [List.any_cons, List.any_nil, Bool.or_false] at hs
    obtain ⟨rfl, l1, l2⟩ := ht hx
    split
    · rename_i r rp ras rq
      split
      · rename_i h1 h2
        obtain ⟨rfl, r1, r2⟩ := rg_names ih g tk h2
        split
        · exact pe_stuck
        · rename_i hst
          simp only [Bool.not_eq_true] at hst
          split
          · simp only [List.any_cons, List.any_nil, Bool.or_false] at hst
            exact pe_imp (pe_tupRg g.calm l1 l2 (prg_1 r1 r2 (ih.E Γ X W _ g tk) (star_cons hst _ _)) (star_cons rfl _ _)) fun _ _ _ q => gl_trg1 q
          · simp only [List.any_cons, List.any_nil, Bool.or_false, Bool.or_eq_false_iff] at hst
            exact pe_imp (pe_tupRg g.calm l1 l2 (prg_2 r1 r2 (ih.E Γ X W _ g tk) (ih.E Γ X W _ g tk) (star_cons hst.1 _ _) (star_cons hst.2 _ _) (back_star (by simp [hst.2]))) (star_cons rfl _ _)) fun _ _ _ q => gl_trg2 q
          · exact pe_stuck
      · exact ad_bltT ih g tk hx (by decide +kernel) cb_tuple calm_bTuple hs
    · exact ad_bltT ih g tk hx (by decide +kernel) cb_tuple calm_bTuple hs
  · rename_i a t
    simp only [List.any_cons, List.any_nil, Bool.or_false, Bool.or_eq_false_iff] at hs
    obtain ⟨h1, h2, h3⟩ := g.glob hx
    obtain ⟨h4, h5⟩ := g.G.blt x _ h2
    obtain ⟨o1, o2, o3⟩ := ok_names h3
    have hb : bootBuiltins x = some (.builtin "isinstance") := by rw [h4]; decide +kernel
    split
    · rename_i ts kt pt
      split
      · rename_i tys e
        obtain ⟨a1, a2⟩ := pa_tys g e
        split
        · exact pe_stuck
        · rename_i hz
          simp only [Bool.or_eq_true, Bool.not_eq_true, not_or, decide_eq_true_eq] at hz
          exact pe_imp (pe_callB call_isiTY h1 h5 hb (pa_three (ih.E Γ X W a g tk) (pe_tup a1) hs.1 rfl) o3 o1 (star_cons hs.1 _ _) (back_star rfl)) fun _ _ _ q =>
            gl_isis (by intro z; rw [z] at hz; simp at hz) (by rw [line_eq]; have := hz.2; omega) a2 q
      · exact pe_stuck
    · split
      · rename_i t' e
        have he : ∃ y yp, t = .Name y yp := by
          unfold Cxt.ty at e
          split at e
          · exact ⟨_, _, rfl⟩
          · cases e
        obtain ⟨y, yp, rfl⟩ := he
        obtain ⟨b1, b2⟩ := pe_cls g e
        exact pe_imp (pe_callB call_isiY h1 h5 hb (pa_three (ih.E Γ X W a g tk) b1 hs.1 rfl) o3 o1 (star_cons hs.1 _ _) (back_star rfl)) fun _ _ _ q => gl_isi b2 q
      · exact pe_stuck
  · exact pe_stuck
end
end EV
end
section
set_option Elab.async false
set_option linter.all false
set_option maxRecDepth 100000
set_option maxHeartbeats 8000000
set_option autoImplicit false
namespace EV
open PySem PySem.Spec PyProof.Rows L2
section
variable {p : Prog} {cl : Nat → Addr} {k : Nat} {call : Nat → List T → Store → R T} {d : Nat}
theorem ad_method {Γ : Cxt} {X : Cx} {W : WX} (ih : AdE p cl k call d) (g : Good p cl k call Γ X) (tk : Takes X W) (o : Expr) (m : Str) (apos : Pos) (args : List Expr) (kws : List Keyword) (cpos : Pos) :
    PE X (.Call (.Attribute o m apos) args kws cpos) (tO X.K cl W (denE call (d + 1) Γ (.Call (.Attribute o m apos) args kws cpos))) := by
  simp only [denE]
  split
  · exact pe_stuck
  rename_i hs
  simp only [Bool.not_eq_true] at hs
  split
  case isFalse => exact pe_stuck
  rename_i hc
  simp only [Bool.and_eq_true, Bool.not_eq_true'] at hc
  obtain ⟨hl, h0⟩ := hc
  split
  · rename_i a
    simp only [List.any_cons, List.any_nil, Bool.or_false] at hs
    split
    · rename_i e; subst e
      exact ad_mtd ih g tk F.plainAttrs_list F.slot_list_append F.type_list_append cm_append calm_mAppend tyL hl h0 hs
    split
    · rename_i e; subst e
      exact ad_mtd ih g tk F.plainAttrs_list F.slot_list_index F.type_list_index (cm_index (room65 g.room)) calm_mIndex tyL hl h0 hs
    split
    · rename_i e; subst e
      exact ad_mtd ih g tk F.plainAttrs_str F.slot_str_join F.type_str_join cm_join calm_mJoin (fun _ => tyS) hl h0 hs
    split
    · rename_i e; subst e
      exact ad_mtd ih g tk F.plainAttrs_list F.slot_list_extend F.type_list_extend cm_extend calm_mExtend tyL hl h0 hs
    split
    · rename_i e; subst e
      exact ad_mtd ih g tk F.plainAttrs_list F.slot_list_pop F.type_list_pop cm_popAt calm_mPopAt tyL hl h0 hs
    · exact pe_stuck
  · split
    · rename_i e; subst e
      exact pe_imp (pe_bm0 F.plainAttrs_list F.slot_list_pop F.type_list_pop cm_pop (ih.E Γ X W o g tk) (attr_base h0 _ _ _) hl) fun _ _ _ q => gl_mt0 calm_mPop tyL q
    · exact pe_stuck
  · exact pe_stuck
theorem ad_callAll {Γ : Cxt} {X : Cx} {W : WX} (ih : AdE p cl k call d) (g : Good p cl k call Γ X) (tk : Takes X W) (f : Expr) (args : List Expr) (kws : List Keyword) (cpos : Pos) :
    PE X (.Call f args kws cpos) (tO X.K cl W (denE call (d + 1) Γ (.Call f args kws cpos))) := by
  cases f with
  | Attribute o m apos => exact ad_method ih g tk o m apos args kws cpos
  | Name x q =>
    by_cases hs : args.any isStar = true
    · simp only [denE, hs]; exact pe_stuck
    simp only [Bool.not_eq_true] at hs
    cases kws with
    | nil =>
      cases hsl : Γ.slot x with
      | some i => simp only [denE, hs, hsl]; exact pe_stuck
      | none =>
        cases hgl : Γ.glob x with
        | none => simp only [denE, hs, hsl, hgl]; exact pe_stuck
        | some v =>
          cases v with
          | fn i =>
            simp only [denE, hs, hsl, hgl]
            cases args with
            | nil => exact pe_stuck
            | cons a r => exact ad_call ih g tk hgl hs
          | cls i => simp only [denE, hs, hsl, hgl]; exact pe_stuck
          | con v => simp only [denE, hs, hsl, hgl]; exact pe_stuck
          | blt b => exact ad_blts ih g tk b x q args cpos hgl hs hsl
    | cons kw kws =>
      simp only [denE, hs]
      rw [if_neg (by decide)]
      split
      · exact pe_stuck
      · split
        · rename_i i ks hgl hn
          split
          · rename_i hk
            exact ad_callK ih g tk hgl hn hk hs
          · exact pe_stuck
        · exact pe_stuck
  | _ => simp only [denE]; split <;> exact pe_stuck
theorem adE_succ (ih : AdE p cl k call d) : AdE p cl k call (d + 1) where
  E := fun Γ X W e g tk => by
    cases e with
    | Name x pos => exact ad_name ih g tk x pos
    | Constant c j pos =>
      cases c with
      | none => exact pe_cst pe_non fun _ _ => .non
      | bool b => exact pe_cst pe_bl fun _ _ => .bl b
      | int i => exact pe_cst pe_int fun _ _ => .int i
      | str x => exact pe_cst pe_str fun _ _ => .str x
      | _ => exact pe_stuck
    | BinOp a op b pos =>
      simp only [denE]
      rcases adOpB (X := X) (cl := cl) op with h | h
      · exact pe_imp (pe_op h (ih.E Γ X W a g tk) (ih.E Γ X W b g tk)) fun _ _ _ q => gl_bin (calm_opB op) q
      · rw [h]
        exact pe_imp (pe_op opr_stuck (ih.E Γ X W a g tk) (ih.E Γ X W b g tk)) fun _ _ _ q => gl_bin calm_none q
    | UnaryOp op a pos =>
      cases op with
      | USub => exact pe_imp (pe_un ad_neg (ih.E Γ X W a g tk)) fun _ _ _ q => gl_un calm_opNeg q
      | Not => exact pe_imp (pe_not (ih.E Γ X W a g tk)) fun _ _ _ q => gl_not q
      | _ => exact pe_stuck
    | BoolOp op es pos => exact ih.B Γ X W op es pos g tk
    | Compare a ops bs pos => exact ad_compare ih g tk a ops bs pos
    | IfExp c a b pos => exact pe_imp (pe_ifExp (ih.T Γ X W c g tk) (ih.E Γ X W a g tk) (ih.E Γ X W b g tk)) fun _ _ _ q => gl_ite q
    | Tuple es j pos => exact pe_imp (pe_tup (ih.A Γ X W es g tk)) fun _ _ _ q => gl_tup q
    | List es pos => exact pe_imp (pe_lst (ih.A Γ X W es g tk)) fun _ _ _ q => gl_lst q
    | Dict ks vs pos =>
      cases ks with
      | nil =>
        cases vs with
        | nil => exact pe_imp pe_dnewK fun _ _ _ q => gl_dict q
        | cons _ _ => exact pe_stuck
      | cons _ _ => exact pe_stuck
    | Subscript a i pos => exact ad_subscript ih g tk a i pos
    | ListComp elt gs scope pos => exact ad_listcomp ih g tk elt gs scope pos
    | Attribute o a pos =>
      simp only [denE]
      split
      · rename_i h
        obtain ⟨rfl, h0⟩ := h
        exact pe_value g.G.hk (ih.E Γ X W o g tk) (attr_base h0 _ _ _)
      · exact pe_stuck
    | Call f args kws pos => exact ad_callAll ih g tk f args kws pos
    | _ => exact pe_stuck
  T := fun Γ X W e g tk => by
    have st : ∀ {e : Expr} {m : EM}, PE X e (tO X.K cl W m) → (∀ whole, isTrue e X.env whole = (do let v ← whole; standAt e.pos; holding [v] (truthy v))) → PT X e (tOT X.K cl W (cBl m)) := fun h he => pt_imp (pt_val h he) fun _ _ _ q => gl_bl q
    cases e with
    | BoolOp op es pos => exact (ih.TB Γ X W op es pos g tk).pt
    | UnaryOp op a pos =>
      cases op with
      | Not => exact pt_imp (pt_not (ih.T Γ X W a g tk)) fun _ _ _ q => gl_tnot q
      | _ => exact st (ih.E Γ X W _ g tk) fun _ => rfl
    | Compare a ops bs pos => exact ih.C Γ X W a ops bs pos g tk
    | IfExp c a b pos =>
      refine ⟨fun pins s σ H Q I q => ?_⟩
      obtain ⟨L, τ, S, rs, rl, h⟩ := q
      show wpAny _ _ (do if ← isTrue c X.env (eval c X.env) then isTrue a X.env (eval a X.env) else isTrue b X.env (eval b X.env)) _ _ _
      have hc : tOT X.K cl W (denT call d Γ c) σ H fun b' H1 => if b' = true then tOT X.K cl W (denT call d Γ a) σ H1 Q else tOT X.K cl W (denT call d Γ b) σ H1 Q :=
        ⟨L, τ, S, rs, rl, ResR.bind h fun x S1 L1 H1 z1 e1 r1 p1 h1 => by
          cases p1
          cases x with
          | true => exact ⟨L1, τ, S1, r1, rl.mono e1, h1⟩
          | false => exact ⟨L1, τ, S1, r1, rl.mono e1, h1⟩⟩
      refine wpAny_bind (thn ((ih.T Γ X W c g tk).run pins s σ H _ I hc) fun b' s1 ⟨H1, I1, q1⟩ => ?_)
      cases b' with
      | true => exact (ih.T Γ X W a g tk).run pins s1 σ H1 Q I1 q1
      | false => exact (ih.T Γ X W b g tk).run pins s1 σ H1 Q I1 q1
    | _ => exact st (ih.E Γ X W _ g tk) fun _ => rfl
  C := fun Γ X W a ops bs pos g tk => ad_compareT ih g tk a ops bs pos
  B := fun Γ X W op es pos g tk => by
    cases es with
    | nil => exact pe_stuck
    | cons a r =>
      cases r with
      | nil => exact pe_one (ih.E Γ X W a g tk)
      | cons b r =>
        cases op with
        | And => exact pe_imp (pe_and (ih.E Γ X W a g tk) (ih.B Γ X W .And (b :: r) pos g tk)) fun _ _ _ q => gl_and q
        | Or => exact pe_imp (pe_or (ih.E Γ X W a g tk) (ih.B Γ X W .Or (b :: r) pos g tk)) fun _ _ _ q => gl_or q
  TB := fun Γ X W op es pos g tk => by
    cases es with
    | nil => exact pw_stuck
    | cons a r =>
      cases r with
      | nil =>
        cases op with
        | And => exact pw_and1 (ih.T Γ X W a g tk)
        | Or => exact pw_or1 (ih.T Γ X W a g tk)
      | cons b r =>
        cases op with
        | And => exact pw_imp (pw_and (ih.T Γ X W a g tk) (ih.TB Γ X W .And (b :: r) pos g tk)) fun _ _ _ q => gl_tand q
        | Or => exact pw_imp (pw_or (ih.T Γ X W a g tk) (ih.TB Γ X W .Or (b :: r) pos g tk)) fun _ _ _ q => gl_tor q
  A := fun Γ X W es g tk => by
    cases es with
    | nil => exact pa_imp pa_nil fun _ _ _ q => gl_aNil q
    | cons e r =>
      simp only [denA]
      split
      · exact pa_stuck
      · rename_i hs
        simp only [Bool.not_eq_true] at hs
        exact pa_imp (pa_cons (ih.E Γ X W e g tk) (ih.A Γ X W r g tk) (star_cons hs _ _)) fun _ _ _ q => gl_aCons q
  Kw := fun Γ X W es g tk => by
    cases es with
    | nil => exact pk_imp pk_nil fun _ _ _ q => gl_aNil q
    | cons kw r =>
      obtain ⟨n, e, ps⟩ := kw
      simp only [denK]
      split
      · exact pk_stuck
      · exact pk_imp (pk_cons (ih.E Γ X W e g tk) (ih.Kw Γ X W r g tk)) fun _ _ _ q => gl_aCons q
  O := fun Γ X W e g tk => by
    cases e with
    | none => exact po_imp po_none fun _ _ _ q => gl_oNone q
    | some e => exact po_imp (po_some (ih.E Γ X W e g tk)) fun _ _ _ q => gl_oSome q
  F := fun Γ X W es g tk => by
    cases es with
    | nil => exact pts_imp pts_nil fun _ _ _ q => gl_yes q
    | cons c r =>
      cases r with
      | nil => exact pts_imp (pts_one (ih.T Γ X W c g tk)) fun _ _ _ q => gl_gcB q
      | cons _ _ => exact pts_stuck
  G := fun Γ X e g => by
    cases e with
    | Name x pos =>
      simp only [denG, tgW]
      split
      · rename_i i e
        obtain ⟨h1, h2, h3⟩ := g.slotL e
        exact pg_imp (pg_name g.nd h1 h2 h3) fun _ _ _ _ q => gl_gname q
      · exact pg_none
    | Tuple es j pos =>
      simp only [denG, tgW]
      split
      · exact pg_none
      · rename_i hs
        simp only [Bool.not_eq_true] at hs
        exact pg_imp (pg_tup g.calm (ih.Gs Γ X es g) (asg_len _) (asg_find _ hs)) fun _ _ _ _ q => gl_gtup (fun xs τ τ' h => denGs_len h) q
    | _ => exact pg_none
  Gs := fun Γ X es g => by
    cases es with
    | nil => exact pgs_imp pgs_nil fun _ _ _ _ q => gl_gnil q
    | cons e r =>
      simp only [denGs, tgWs]
      split
      · exact pgs_none
      · rename_i hs
        simp only [Bool.not_eq_true] at hs
        exact pgs_imp (pgs_cons (ih.G Γ X e g) (ih.Gs Γ X r g) (by rw [asg_each hs]; rfl)) fun _ _ _ _ q => gl_gcons q
  I := fun Γ X W tg e g tk => by
    have gen : ∀ e : Expr, PI X tg e (iO X.K cl W (iVal (denE call d Γ e))) := fun e => pi_val (ih.E Γ X W e g tk)
    cases e with
    | Call f args kws pos =>
      cases f with
      | Name r rp =>
        cases kws with
        | nil =>
          simp only [denI]
          split
          · rename_i h1 h2
            obtain ⟨rfl, r1, r2⟩ := rg_names ih g tk h2
            split
            · exact pi_stuck
            · rename_i hs
              simp only [Bool.not_eq_true] at hs
              split
              · rename_i u
                simp only [List.any_cons, List.any_nil, Bool.or_false] at hs
                refine pi_imp' (pi_range1 r1 r2 (pa_two (ih.E Γ X W u g tk) hs) (by rw [star_cons hs]; rfl)) fun σ H R q => ?_
                obtain ⟨L, τ, S, rs, rl, h⟩ := q
                refine ⟨L, τ, S, rs, rl, ResR.bind h fun x S1 L1 H1 z1 e1 r1 p1 h1 => ?_⟩
                cases p1 with
                | int j =>
                  simp only at h1
                  split at h1
                  · rename_i hc
                    exact ⟨j, rfl, hc.1, hc.2, by have := h1 _ _ _ (Ext.refl _ _) r1 (itr_ok 0 j); simpa using this⟩
                  · exact h1.elim
                | _ => exact False.elim h1
              · rename_i u v
                simp only [List.any_cons, List.any_nil, Bool.or_false, Bool.or_eq_false_iff] at hs
                refine pi_imp' (pi_range2 r1 r2 (pa_three (ih.E Γ X W u g tk) (ih.E Γ X W v g tk) hs.1 hs.2) (by rw [star_cons hs.1, star_cons hs.2]; rfl) (by rw [star_cons hs.2]; rfl)) fun σ H R q => ?_
                obtain ⟨L, τ, S, rs, rl, h⟩ := q
                refine ⟨L, τ, S, rs, rl, ResR.bind h fun x S1 L1 H1 z1 e1 r1 p1 h1 => ?_⟩
                refine ⟨L1, τ, S1, r1, rl.mono e1, ResR.bind h1 fun y S2 L2 H2 z2 e2 r2 p2 h2 => ?_⟩
                cases p1 with
                | int i =>
                  cases p2 with
                  | int j =>
                    simp only at h2
                    split at h2
                    · rename_i hc
                      exact ⟨i, j, rfl, hc, h2 _ _ _ (Ext.refl _ _) r2 (itr_ok i j)⟩
                    · exact h2.elim
                  | _ => exact False.elim h2
                | _ => cases p2 <;> exact False.elim h2
              · exact pi_stuck
          · exact gen _
        | cons _ _ => exact gen _
      | _ => exact gen _
    | _ => exact gen _
theorem adE (p : Prog) (cl : Nat → Addr) (k : Nat) (call : Nat → List T → Store → R T) : ∀ d, AdE p cl k call d
  | 0 => adE_zero
  | d + 1 => adE_succ (adE p cl k call d)
end
end EV
end
section
set_option Elab.async false
set_option linter.all false
set_option maxRecDepth 100000
set_option maxHeartbeats 8000000
set_option autoImplicit false
namespace EV
open PySem PySem.Spec PyProof.Rows L2
section
variable {K : PySem.W.Frag} {cl : Nat → Addr} {L L' : List Addr} {H H' : Hp} {W : WX} {τ : Loc} {σ : L2.St} {S : Store} {D : Ends}
def SResR (K : PySem.W.Frag) (cl : Nat → Addr) (L : List Addr) (H : Hp) (r : SR) (D : Ends) (W : WX) : Prop := match r with
  | .nx τ S => ∀ L' H' σ', Ext L L' H H' → RS K cl L' H' S → RL K cl L' H' τ σ' → D.nx σ' H'
  | .bk τ S => ∀ L' H' σ', Ext L L' H H' → RS K cl L' H' S → RL K cl L' H' τ σ' → D.bk σ' H'
  | .ct τ S => ∀ L' H' σ', Ext L L' H H' → RS K cl L' H' S → RL K cl L' H' τ σ' → D.ct σ' H'
  | .rt v S => ∀ L' H' z, Ext L L' H H' → RS K cl L' H' S → Rp K cl L' H' v z → D.rt z H'
  | .exc c v τ S => ∀ L' H' σ' d x, Ext L L' H H' → RS K cl L' H' S → RL K cl L' H' τ σ' → H' d = some (.xd [(("value" : Str), x)]) → Rp K cl L' H' v x → W (.ref (cl c)) (some d) σ' H'
  | .stuck => False
theorem SResR.mono {r : SR} (h : SResR K cl L H r D W) (e : Ext L L' H H') : SResR K cl L' H' r D W := by
  cases r with
  | nx τ S => exact fun L2 H2 z e2 => h L2 H2 z (e.trans e2)
  | bk τ S => exact fun L2 H2 z e2 => h L2 H2 z (e.trans e2)
  | ct τ S => exact fun L2 H2 z e2 => h L2 H2 z (e.trans e2)
  | rt τ S => exact fun L2 H2 z e2 => h L2 H2 z (e.trans e2)
  | exc c v τ S => exact fun L2 H2 z d x e2 => h L2 H2 z d x (e.trans e2)
  | stuck => exact h
theorem SResR.bindS {α β : Type} {rel : List Addr → Hp → α → β → Prop} {r : R α} {f : α → Store → SR} {Q : β → Hp → Prop} (rl : RL K cl L H τ σ) (h : SResR K cl L H (r.bindS τ f) D W)
    (step : ∀ a S L' H' z, Ext L L' H H' → RS K cl L' H' S → rel L' H' a z → SResR K cl L' H' (f a S) D W → Q z H') : ResR K cl L H rel r Q fun c d H' => W c d σ H' := by
  cases r with
  | ok a S => exact fun L2 H2 z e2 s r => step a S L2 H2 z e2 s r (SResR.mono (r := f a S) h e2)
  | exc c v S => exact fun L2 H2 d x e2 rs hd r => h L2 H2 σ d x e2 rs (rl.mono e2) hd r
  | stuck => exact h
def sO (K : PySem.W.Frag) (cl : Nat → Addr) (W : WX) (m : SM) : TS := fun D σ H => ∃ L τ S, RS K cl L H S ∧ RL K cl L H τ σ ∧ SResR K cl L H (m τ S) D W

theorem gs_stuck (h : sO K cl W sStuck D σ H) : tNever D σ H := by
  obtain ⟨L, τ, S, rs, rl, h⟩ := h; exact h
theorem gs_next (h : sO K cl W sNext D σ H) : tNext D σ H := by
  obtain ⟨L, τ, S, rs, rl, h⟩ := h; exact h L H σ (Ext.refl _ _) rs rl
theorem gs_break (h : sO K cl W sBreak D σ H) : tBreak D σ H := by
  obtain ⟨L, τ, S, rs, rl, h⟩ := h; exact h L H σ (Ext.refl _ _) rs rl
theorem gs_cont (h : sO K cl W sCont D σ H) : tCont D σ H := by
  obtain ⟨L, τ, S, rs, rl, h⟩ := h; exact h L H σ (Ext.refl _ _) rs rl
theorem gs_seq {a b : SM} (h : sO K cl W (sSeq a b) D σ H) : tSeq (sO K cl W a) (sO K cl W b) D σ H := by
  obtain ⟨L, τ, S, rs, rl, h⟩ := h
  refine ⟨L, τ, S, rs, rl, ?_⟩
  unfold sSeq at h
  cases e : a τ S with
  | nx τ1 S1 =>
    rw [e] at h
    exact fun L2 H2 σ2 e2 r2 l2 => ⟨L2, τ1, S1, r2, l2, SResR.mono h e2⟩
  | bk τ1 S1 => rw [e] at h; exact h
  | ct τ1 S1 => rw [e] at h; exact h
  | rt v S1 => rw [e] at h; exact h
  | exc c v τ1 S1 => rw [e] at h; exact h
  | stuck => rw [e] at h; exact h
theorem gs_ret {m : EM} (h : sO K cl W (sRet m) D σ H) : tRet (tO K cl W m) D σ H := by
  obtain ⟨L, τ, S, rs, rl, h⟩ := h
  exact ⟨L, τ, S, rs, rl, SResR.bindS rl h fun a S1 L1 H1 z e r p h1 => h1 L1 H1 z (Ext.refl _ _) r p⟩
theorem gs_retN (h : sO K cl W (sRet (cK .non)) D σ H) : tRetN D σ H := by
  obtain ⟨L, τ, S, rs, rl, h⟩ := h
  exact h L H .non (Ext.refl _ _) rs .non
theorem gs_expr {m : EM} (h : sO K cl W (sExpr m) D σ H) : tDrop (tO K cl W m) D σ H := by
  obtain ⟨L, τ, S, rs, rl, h⟩ := h
  exact ⟨L, τ, S, rs, rl, SResR.bindS rl h fun a S1 L1 H1 z e r p h1 => h1 L1 H1 σ (Ext.refl _ _) r (rl.mono e)⟩
theorem gs_asg {m : EM} {g : GM} {ws : List Nat} (h : sO K cl W (sAsg m g) D σ H) : tAsg (tO K cl W m) (gO K cl ws g) D σ H := by
  obtain ⟨L, τ, S, rs, rl, h⟩ := h
  refine ⟨L, τ, S, rs, rl, SResR.bindS rl h fun a S1 L1 H1 z e r p h1 => ?_⟩
  cases eg : g a τ with
  | none => rw [eg] at h1; exact h1.elim
  | some τ1 =>
    rw [eg] at h1
    exact ⟨L1, τ, S1, a, τ1, r, rl.mono e, p, eg, fun σ' rl' _ => h1 L1 H1 σ' (Ext.refl _ _) r rl'⟩
theorem gs_asgG {m : EM} {g : GM} {ws : List Nat} (h : sO K cl W (sAsg (cGc m) g) D σ H) : tAsg (tO K cl W m) (gO K cl ws g) D σ H := gl_gc (gs_asg h)
theorem gs_set {e o i : EM} (h : sO K cl W (sSet e o i) D σ H) : tAsg (tO K cl W e) (gSub (tO K cl W o) (tO K cl W i) (rSet1 K cl)) D σ H := by
  obtain ⟨L, τ, S, rs, rl, h⟩ := h
  refine ⟨L, τ, S, rs, rl, SResR.bindS rl h fun v S1 L1 H1 vz e1 r1 p1 h1 => ?_⟩
  have rl1 := rl.mono e1
  refine ⟨L1, τ, S1, r1, rl1, SResR.bindS rl1 h1 fun ov S2 L2 H2 oz e2 r2 p2 h2 => ?_⟩
  have rl2 := rl1.mono e2
  refine ⟨L2, τ, S2, r2, rl2, SResR.bindS rl2 h2 fun iv S3 L3 H3 iz e3 r3 p3 h3 => ?_⟩
  have rl3 := rl2.mono e3
  split at h3
  · rename_i S4 e4
    exact ⟨L3, S3, ov, iv, v, S4, r3, p2.mono e3, p3, (p1.mono e2).mono e3, e4, fun L4 H4 x4 r4 => h3 L4 H4 σ x4 r4 (rl3.mono x4)⟩
  · exact h3.elim
/-- an operation in place, by values -/
def rIp (K : PySem.W.Frag) (cl : Nat → Addr) (f : T → T → Store → R T) : TIp := rO2 K cl f
theorem gs_aug {i : Nat} {f : T → T → Store → R T} {m : EM} (cf : Calm2 f) (h : sO K cl W (sAug i f m) D σ H) : tAug i (tO K cl W m) (rO2 K cl f) D σ H := by
  obtain ⟨L, τ, S, rs, rl, h⟩ := h
  unfold sAug at h
  split at h
  · rename_i x ex
    obtain ⟨xv, h1, px⟩ := rl.at_ i x ex
    refine ⟨xv, h1, L, τ, S, rs, rl, SResR.bindS rl h fun y S1 L1 H1 z e r p h1 => ?_⟩
    have rl1 := rl.mono e
    refine ⟨L1, S1, x, y, r, px.mono e, p, ResR.calm (SResR.bindS (W := W) (rel := Rp K cl) rl1 h1 fun w S2 L2 H2 z2 e2 r2 p2 h2 => ?_) (cf x y S1)⟩
    exact h2 L2 H2 _ (Ext.refl _ _) r2 ((rl1.mono e2).set p2 i)
  · exact h.elim
theorem calm_opIxM : Calm2 opIxM := by
  intro t u S c v S' h
  cases t <;> first | cases h | exact calm_opIx _ _ _ _ _ _ h
theorem gs_augS {f : T → T → Store → R T} {o i e : EM} (cf : Calm2 f) (h : sO K cl W (sAugS f o i e) D σ H) : tAugS (tO K cl W o) (tO K cl W i) (tO K cl W e) (rO2 K cl opIxM) (rO2 K cl f) (rSet1 K cl) D σ H := by
  obtain ⟨L, τ, S, rs, rl, h⟩ := h
  refine ⟨L, τ, S, rs, rl, SResR.bindS rl h fun ov S1 L1 H1 oz e1 r1 p1 h1 => ?_⟩
  have rl1 := rl.mono e1
  refine ⟨L1, τ, S1, r1, rl1, SResR.bindS rl1 h1 fun iv S2 L2 H2 iz e2 r2 p2 h2 => ?_⟩
  have rl2 := rl1.mono e2
  refine ⟨L2, S2, ov, iv, r2, p1.mono e2, p2, ResR.calm (SResR.bindS (W := W) (rel := Rp K cl) rl2 h2 fun x S3 L3 H3 xz e3 r3 p3 h3 => ?_) (calm_opIxM ov iv S2)⟩
  have rl3 := rl2.mono e3
  refine ⟨L3, τ, S3, r3, rl3, SResR.bindS rl3 h3 fun y S4 L4 H4 yz e4 r4 p4 h4 => ?_⟩
  have rl4 := rl3.mono e4
  refine ⟨L4, S4, x, y, r4, p3.mono e4, p4, ResR.calm (SResR.bindS (W := W) (rel := Rp K cl) rl4 h4 fun z S5 L5 H5 zz e5 r5 p5 h5 => ?_) (cf x y S4)⟩
  have rl5 := rl4.mono e5
  split at h5
  · rename_i S6 e6
    exact ⟨L5, S5, ov, iv, z, S6, r5, (((p1.mono e2).mono e3).mono e4).mono e5, ((p2.mono e3).mono e4).mono e5, p5, e6, fun L6 H6 x6 r6 => h5 L6 H6 σ x6 r6 (rl5.mono x6)⟩
  · exact h5.elim
theorem gs_if {c : TM} {a b : SM} (h : sO K cl W (sIf c a b) D σ H) : tIfS (tOT K cl W c) (sO K cl W a) (sO K cl W b) D σ H := by
  obtain ⟨L, τ, S, rs, rl, h⟩ := h
  refine ⟨L, τ, S, rs, rl, SResR.bindS rl h fun v S1 L1 H1 b e r p h1 => ?_⟩
  cases p
  cases v with
  | true => exact ⟨L1, τ, S1, r, rl.mono e, h1⟩
  | false => exact ⟨L1, τ, S1, r, rl.mono e, h1⟩
theorem gs_while {c : TM} {body : SM} (h : sO K cl W (sWhile c body) D σ H) : tWhile (tOT K cl W c) (sO K cl W body) D σ H := by
  obtain ⟨L, τ, S, rs, rl, h⟩ := h
  refine ⟨fun m σ H => ∃ L τ S, RS K cl L H S ∧ RL K cl L H τ σ ∧ SResR K cl L H (whileF c body m τ S) D W, ⟨_, L, τ, S, rs, rl, h⟩, ?_⟩
  rintro m σ H ⟨L, τ, S, rs, rl, h⟩
  cases m with
  | zero => exact h.elim
  | succ m =>
    refine ⟨L, τ, S, rs, rl, ?_⟩
    unfold whileF at h
    cases e : c τ S with
    | stuck => rw [e] at h; exact h
    | exc k v S1 =>
      rw [e] at h
      exact fun L2 H2 d x e2 rs hd r => h L2 H2 σ d x e2 rs (rl.mono e2) hd r
    | ok b S1 =>
      rw [e] at h
      intro L1 H1 b' e1 r1 eb
      cases eb
      have rl1 := rl.mono e1
      cases b with
      | false => exact h L1 H1 σ e1 r1 rl1
      | true =>
        refine ⟨fun σ H => ∃ L τ S, RS K cl L H S ∧ RL K cl L H τ σ ∧ SResR K cl L H (whileF c body m τ S) D W, fun σ' H' q => ⟨m, Nat.lt_succ_self m, q⟩, L1, τ, S1, r1, rl1, ?_⟩
        simp only at h
        cases eb : body τ S1 with
        | nx τ2 S2 => rw [eb] at h; exact fun L2 H2 σ2 e2 r2 l2 => ⟨L2, τ2, S2, r2, l2, SResR.mono h (e1.trans e2)⟩
        | ct τ2 S2 => rw [eb] at h; exact fun L2 H2 σ2 e2 r2 l2 => ⟨L2, τ2, S2, r2, l2, SResR.mono h (e1.trans e2)⟩
        | bk τ2 S2 => rw [eb] at h; exact SResR.mono h e1
        | rt v S2 => rw [eb] at h; exact SResR.mono h e1
        | exc k v τ2 S2 => rw [eb] at h; exact SResR.mono h e1
        | stuck => rw [eb] at h; exact h
theorem gs_for {wi : IM} {g : GM} {body : SM} {ws : List Nat} (h : sO K cl W (sFor wi g body) D σ H) : tFor (iO K cl W wi) (gO K cl ws g) (sO K cl W body) D σ H := by
  obtain ⟨L, τ, S, rs, rl, h⟩ := h
  refine ⟨L, τ, S, rs, rl, SResR.bindS rl h fun p S1 L1 H1 J e1 r1 it h1 => ?_⟩
  have rl1 := rl.mono e1
  let WW : Nat → L2.St → Hp → Prop := fun i σ H => i ≤ p.1.length ∧ ∃ L' τ' S', RS K cl L' H S' ∧ RL K cl L' H τ' σ ∧ Ext L1 L' H1 H ∧ SResR K cl L' H (forL p.2 p.1 g body (p.1.drop i) τ' S') D W
  refine ⟨fun i m σ H => m = p.1.length - i ∧ WW i σ H, ⟨p.1.length, by simp, Nat.zero_le _, L1, τ, S1, r1, rl1, Ext.refl _ _, by simpa using h1⟩, ?_⟩
  rintro i m σ' H2 ⟨rfl, hi, L2', τ2, S2, r2, rl2, e2, hl⟩
  by_cases hlt : i < p.1.length
  · have hdrop : p.1.drop i = p.1[i] :: p.1.drop (i + 1) := List.drop_eq_getElem_cons hlt
    rw [hdrop] at hl
    simp only [forL] at hl
    split at hl
    case isFalse => exact hl.elim
    rename_i ok
    obtain ⟨go, yld, _⟩ := it L2' H2 S2 e2 r2 ok
    right
    refine ⟨go i hlt, WW (i + 1), fun σ3 H3 q => ⟨_, by omega, rfl, q⟩, fun x H3 y => ?_⟩
    obtain ⟨t, ht, e3, r3, pt⟩ := yld i x H3 hlt y
    rw [List.getElem?_eq_getElem hlt] at ht
    cases ht
    split at hl
    case h_1 => exact hl.elim
    rename_i τ3 eg
    refine ⟨L2', τ2, S2, p.1[i], τ3, r3, rl2.mono e3, pt, eg, fun σ4 rl4 _ => ⟨L2', τ3, S2, r3, rl4, ?_⟩⟩
    have e13 : Ext L1 L2' H1 H3 := e2.trans e3
    cases eb : body τ3 S2 with
    | nx τ5 S5 => rw [eb] at hl; exact fun L5 H5 σ5 e5 r5 l5 => ⟨hlt, L5, τ5, S5, r5, l5, e13.trans e5, SResR.mono hl (e3.trans e5)⟩
    | ct τ5 S5 => rw [eb] at hl; exact fun L5 H5 σ5 e5 r5 l5 => ⟨hlt, L5, τ5, S5, r5, l5, e13.trans e5, SResR.mono hl (e3.trans e5)⟩
    | bk τ5 S5 => rw [eb] at hl; exact SResR.mono hl e3
    | rt v S5 => rw [eb] at hl; exact SResR.mono hl e3
    | exc k v τ5 S5 => rw [eb] at hl; exact SResR.mono hl e3
    | stuck => rw [eb] at hl; exact hl
  · have hi' : i = p.1.length := by omega
    subst hi'
    rw [List.drop_length] at hl
    simp only [forL] at hl
    split at hl
    case isFalse => exact hl.elim
    rename_i ok
    obtain ⟨_, _, stop⟩ := it L2' H2 S2 e2 r2 ok
    exact .inl ⟨stop, hl L2' H2 σ' (Ext.refl _ _) r2 rl2⟩
/-! side by side -/
theorem setAll_rel : ∀ {is : List Nat} {vs : List T} {zs : List V} {τ τ' : Loc} {σ : L2.St}, RL K cl L H τ σ → Rps K cl L H vs zs → setAll τ is vs = some τ' → ∃ σ', RL K cl L H τ' σ' ∧ σ' = (is.zip zs).foldl (fun σ p => σ.set p.1 (some p.2)) σ ∧ zs.length = is.length
  | [], _, _, τ, τ', σ, rl, .nil, e => by simp only [setAll] at e; cases e; exact ⟨σ, rl, rfl, rfl⟩
  | _ :: _, _, _, _, _, _, rl, .nil, e => by simp [setAll] at e
  | [], _, _, _, _, _, rl, .cons h t, e => by simp [setAll] at e
  | i :: is, _, _, τ, τ', σ, rl, .cons h t, e => by
    simp only [setAll] at e
    obtain ⟨σ', h1, h2, h3⟩ := setAll_rel (rl.set h i) t e
    exact ⟨σ', h1, h2, by simp [h3]⟩
theorem gs_par {a : AM} {is : List Nat} (h : sO K cl W (sPar a is) D σ H) : tOA K cl W a σ H fun zs H1 => zs.length = is.length ∧ D.nx ((is.zip zs).foldl (fun σ p => σ.set p.1 (some p.2)) σ) H1 := by
  obtain ⟨L, τ, S, rs, rl, h⟩ := h
  refine ⟨L, τ, S, rs, rl, SResR.bindS rl h fun vs S1 L1 H1 zs e r p h1 => ?_⟩
  split at h1
  · rename_i τ1 e1
    obtain ⟨σ', q1, q2, q3⟩ := setAll_rel (rl.mono e) p e1
    exact ⟨q3, by rw [← q2]; exact h1 L1 H1 σ' (Ext.refl _ _) r q1⟩
  · exact h1.elim
theorem gs_par2 {a : AM} {i j : Nat} (h : sO K cl W (sPar a [i, j]) D σ H) : tPar i j (tOA K cl W a) D σ H := by
  obtain ⟨L, τ, S, rs, rl, h⟩ := gs_par h
  refine ⟨L, τ, S, rs, rl, h.imp fun zs H' ⟨q1, q2⟩ => ?_⟩
  match zs, q1, q2 with
  | [v, w], _, q2 => exact ⟨v, w, rfl, q2⟩
theorem gs_par3 {a : AM} {i j l : Nat} (h : sO K cl W (sPar a [i, j, l]) D σ H) : tPar3 i j l (tOA K cl W a) D σ H := by
  obtain ⟨L, τ, S, rs, rl, h⟩ := gs_par h
  refine ⟨L, τ, S, rs, rl, h.imp fun zs H' ⟨q1, q2⟩ => ?_⟩
  match zs, q1, q2 with
  | [u, v, w], _, q2 => exact ⟨u, v, w, rfl, q2⟩
theorem calm_opIAdd : Calm2 opIAdd := by
  intro t u S c v S' h
  simp only [opIAdd] at h
  split at h <;> (try cases h) <;> (try (split at h)) <;> (try cases h) <;> (try (split at h)) <;> (try cases h)
theorem calm_opAug (op : Operator) : Calm2 (opAug op) := by
  cases op <;> first | exact calm_opIAdd | exact calm_opSub | exact calm_none
end
end EV
end
section
set_option Elab.async false
set_option linter.all false
set_option maxRecDepth 100000
set_option maxHeartbeats 8000000
set_option autoImplicit false
namespace EV
open PySem PySem.Spec PyProof.Rows L2
theorem ps_imp {X : Cx} {st : Stmt} {t t' : TS} (h : PS X st t) (i : ∀ D σ H, t' D σ H → t D σ H) : PS X st t' := ⟨fun pins s σ H D I q => h.run pins s σ H D I (i D σ H q)⟩
theorem pss_imp {X : Cx} {st : List Stmt} {t t' : TS} (h : PSs X st t) (i : ∀ D σ H, t' D σ H → t D σ H) : PSs X st t' := ⟨fun pins s σ H D I q => h.run pins s σ H D I (i D σ H q)⟩
section
variable {X : Cx} {cl : Nat → Addr}
theorem ad_iadd : OpR X (inplaceOp .Add) (rO2 X.K cl opIAdd) := opr_imp (OpR.or iop_add (OpR.or iop_add_str iop_ext)) fun x y H Q h => by
  obtain ⟨L, S, t, w, rs, px, py, h⟩ := h
  cases px with
  | int i =>
    cases py with
    | int j => exact .inl ⟨i, j, rfl, rfl, post_same rs (.int _) h⟩
    | _ => exact False.elim h
  | str i =>
    cases py with
    | str j =>
      simp only [opIAdd] at h
      split at h
      · rename_i hz
        exact .inr (.inl ⟨i, j, rfl, rfl, by rw [line_eq]; exact hz, post_same rs (.str _) h⟩)
      · exact False.elim h
    | _ => exact False.elim h
  | loc ha =>
    rename_i m a
    cases py with
    | loc hb =>
      rename_i n b
      simp only [opIAdd] at h
      split at h
      · rename_i xs ys e1 e2
        split at h
        · rename_i hz
          obtain ⟨vs, q1, r1⟩ := lst_of rs e1 ha
          obtain ⟨ws, q2, r2⟩ := lst_of rs e2 hb
          obtain ⟨e3, r3⟩ := rs.write (o' := .lst (xs ++ ys)) (u := .lst (vs ++ ws)) e1 ha fun e => ⟨_, upd_same, (r1.mono e).append (r2.mono e)⟩
          exact .inr (.inr ⟨a, b, vs, ws, rfl, rfl, q1, q2, by rw [line_eq, ← r1.length, ← r2.length]; exact hz, h _ _ _ e3 r3 (.loc ha)⟩)
        · exact False.elim h
      · exact False.elim h
    | _ => exact False.elim h
  | _ => exact False.elim h
theorem ad_isub : OpR X (inplaceOp .Sub) (rO2 X.K cl opSub) := opr_imp iop_sub fun x y H Q h => by
  obtain ⟨L, S, t, w, rs, px, py, h⟩ := h
  cases px with
  | int i =>
    cases py with
    | int j => exact ⟨i, j, rfl, rfl, post_same rs (.int _) h⟩
    | _ => exact False.elim h
  | _ => exact False.elim h
theorem ad_aug (op : Operator) : PIp X op (rO2 X.K cl (opAug op)) := by
  cases op <;> first | exact ad_iadd | exact ad_isub | exact fun pins s σ H x y v u Q I rx ry h => by obtain ⟨L, S, t, w, _, _, _, h⟩ := h; exact h.elim
theorem get_list : PGet X (rIxL X.K) := by
  intro pins s σ H x y v u Q I rx ry h
  obtain ⟨p, xs, i, z, rfl, rfl, hq, he, q⟩ := h
  cases rx
  obtain ⟨t, rfl⟩ := ry
  obtain ⟨its, r, pl, hz⟩ := I.list hq
  obtain ⟨j, h1, h2, h3, h4, h5⟩ := atI_get he
  obtain ⟨w, ew, rw'⟩ := r.get h2
  have hl := r.length
  have hn := line63
  have fin : EP X pins σ Q w s := ⟨z, H, I, rw', q⟩
  by_cases h0 : 0 ≤ i
  · have hj : i.toNat = j := by
      rw [seqIndex_of h0 h5] at h1
      exact Option.some.inj h1
    exact wpAny_getItem_list pl.isList h0 (by omega) (by rw [hj]; simpa using ew) fin
  · have hj : (i + (its.toArray.size : Int)).toNat = j := by
      rw [seqIndex_neg (by omega) h4] at h1
      rw [List.size_toArray, ← hl]
      exact Option.some.inj h1
    exact wpAny_getItem_list_neg pl.isList (by omega) (by rw [List.size_toArray] <;> omega) (by omega) (by rw [hj]; simpa using ew) fin
theorem get_dict : PGet X rIxD := by
  intro pins s σ H x y v u Q I rx ry h
  obtain ⟨a, kvs, k, z, rfl, rfl, e, l, q⟩ := h
  cases rx
  obtain ⟨_, hd, vs, rel, dd⟩ := dk_of I.hok e
  obtain ⟨w', hw, rw'⟩ := RelO.some_of (v := z) (o := valueAt vs k) (by rw [← l]; exact rel.val k)
  exact wpAny_getItem_of (kV_is ry) dd.mapOf hw ⟨z, H, I.tok _, rw', q⟩
theorem rd_ixM {K : PySem.W.Frag} (x y : V) (H : Hp) (Q : VK) (h : rO2 K cl opIxM x y H Q) : rIxL K x y H Q ∨ rIxD x y H Q := by
  obtain ⟨L, S, t, w, rs, px, py, h⟩ := h
  cases px with
  | loc hl =>
    rename_i n a
    cases py with
    | int i =>
      simp only [opIxM, opIx] at h
      split at h
      · rename_i xs e1
        split at h
        · rename_i v e
          obtain ⟨vs, q1, r1⟩ := lst_of rs e1 hl
          obtain ⟨z, h1, h2⟩ := atT_rel r1 e
          exact .inl ⟨_, _, i, z, rfl, rfl, SqL.of q1, h1, post_same rs h2 h⟩
        · exact False.elim h
      · rename_i kvs e1
        split at h
        · split at h
          · rename_i v e
            obtain ⟨ws, k, z, h0, h1, h2, h3⟩ := ix_dcase rs e1 hl (.int i) rfl e
            exact .inr ⟨_, ws, k, z, rfl, h0, h1, h2, post_same rs h3 h⟩
          · exact False.elim h
        · exact False.elim h
      · exact False.elim h
    | str i =>
      simp only [opIxM, opIx] at h
      split at h
      · rename_i kvs e1
        split at h
        · split at h
          · rename_i v e
            obtain ⟨ws, k, z, h0, h1, h2, h3⟩ := ix_dcase rs e1 hl (.str i) rfl e
            exact .inr ⟨_, ws, k, z, rfl, h0, h1, h2, post_same rs h3 h⟩
          · exact False.elim h
        · exact False.elim h
      · exact False.elim h
    | _ => exact False.elim h
  | _ => exact False.elim h
theorem ad_get : PGet X (rO2 X.K cl opIxM) := fun pins s σ H x y v u Q I rx ry h => (rd_ixM x y H Q h).elim (get_list pins s σ H x y v u Q I rx ry) (get_dict pins s σ H x y v u Q I rx ry)
theorem blk_fun (hk : X.env.scope.kind = .function) : X.env.blockKind = .function := by unfold Env.blockKind; rw [hk]; rfl
theorem star_fun : (fun e : Expr => match e with | .Starred .. => true | _ => false) = isStar := by
  funext e; cases e <;> rfl
theorem sw_not (e : Expr) (hc : isComp e = false) (t : Option Expr) (l : Nat) : swapsWith e t l X.env = pure false := by
  cases e <;> first | rfl | (simp [isComp] at hc)
theorem sw_tup (e : Expr) (es : List Expr) (j : Nat) (p : Pos) (l : Nat) : swapsWithSole [.Tuple es j p] e l X.env = pure false := by cases e <;> rfl
theorem sw_sub (e : Expr) (o i : Expr) (p : Pos) (l : Nat) : swapsWithSole [.Subscript o i p] e l X.env = pure false := by cases e <;> rfl
theorem sp_tup (e : Expr) (es : List Expr) (j : Nat) (p : Pos) (h : isTuple e = false) : swappedStores [.Tuple es j p] e X.env = pure none := by cases e <;> first | rfl | (simp [isTuple] at h)
theorem sw_lc {elt : Expr} {gs : List Comprehension} {scope : Scope} {pos py : Pos} {y : Str} {l : Nat} (hk : X.env.scope.kind = .function) :
    swapsWith (.ListComp elt gs scope pos) (some (.Name y py)) l X.env = pure (X.env.scope.names.lookup y == some .local && py.line == pos.line && !(scope.names.any fun (n, k) => n == y && (k == .local || k == .cell))) := by
  have hb := blk_fun hk
  unfold swapsWith
  simp only [hb, Expr.pos]
  rfl
theorem lk_fun (env : Env) : env.kindOf = fun x => env.scope.names.lookup x := rfl
theorem sp_kind {ts vs : List Expr} {j j2 : Nat} {p p2 : Pos} (hk : X.env.scope.kind = .function) (hs : vs.any isStar = false) :
    (swKind (fun x => X.env.scope.names.lookup x) ts vs = some false → swappedStores [.Tuple ts j p] (.Tuple vs j2 p2) X.env = pure none) ∧
    (swKind (fun x => X.env.scope.names.lookup x) ts vs = some true → swappedStores [.Tuple ts j p] (.Tuple vs j2 p2) X.env = pure (some (swNames (fun x => X.env.scope.names.lookup x) ts)) ∧ (swNames (fun x => X.env.scope.names.lookup x) ts).length = ts.length) := by
  have hb := blk_fun hk
  have e1 : swappedStores [.Tuple ts j p] (.Tuple vs j2 p2) X.env = (do
      if (!(ts.length == 2 || ts.length == 3) || vs.length != ts.length || X.env.blockKind != .function) = true then return none
      if (vs.any fun e => match e with | .Starred .. => true | _ => false) = true then return none
      let names := swNames (fun x => X.env.scope.names.lookup x) ts
      if (names.length != ts.length || names.eraseDups.length != names.length) = true then return none
      if vs.all (foldedForSure 8) = true then return none
      if vs.all (constantsAlone 8) = true then unsupported "assign.tuple-of-constant-expressions:order-of-the-stores"
      return some names : Sem (Option (List Str))) := rfl
  rw [e1, star_fun, hs, hb]
  unfold swKind
  constructor
  · intro h
    split at h
    · rename_i h1; simp only [bne_self_eq_false, Bool.or_false, h1, if_true]
    · rename_i h1
      simp only [bne_self_eq_false, Bool.or_false, h1, Bool.false_eq_true, if_false]
      split at h
      · rename_i h2; simp only [h2, Bool.true_or, if_true]
      · rename_i h2
        split at h
        · cases h
        · rename_i h3
          simp only [h2, h3, Bool.or_false, Bool.false_eq_true, if_false]
          split at h
          · rename_i h4; simp only [h4, if_true]
          · split at h <;> cases h
  · intro h
    split at h
    · cases h
    · rename_i h1
      simp only [bne_self_eq_false, Bool.or_false, h1, Bool.false_eq_true, if_false]
      split at h
      · cases h
      · rename_i h2
        split at h
        · cases h
        · rename_i h3
          simp only [h2, h3, Bool.or_false, Bool.false_eq_true, if_false]
          split at h
          · cases h
          · rename_i h4
            split at h
            · cases h
            · rename_i h5
              simp only [h4, h5, Bool.false_eq_true, if_false]
              exact ⟨trivial, by simpa using h2⟩
end
end EV
end
section
set_option Elab.async false
set_option linter.all false
set_option maxRecDepth 100000
set_option maxHeartbeats 4000000
set_option autoImplicit false
namespace EV
open PySem PySem.Spec PyProof.Rows L2
/-! ### a caught exception is tracked -/
def ExT (cls : Value) (d : Option Addr) (a : Addr) : HO := .ext fun h => ∃ (oe : Obj) (vs : Array Value), h.get? a = some oe ∧ Zc cls d oe ∧ oe.data = .fields vs
section
variable {X : Cx} {pins : List (Addr × Obj)} {σ : L2.St} {H : Hp} {s : Shared}
theorem exT_ok {P : Program} {w : World} {h : Heap} {a : Addr} {cls : Value} {d : Option Addr} {oe : Obj} {vs : Array Value} (e : h.get? a = some oe) (z : Zc cls d oe) (q : oe.data = .fields vs) : ObjOk P w H h a (ExT cls d a) :=
  ⟨⟨oe, vs, e, z, q⟩, ⟨oe, e⟩, fun _ _ ⟨o, v, q1, q2⟩ k => ⟨o, v, k o q1, q2⟩⟩
theorem track_in {a : Addr} {o : HO} (I : Inv X pins σ H s) (na : H a = none) (n0 : X.s_0.heap.get? a = none) (nl : X.env.locals ≠ a) (nc : ∀ x c, X.env.cells.lookup x = some c → c ≠ a) (np : ∀ p ∈ X.pn ++ pins, p.1 ≠ a)
    (new : ObjOk X.prog X.w (upd H a o) s.heap a o) : Inv X pins σ (upd H a o) s := by
  have old : ∀ b u, H b = some u → b ≠ a := fun b u e z => by rw [z, na] at e; cases e
  refine ⟨I.ok, I.os, I.bare, ⟨I.base.keep, I.base.slot, fun b u e n q => ?_, I.base.there, fun b xs e => ?_, fun b u v e => ?_, fun b ps e => ?_⟩, I.loc, I.cell, ?_, fun x c e => ?_, fun p hp => ?_, fun b u e => ?_, I.len⟩
  · have hb : b ≠ a := fun z => by rw [z, n0] at e; cases e
    rw [upd_ne hb]
    exact I.base.free b u e n q
  · have q := I.base.tups b xs e
    rw [upd_ne (old _ _ q)]; exact q
  · have q := I.base.frzs b u v e
    rw [upd_ne (old _ _ q)]; exact q
  · obtain ⟨m, q⟩ := I.base.tbls b ps e
    exact ⟨m, by rw [upd_ne (old _ _ q)]; exact q⟩
  · rw [upd_ne nl]; exact I.free
  · rw [upd_ne (nc x c e)]; exact I.freeC x c e
  · obtain ⟨q1, q2, q3⟩ := I.pin p hp
    exact ⟨q1, by rw [upd_ne (np p hp)]; exact q2, q3⟩
  · by_cases hb : b = a
    · subst hb
      rw [upd_same] at e
      cases e
      exact new
    · rw [upd_ne hb] at e
      exact (I.hok b u e).stay (fun _ _ _ q => q) (fun c q => by rw [upd_ne (old _ _ q)]; exact q) fun c xs q => by rw [upd_ne (old _ _ q)]; exact q
end
section
variable {X : Cx} {pins : List (Addr × Obj)} {σ : L2.St} {H : Hp} {s : Shared}
theorem into_suite (J : Inv X pins σ H s) (e0 : Addr) : Inv (X.suite e0 (X.pn ++ pins)) [] σ H s :=
  ⟨J.ok.suite _ _, J.os, J.bare, J.base, J.loc, J.cell, J.free, J.freeC, fun q hq => J.pin q (by
    have hq' : q ∈ (X.pn ++ pins) ++ [] := hq
    rwa [List.append_nil] at hq'), J.hok, J.len⟩
theorem out_suite {e0 : Addr} (J : Inv (X.suite e0 (X.pn ++ pins)) [] σ H s) (ok : X.Ok) : Inv X pins σ H s :=
  ⟨ok, J.os, J.bare, J.base, J.loc, J.cell, J.free, J.freeC, fun q hq => J.pin q (by
    show q ∈ (X.pn ++ pins) ++ []
    rwa [List.append_nil]), J.hok, J.len⟩
/-- what the clause 'except c as name' wishes; slot i is the name's -/
def wTrk (K : PySem.W.Frag) (c : Value) (i : Nat) (ts : TS) (Wout : WX) (D : Ends) : WX := fun cls d τ H =>
  ∃ b, PySem.W.exmOne K cls c = some b ∧
    (b = true → ∀ e0, H e0 = none → ts ⟨fun τ' H' => D.nx (τ'.set i none) H', D.rt, fun τ' H' => D.bk (τ'.set i none) H', fun τ' H' => D.ct (τ'.set i none) H'⟩ (τ.set i (some (.ref e0))) (upd H e0 (ExT cls d e0))) ∧
    (b = false → Wout cls d τ H)
variable {x n : Str} {c : Value} {i : Nat} {body suite : List Stmt} {b₀ : Stmt} {np pos pos' : Pos} {tb : WX → TS} {ts : TS} {Wout : WX}
theorem try_track (stk : X.stack = X.env :: X.outer) (fr : X.env.frame = some X.env.locals) (hex : X.ex = []) (nd : X.N.Nodup) (hi : X.N[i]? = some n) (kl : X.env.kindOf n = some .local) (hc : Names X x c) (tk : Takes X Wout)
    (hb : ∀ (W : WX) (pn : List (Addr × Obj)) (xe : Value → Shared → Prop), Takes (X.tr pn xe) W → PassesOwn (model X.prog X.w) X.A X.env xe → PSs (X.tr pn xe) body (tb W))
    (hsu : ∀ (e0 : Addr) (pn : List (Addr × Obj)), PSs (X.suite e0 pn) (b₀ :: suite) ts) :
    PS X (.Try body [.ExceptHandler (some (.Name x np)) (some n) (b₀ :: suite) pos'] [] [] pos) (fun D τ H => tb (wTrk X.K c i ts Wout D) D τ H) := by
  refine ⟨fun pins s τ H D I hh => ?_⟩
  have okX := I.ok
  have frm : X.A.frames = some (X.env :: X.outer) := by rw [okX.frames, stk]
  refine wpAny_Try_except ?_
  let after : Value → Shared → Prop := fun e s₁ => wpAny (model X.prog X.w) X.A (noteFrame e X.env)
    (fun _ s₂ => wpAny (model X.prog X.w) X.A (setFlight e none)
      (fun _ s₃ => wpAny (model X.prog X.w) X.A (handleBy e X.env [.ExceptHandler (some (.Name x np)) (some n) (b₀ :: suite) pos'])
        (SP X pins D) X.xe s₃) X.xe s₂) X.xe s₁
  have caught : Takes (X.tr (X.pn ++ pins) after) (wTrk X.K c i ts Wout D) := by
    intro u s' air
    obtain ⟨e0, B, sI, pins', τ1, H1, cls, d, rfl, J0, nb, up, sky, na, os, ag, b, hb1, hyes, hno⟩ := air
    have J : Inv X pins τ1 H1 sI := J0.ofTry okX
    have sky1 : Sky B (X.env :: X.outer) e0 (Zc cls d) X.env.locals s'.heap := by rw [← stk]; exact sky
    show after (.ref e0) s'
    refine Sky.land Zc.steady frm fr sky1 fun h3 fl3 up3 => ?_
    have J3 : Inv X pins τ1 H1 { s' with heap := h3 } := J.landed nb fl3.1 (up.trans up3) os ag
    obtain ⟨ob3, vs3, at3, z3, dt3⟩ := fl3.there
    have notIn : e0 ∉ frs (X.env :: X.outer) := fun hm => by
      obtain ⟨_, o', e', hnf⟩ := fl3.2.2.1.mem hm
      rw [at3] at e'; cases e'
      exact hnf _ dt3
    have nL : X.env.locals ≠ e0 := fun z => notIn (List.mem_filterMap.mpr ⟨X.env, List.mem_cons_self, by rw [fr, z]⟩)
    have nI : sI.heap.get? e0 = none := by
      cases q : sI.heap.get? e0 with
      | none => rfl
      | some o =>
        have := nb e0 o q (by rw [stk]; exact notIn)
        rw [fl3.2.1] at this; cases this
    have n0 : X.s_0.heap.get? e0 = none := by
      cases q : X.s_0.heap.get? e0 with
      | none => rfl
      | some o =>
        obtain ⟨o', q'⟩ := J.base.there e0 o q (by rw [hex]; exact fun z => nomatch z)
        rw [nI] at q'; cases q'
    have nC : ∀ y cc, X.env.cells.lookup y = some cc → cc ≠ e0 := fun y cc q z => by
      obtain ⟨v, o, q', _⟩ := J.cell y cc q
      rw [z, nI] at q'; cases q'
    have nP : ∀ p ∈ X.pn ++ pins, p.1 ≠ e0 := fun p hp z => by
      have q' := (J.pin p hp).1
      rw [z, nI] at q'; cases q'
    have S3 := into_suite J3 e0
    refine wpAny_handleBy_cons (codeAny_handlers_test ?_) (by intro q; cases q)
    have LT : PySem.W.Looks (model X.prog X.w) h3 (typeOf (.ref e0)) cls := fun A Q E s k q => wpAny_typeOf_ref (k _ _ at3) (by rw [z3.1]; exact q)
    have LM := PySem.W.exm_one (M := model X.prog X.w) J3.kIn LT hb1
    have look : ∀ {Q : Value → Shared → Prop} {E : Value → Shared → Prop}, Q c { s' with heap := h3 } →
        wpAny (model X.prog X.w) (X.A.mark (some (.ref e0))) (eval (.Name x np) X.env) Q E { s' with heap := h3 } := fun {Q E} q => by
      obtain ⟨g1, g2, g3 | ⟨g3, g4, g5⟩⟩ := hc
      · exact ld_glob (X := X.suite e0 (X.pn ++ pins)) S3 g1 g3 q g2
      · exact ld_blt (X := X.suite e0 (X.pn ++ pins)) S3 g1 g3 g4 q g5 g2
    refine look (LM.here ?_)
    cases b with
    | true =>
      refine codeAny_handlers_suite_as ?_
      refine HandSPX.lands_againZ fl3 fun h4 fl4 up4 => ?_
      have J4 : Inv X pins τ1 H1 { s' with heap := h4 } := J.landed nb fl4.1 ((up.trans up3).trans up4) os ag
      obtain ⟨ob4, vs4, at4, z4, dt4⟩ := fl4.there
      have T4 : Inv X pins τ1 (upd H1 e0 (ExT cls d e0)) { s' with heap := h4 } := track_in J4 na n0 nL nC nP (exT_ok at4 z4 dt4)
      have S4 := into_suite T4 e0
      refine store_ok (X := X.suite e0 (X.pn ++ pins)) (v := .ref e0) S4 nd hi (.inl kl) rfl (fun s5 S5 => ?_) (.inr kl)
      have goes : ∀ {τ6 : L2.St} {H6 : Hp} {s6 : Shared} {Q : Shared → Prop}, Inv (X.suite e0 (X.pn ++ pins)) [] τ6 H6 s6 → (∀ s7, Inv X pins (τ6.set i none) H6 s7 → Q s7) →
          wpAny (model X.prog X.w) X.A (do bindName X.env n .none; unbindBehindTheSuite X.env n pos') (fun _ s7 => Q s7) X.xe s6 := fun {τ6 H6 s6 Q} S6 q => gone_ok (out_suite S6 okX) nd hi kl q
      refine wpAny_mono ((hsu e0 (X.pn ++ pins)).run [] s5 _ _ _ S5 (hyes rfl e0 na)) (fun f s6 fin => ?_) (fun _ _ z => False.elim z)
      cases f with
      | next =>
        obtain ⟨_, _, S6, q6⟩ := fin
        exact goes S6 fun s7 J7 => ⟨_, _, J7, q6⟩
      | brk =>
        obtain ⟨_, _, S6, q6⟩ := fin
        exact goes S6 fun s7 J7 => ⟨_, _, J7, q6⟩
      | cont =>
        obtain ⟨_, _, S6, q6⟩ := fin
        exact goes S6 fun s7 J7 => ⟨_, _, J7, q6⟩
      | ret u =>
        obtain ⟨_, _, _, S6, r6, q6⟩ := fin
        exact goes S6 fun s7 J7 => ⟨_, _, _, J7, r6, q6⟩
    | false =>
      show wpAny _ X.A (handleBy (.ref e0) X.env []) _ _ _
      refine wpAny_handleBy_nil ?_
      obtain ⟨k1, k2, k3, oe, vs, T, oT, ts', he, hz, hd, h1, hr⟩ := id fl3
      unfold PySem.passOn
      refine wpAny_bind (wpAny_field he hd h1 ?_)
      rw [if_neg (show ¬ ((Value.ref T == Value.none) = true) by simp)]
      have flies : wpAny (model X.prog X.w) X.A (setFlight (.ref e0) X.env.frame)
          (fun _ s4 => wpAny (model X.prog X.w) X.A (throw (.ref e0) : Sem Flow) (SP X pins D) X.xe s4) X.xe { s' with heap := h3 } := by
        rw [fr]
        refine HandSPX.setFlight_upZ fl3 fun h4 hh4 up4 => wpAny_throw (tk _ _ ?_)
        exact ⟨e0, B, sI, pins, τ1, H1, cls, d, rfl, J, nb, (up.trans up3).trans up4, .inr (.inr (by rw [stk]; exact hh4)), na, os, ag, hno rfl⟩
      first
        | exact wpAny_bind (wpAny_pure (wpAny_bind flies))
        | exact wpAny_bind flies
  refine wpAny_mono ((hb (wTrk X.K c i ts Wout D) (X.pn ++ pins) after caught PassesOwn.looking).run [] s τ H D (I.toTry _) hh) (fun f s1 fin => ?_) (fun e s1 he => he)
  cases f with
  | next =>
    obtain ⟨_, _, I2, q2⟩ := fin
    exact wpAny_execs_nil ⟨_, _, I2.ofTry okX, q2⟩
  | brk =>
    obtain ⟨_, _, I2, q2⟩ := fin
    exact ⟨_, _, I2.ofTry okX, q2⟩
  | cont =>
    obtain ⟨_, _, I2, q2⟩ := fin
    exact ⟨_, _, I2.ofTry okX, q2⟩
  | ret u =>
    obtain ⟨_, _, _, I2, r2, q2⟩ := fin
    exact ⟨_, _, _, I2.ofTry okX, r2, q2⟩
end
end EV
end
section
set_option Elab.async false
set_option linter.all false
set_option maxRecDepth 100000
set_option maxHeartbeats 4000000
set_option autoImplicit false
namespace EV
open PySem PySem.Spec PyProof.Rows L2
theorem exT_same (C d a : Addr) : ExT (.ref C) (some d) a = ExH C d a := rfl
end EV
end
section
set_option Elab.async false
set_option linter.all false
set_option maxRecDepth 100000
set_option maxHeartbeats 4000000
set_option autoImplicit false
namespace EV
open PySem PySem.Spec PyProof.Rows L2
/-- the body of an __init__ that tells ValueError and keeps its value -/
def initB (p1 p2 p3 p4 p5 p6 q1 q2 q3 q4 : Pos) : List Stmt :=
  [.Expr (.Call (.Attribute (.Name "ValueError" p1) "__init__" p2) [.Name "self" p3, .Name "value" p4] [] p5) p6, .Assign [.Attribute (.Name "self" q1) "value" q2] (.Name "value" q3) q4]
def spInit (K : PySem.W.Frag) : Sp := fun vs H Q _ => ∃ a C y, vs = [.ref a, y] ∧ OexC K C ∧ PySem.W.findIn K (.ref C) "value" = some none ∧ H a = some (exo a C none) ∧
  ∀ dx, H dx = none → dx ≠ a → Q .non (upd (upd H dx (exd dx [(("value" : Str), y)])) a (exo a C (some dx)))
theorem ok_init {P : Program} {w : World} {K : PySem.W.Frag} {mg : Str → Option Value} {base : Heap} {f : Addr} {fd : FuncData} {qual : Str} {st : Stmt} {k : Nat} (F : Fun K "__init__" qual st f fd) (S : FnScope ["self", "value"] ["self", "value"] (defScope st))
    {p1 p2 p3 p4 p5 p6 q1 q2 q3 q4 : Pos} (eb : defBody st = initB p1 p2 p3 p4 p5 p6 q1 q2 q3 q4)
    (hc : ∀ env : Env, ∃ pl : Sem Bool, eval (.Call (.Attribute (.Name "ValueError" p1) "__init__" p2) [.Name "self" p3, .Name "value" p4] [] p5) env = (do
      let ov ← eval (.Name "ValueError" p1) env
      standAt p2.atName
      let (f, first) ← holding [ov] (getMethod ov "__init__" pl)
      callWith p5 f first (backTo p5 (starEach [.Name "self" p3, .Name "value" p4] env)) (backToKw p5 (keywordEach [] env)))) (gv : (defScope st).names.lookup ("ValueError" : Str) = some .globalImplicit) (l0 : (defScope st).names.lookup ("self" : Str) = some .local) (l1 : (defScope st).names.lookup ("value" : Str) = some .local)
    (mv : mg "ValueError" = none) (vV : PySem.W.findCls K (.type "ValueError") (.type "type") "__init__" = some (.val (.builtin "ValueError.__init__"))) : FnOk P w K mg base (L2.CX P w) (k + 1) f fd ["self", "value"] (spInit K) := by
  refine Fun.okX F S (fun vs H Q E h => ?_) (fun cdv A outer s H vs Q E hr h => ?_)
  · obtain ⟨a, C, y, rfl, _⟩ := h
    rfl
  · obtain ⟨a, C, y, rfl, T, nv, ha, q⟩ := h
    rw [eb]
    have v0 : ∀ p, PE (cxOf (L2.CX P w) P w K mg base ["self", "value"] qual (defScope st) f cdv A outer s H E) (.Name "self" p) (tVar 0) := fun p => pe_var rfl (.inl l0) (by decide) (by decide)
    have v1 : ∀ p, PE (cxOf (L2.CX P w) P w K mg base ["self", "value"] qual (defScope st) f cdv A outer s H E) (.Name "value" p) (tVar 1) := fun p => pe_var rfl (.inl l1) (by decide) (by decide)
    obtain ⟨pl, hc⟩ := hc (cxOf (L2.CX P w) P w K mg base ["self", "value"] qual (defScope st) f cdv A outer s H E).env
    refine ⟨_, pss_cons (ps_expr (pe_veinit gv mv vV (pa_cons (v0 p3) (pa_cons (v1 p4) pa_nil)) hc)) (pss_one (ps_ost (f := "value") (v0 q1) (v1 q3))), ?_⟩
    refine ⟨.ref a, rfl, y, rfl, a, C, [y], rfl, by simp, T, ha, y, rfl, .ref a, rfl, a, C, rfl, T, nv, .inl ⟨ha, fun dx h1 h2 => q dx h1 h2⟩⟩
end EV
end
section
set_option Elab.async false
set_option linter.all false
set_option maxRecDepth 100000
set_option maxHeartbeats 4000000
set_option autoImplicit false
namespace EV
open PySem PySem.Spec PyProof.Rows L2
/-- a class that may be raised: its __init__ is the one at fI -/
structure MkK (K : PySem.W.Frag) (C fI : Addr) : Prop where
  T : OexC K C
  iC : PySem.W.findIn K (.ref C) "__init__" = some (some (.ref fI))
  tI : PySem.W.typeIn K (.ref fI) = some (.type "function")
  nv : PySem.W.findIn K (.ref C) "value" = some none
section
variable {X : Cx} {cl : Nat → Addr} {W : WX} {σ : L2.St} {H : Hp} {D : Ends}
theorem upd_del {H : Hp} {a d : Addr} {o1 o2 o3 o4 : HO} (na : H a = none) (hd : d ≠ a) : upd (L2.del (upd (upd (upd H a o1) d o2) a o3) a) d o4 = upd H d o4 := by
  funext b
  by_cases h1 : b = d
  · subst h1; rw [upd_same, upd_same]
  · rw [upd_ne h1, upd_ne h1]
    by_cases h2 : b = a
    · subst h2; rw [del_same, na]
    · rw [del_ne h2, upd_ne h2, upd_ne h1, upd_ne h2]
theorem ad_raise {k c : Nat} {x : Str} {e : Expr} {m : EM} {fI : Addr} {fd : FuncData} {p pos pos2 : Pos} (T : MkK X.K (cl c) fI) (hc : X.calm = true) (F1 : FnOk X.prog X.w X.K X.mg X.base (L2.CX X.prog X.w) k fI fd ["self", "value"] (spInit X.K)) (hr : Room (k + 1) X.A)
    (hb : Binds X.K fd ["self", "value"] []) (hg : Gl X x) (hm : X.mg x = some (.ref (cl c))) (hdb : (x == ("__debug__" : Str)) = false) (tk : Takes X W) (he : PE X e (tO X.K cl W m)) (hs : isStar e = false) :
    PS X (.Raise (some (.Call (.Name x p) [e] [] pos)) none pos2) (sO X.K cl W (sRaise c m)) := by
  refine ps_imp (L2.ps_raise hc tk (pmk_oex T.T T.iC T.tI F1 hr hb .nil passL hg hm (pa_cons he pa_nil (star_cons hs _ _)) hdb (star_cons hs _ _) rfl)) fun D σ H q => ?_
  obtain ⟨L, τ, S, rs, rl, q⟩ := q
  refine ⟨L, τ, S, rs, rl, SResR.bindS rl q fun v S1 L1 H1 z e1 r1 p1 q1 => ?_⟩
  refine ⟨by simp, fun a na => ?_⟩
  refine ⟨a, cl c, z, rfl, T.T, T.nv, upd_same, fun dx n1 n2 => ⟨rfl, dx, [(("value" : Str), z)], upd_same, by rw [upd_ne n2, upd_same], ?_, ?_⟩⟩
  · rwa [upd_ne n2] at n1
  · have nd : H1 dx = none := by rwa [upd_ne n2] at n1
    rw [upd_del na n2]
    obtain ⟨x1, x2⟩ := r1.new (u := .xd [(("value" : Str), z)]) nd
    exact q1 L1 _ σ dx z x1 x2 ((rl.mono e1).mono x1) upd_same (p1.mono x1)
end
end EV
end
section
set_option Elab.async false
set_option linter.all false
set_option maxRecDepth 100000
set_option maxHeartbeats 4000000
set_option autoImplicit false
namespace EV
open PySem PySem.Spec PyProof.Rows L2
section
variable {K : PySem.W.Frag} {cl : Nat → Addr} {L : List Addr} {H : Hp} {W : WX} {D : Ends} {σ : L2.St}
theorem goesN_ok {i : Nat} {r : SR} (h : SResR K cl L H (goesN i r) D W) (W' : WX) : SResR K cl L H r ⟨fun τ' H' => D.nx (τ'.set i none) H', D.rt, fun τ' H' => D.bk (τ'.set i none) H', fun τ' H' => D.ct (τ'.set i none) H'⟩ W' := by
  cases r with
  | nx τ S => exact fun L' H' σ' e rs rl => h L' H' _ e rs (rl.unset i)
  | bk τ S => exact fun L' H' σ' e rs rl => h L' H' _ e rs (rl.unset i)
  | ct τ S => exact fun L' H' σ' e rs rl => h L' H' _ e rs (rl.unset i)
  | rt v S => exact h
  | exc c v τ S => exact h.elim
  | stuck => exact h
theorem gs_try {body suite : SM} {catches : Nat → Bool} {i : Nat} {cv : Value} (hx : ∀ c, PySem.W.exmOne K (.ref (cl c)) cv = some (catches c)) (h : sO K cl W (sTryN body catches i suite) D σ H) :
    sO K cl (wTrk K cv i (sO K cl (fun _ _ _ _ => False) suite) W D) body D σ H := by
  obtain ⟨L, τ, S, rs, rl, h⟩ := h
  refine ⟨L, τ, S, rs, rl, ?_⟩
  unfold sTryN at h
  cases e : body τ S with
  | nx τ1 S1 => rw [e] at h; exact h
  | bk τ1 S1 => rw [e] at h; exact h
  | ct τ1 S1 => rw [e] at h; exact h
  | rt v S1 => rw [e] at h; exact h
  | stuck => rw [e] at h; exact h
  | exc c v τ1 S1 =>
    rw [e] at h
    simp only at h
    intro L1 H1 σ1 d x e1 r1 l1 hd px
    refine ⟨catches c, hx c, fun hb e0 n0 => ?_, fun hb => ?_⟩
    · rw [if_pos hb] at h
      obtain ⟨x1, x2⟩ := r1.new (u := ExT (.ref (cl c)) (some d) e0) n0
      have ne : d ≠ e0 := fun z => by rw [z, n0] at hd; cases hd
      refine ⟨L1, _, S1, x2, (l1.mono x1).set (.ex (H := upd H1 e0 (ExT (.ref (cl c)) (some d) e0)) (d := d) (x := x) upd_same (by rw [upd_ne ne]; exact hd) (px.mono x1)) i, ?_⟩
      exact SResR.mono (goesN_ok h _) (e1.trans x1)
    · rw [if_neg (by rw [hb]; decide)] at h
      exact h L1 H1 σ1 d x e1 r1 l1 hd px
end
end EV
end
section
set_option Elab.async false
set_option linter.all false
set_option maxRecDepth 100000
set_option maxHeartbeats 4000000
set_option autoImplicit false
namespace EV
open PySem PySem.Spec PyProof.Rows L2
structure GoodS (cl : Nat → Addr) (Γ : Cxt) (X : Cx) : Prop where
  N : X.N = Γ.N
  sc : X.env.scope = Γ.sc
  nd : X.N.Nodup
  tg : ∀ x, isLoc (Γ.sc.names.lookup x) = true → Γ.tg x = true → X.fn x = true ∨ X.env.scope.names.lookup x = some .local
  hk : ∀ c, ExcK X.K (cl c)
section
variable {cl : Nat → Addr} {Γ : Cxt} {X : Cx} {W : WX}
theorem GoodS.slot (g : GoodS cl Γ X) {x : Str} {i : Nat} (h : Γ.slot x = some i) : X.N[i]? = some x ∧ Vis X.env.scope x ∧ okName x = true := by
  unfold Cxt.slot at h
  split at h
  · rename_i hv
    simp only [Bool.and_eq_true] at hv
    refine ⟨by rw [g.N]; exact idx_get h, ?_, hv.2⟩
    rw [g.sc]
    have hv := hv.1
    unfold Vis
    cases e : Γ.sc.names.lookup x with
    | none => rw [e] at hv; simp [isVis] at hv
    | some q => rw [e] at hv; cases q <;> simp_all [isVis]
  · cases h
theorem GoodS.slotL (g : GoodS cl Γ X) {x : Str} {i : Nat} (h : Γ.slotL x = some i) : X.N[i]? = some x ∧ L2.Loc X.env.scope x ∧ (X.fn x = true ∨ X.env.scope.names.lookup x = some .local) := by
  unfold Cxt.slotL at h
  split at h
  · rename_i hv
    simp only [Bool.and_eq_true] at hv
    refine ⟨by rw [g.N]; exact idx_get h, ?_, g.tg x hv.1 hv.2⟩
    rw [g.sc]
    have hv := hv.1
    unfold L2.Loc
    cases e : Γ.sc.names.lookup x with
    | none => rw [e] at hv; simp [isLoc] at hv
    | some q => rw [e] at hv; cases q <;> simp_all [isLoc]
  · cases h
mutual
theorem adX : ∀ (d : Nat) (e : Expr), GoodS cl Γ X → PE X e (tO X.K cl W (denX d Γ e))
  | 0, _, _ => pe_stuck
  | d + 1, e, g => by
    cases e with
    | Name x pos =>
      simp only [denX]
      split
      · rename_i i hx
        obtain ⟨h1, h2, h3⟩ := g.slot hx
        obtain ⟨o1, o2, o3⟩ := ok_names h3
        exact pe_imp (pe_var h1 h2 o1 o2) fun _ _ _ q => gl_var q
      · exact pe_stuck
    | Constant c j pos =>
      cases c with
      | none => exact pe_cst pe_non fun _ _ => .non
      | bool b => exact pe_cst pe_bl fun _ _ => .bl b
      | int z => exact pe_cst pe_int fun _ _ => .int z
      | str z => exact pe_cst pe_str fun _ _ => .str z
      | _ => exact pe_stuck
    | Tuple es j pos => exact pe_imp (pe_tup (adXA d es g)) fun _ _ _ q => gl_tup q
    | List es pos => exact pe_imp (pe_lst (adXA d es g)) fun _ _ _ q => gl_lst q
    | Attribute o a pos =>
      simp only [denX]
      split
      · rename_i h
        obtain ⟨rfl, h0⟩ := h
        exact pe_value g.hk (adX d o g) (attr_base h0 _ _ _)
      · exact pe_stuck
    | _ => exact pe_stuck
theorem adXA : ∀ (d : Nat) (es : List Expr), GoodS cl Γ X → PA X es (tOA X.K cl W (denXA d Γ es))
  | 0, _, _ => pa_stuck
  | d + 1, [], g => pa_imp pa_nil fun _ _ _ q => gl_aNil q
  | d + 1, e :: r, g => by
    simp only [denXA]
    split
    · exact pa_stuck
    · rename_i hs
      simp only [Bool.not_eq_true] at hs
      exact pa_imp (pa_cons (adX d e g) (adXA d r g) (star_cons hs _ _)) fun _ _ _ q => gl_aCons q
end
theorem adXs : ∀ (d : Nat) (sts : List Stmt), GoodS cl Γ X → PSs X sts (sO X.K cl W (denXs d Γ sts))
  | 0, _, _ => pss_imp pss_never fun _ _ _ q => gs_stuck q
  | d + 1, [], g => pss_imp pss_nil fun D σ H q => gs_next q
  | d + 1, s :: r, g => by
    simp only [denXs]
    split
    · rename_i x xp e pos
      split
      · rename_i i hx
        split
        · exact pss_imp pss_never fun _ _ _ q => gs_stuck q
        · rename_i hc
          simp only [Bool.not_eq_true] at hc
          obtain ⟨h1, h2, h3⟩ := g.slotL hx
          refine pss_imp (pss_cons (t := sO X.K cl W (sAsg (cGc (denX d Γ e)) (EV.gName i))) (ps_imp (ps_set g.nd h1 h2 (adX (W := W) d e g) (sw_not e hc _ _) h3) fun D σ H q => ?_) (adXs d r g)) fun D σ H q => gs_seq q
          have q' := gs_asgG (ws := [i]) q
          obtain ⟨L, τ, S, rs, rl, h⟩ := q'
          exact ⟨L, τ, S, rs, rl, h.imp fun z H' h' => gl_gname h'⟩
      · exact pss_imp pss_never fun _ _ _ q => gs_stuck q
    · exact pss_imp pss_never fun _ _ _ q => gs_stuck q
end
end EV
end
section
set_option Elab.async false
set_option linter.all false
set_option maxRecDepth 100000
set_option maxHeartbeats 8000000
set_option autoImplicit false
namespace EV
open PySem PySem.Spec PyProof.Rows L2
section
variable {p : Prog} {cl : Nat → Addr} {k : Nat} {call : Nat → List T → Store → R T} {d : Nat}
variable {Γ : Cxt} {X : Cx} {W : WX}
theorem Good.slotP (g : Good p cl k call Γ X) {x : Str} {i : Nat} (h : Γ.slotP x = some i) : X.N[i]? = some x ∧ X.env.scope.names.lookup x = some .local := by
  unfold Cxt.slotP at h
  split at h
  · rename_i hv
    exact ⟨by rw [g.N]; exact idx_get h, by rw [g.sc]; simpa using hv⟩
  · cases h
theorem ps_stuck {st : Stmt} : PS X st (sO X.K cl W sStuck) := ps_imp ps_never fun _ _ _ q => gs_stuck q
variable (g : Good p cl k call Γ X) (tk : Takes X W)
include g tk
/-- name = e -/
theorem ad_asgName (x : Str) (xp : Pos) (e : Expr) (pos : Pos) {i : Nat} (hx : Γ.slotL x = some i) : PS X (.Assign [.Name x xp] e pos) (sO X.K cl W (sAsg (cGc (denE call d Γ e)) (EV.gName i))) := by
  obtain ⟨h1, h2, h3⟩ := g.slotL hx
  have fin : swapsWith e (some (.Name x xp)) pos.line X.env = pure false → PS X (.Assign [.Name x xp] e pos) (sO X.K cl W (sAsg (cGc (denE call d Γ e)) (EV.gName i))) := fun hs =>
    ps_imp (ps_set g.nd h1 h2 ((adE p cl k call d).E Γ X W e g tk) hs h3) fun D σ H q => by
      have q' := gs_asgG (ws := [i]) q
      obtain ⟨L, τ, S, rs, rl, h⟩ := q'
      exact ⟨L, τ, S, rs, rl, h.imp fun z H' h' => gl_gname h'⟩
  have never : denE call d Γ e = cStuck → PS X (.Assign [.Name x xp] e pos) (sO X.K cl W (sAsg (cGc (denE call d Γ e)) (EV.gName i))) := fun hd => ps_imp ps_never fun D σ H q => by
    rw [hd] at q
    obtain ⟨L, τ, S, rs, rl, h⟩ := q
    exact h
  cases hc : isComp e with
  | false => exact fin (sw_not e hc _ _)
  | true =>
    cases e with
    | ListComp elt gs scope lpos =>
      cases d with
      | zero => exact never rfl
      | succ d =>
        have hsw := sw_lc (X := X) (elt := elt) (gs := gs) (scope := scope) (pos := lpos) (py := xp) (y := x) (l := pos.line) g.kind
        generalize hb0 : (X.env.scope.names.lookup x == some .local && xp.line == lpos.line && !(scope.names.any fun (n, k) => n == x && (k == .local || k == .cell))) = b at hsw
        cases b with
        | false => exact fin hsw
        | true =>
          simp only [denE]
          split
          · rename_i tg iter ifs
            split
            · rename_i hb
              simp only [Bool.and_eq_true, List.all_eq_true] at hb
              obtain ⟨⟨hb, hw⟩, hset⟩ := hb
              have hb' : L2.blkC X.N X.env.scope scope (ownOf Γ.N scope.names) = true := by rw [g.N, g.sc]; exact hb
              have ih := adE p cl k call d
              simp only [Bool.and_eq_true] at hb0
              refine ps_imp (ps_setLc (own := ownOf Γ.N scope.names) (g := gO X.K cl (tgW d (Γ.blk scope) tg) (denG call d (Γ.blk scope) tg)) (tt := tOT X.K cl W0 (denF call d (Γ.blk scope) ifs)) (te := tO X.K cl W0 (cGc (denE call d (Γ.blk scope) elt))) g.calm g.nd h1 (by simpa using hb0.1.1) hsw (ih.I Γ X W tg iter g tk) (blkOk_by hb') (fun s H C cs fp => ih.G (Γ.blk scope) _ tg (g.blk hb s H C cs fp))
                (fun s H C cs fp => ih.F (Γ.blk scope) _ W0 ifs (g.blk hb s H C cs fp) takes0) (fun s H C cs fp => pe_imp (t' := tO X.K cl W0 (cGc (denE call d (Γ.blk scope) elt))) (ih.E (Γ.blk scope) _ W0 elt (g.blk hb s H C cs fp) takes0) fun _ _ _ q => gl_gc q) ?_) fun D σ H q => ?_
              · cases iter <;> first | (intro _; rfl) | (simp [isSetE] at hset)
              · have q' := gs_asgG (ws := [i]) q
                refine gl_lc (fun i hi => by simpa using hw i hi) ?_
                obtain ⟨L, τ, S, rs, rl, h⟩ := q'
                exact ⟨L, τ, S, rs, rl, h.imp fun z H' h' => gl_gname h'⟩
            · exact ps_imp ps_never fun D σ H q => by
                obtain ⟨L, τ, S, rs, rl, h⟩ := q
                exact h
          · exact ps_imp ps_never fun D σ H q => by
              obtain ⟨L, τ, S, rs, rl, h⟩ := q
              exact h
    | SetComp => exact never (by cases d <;> rfl)
    | DictComp => exact never (by cases d <;> rfl)
    | _ => simp [isComp] at hc
/-- one after another -/
theorem ad_asgTup (ts : List Expr) (j : Nat) (tp : Pos) (e : Expr) (pos : Pos) (hsp : swappedStores [.Tuple ts j tp] e X.env = pure none) : PS X (.Assign [.Tuple ts j tp] e pos) (sO X.K cl W (sAsg (cGc (denE call d Γ e)) (denG call d Γ (.Tuple ts j tp)))) :=
  ps_imp (ps_asg ((adE p cl k call d).E Γ X W e g tk) ((adE p cl k call d).G Γ X (.Tuple ts j tp) g) (sw_tup e ts j tp _) hsp (by rfl)) fun D σ H q => gs_asgG q
end
structure ExsOk (p : Prog) (cl : Nat → Addr) (X : Cx) : Prop where
  hk : ∀ c, ExcK X.K (cl c)
  ex : ∀ x c, p.gl.lookup x = some (.cls c) → ∀ c', PySem.W.exmOne X.K (.ref (cl c')) (.ref (cl c)) = some (p.subC c' c)
  mkr : ∃ fI fd, FnOk X.prog X.w X.K X.mg X.base (L2.CX X.prog X.w) 1 fI fd ["self", "value"] (spInit X.K) ∧ Binds X.K fd ["self", "value"] [] ∧ ∀ x c, p.gl.lookup x = some (.cls c) → MkK X.K (cl c) fI
structure Exx (p : Prog) (cl : Nat → Addr) (X : Cx) : Prop where
  stk : X.stack = X.env :: X.outer
  fr : X.env.frame = some X.env.locals
  hex : X.ex = []
  cls : (∃ x c, p.gl.lookup x = some (.cls c)) → ExsOk p cl X
section
variable (p : Prog) (cl : Nat → Addr) (k : Nat) (call : Nat → List T → Store → R T)
structure AdS (d : Nat) : Prop where
  S : ∀ (Γ : Cxt) (X : Cx) (W : WX) (st : Stmt), Good p cl k call Γ X → Takes X W → PassesOwn (model X.prog X.w) X.A X.env X.xe → Exx p cl X → PS X st (sO X.K cl W (denS call d Γ st))
  Ss : ∀ (Γ : Cxt) (X : Cx) (W : WX) (sts : List Stmt), Good p cl k call Γ X → Takes X W → PassesOwn (model X.prog X.w) X.A X.env X.xe → Exx p cl X → PSs X sts (sO X.K cl W (denSs call d Γ sts))
end
section
variable {p : Prog} {cl : Nat → Addr} {k : Nat} {call : Nat → List T → Store → R T} {d : Nat}
theorem fm_step {f : Expr → Option Str} {e : Expr} {x : Str} {r : List Expr} (hf : f e = some x ∨ f e = none) (h : ((e :: r).filterMap f).length = r.length + 1) : f e = some x ∧ (r.filterMap f).length = r.length := by
  have := List.length_filterMap_le f r
  rw [List.filterMap_cons] at h
  rcases hf with q | q
  · rw [q] at h; exact ⟨q, by simpa using h⟩
  · rw [q] at h; simp only at h; omega
theorem nm_or (kind : Str → Option NameKind) (l : Nat) (x : Str) (xp : Pos) : (if (kind x == some .local && xp.line == l) = true then some x else none) = some x ∨ (if (kind x == some .local && xp.line == l) = true then some x else none) = none := by
  split
  · exact .inl rfl
  · exact .inr rfl
theorem sw_two {kind : Str → Option NameKind} {x y : Str} {xp yp : Pos} (h : (swNames kind [.Name x xp, .Name y yp]).length = 2) : swNames kind [.Name x xp, .Name y yp] = [x, y] := by
  unfold swNames at h ⊢
  obtain ⟨h1, h2⟩ := fm_step (x := x) (nm_or _ _ _ _) h
  obtain ⟨h3, h4⟩ := fm_step (x := y) (nm_or _ _ _ _) h2
  rw [List.filterMap_cons, h1, List.filterMap_cons, h3]
  rfl
theorem sw_three {kind : Str → Option NameKind} {x y z : Str} {xp yp zp : Pos} (h : (swNames kind [.Name x xp, .Name y yp, .Name z zp]).length = 3) : swNames kind [.Name x xp, .Name y yp, .Name z zp] = [x, y, z] := by
  unfold swNames at h ⊢
  obtain ⟨h1, h2⟩ := fm_step (x := x) (nm_or _ _ _ _) h
  obtain ⟨h3, h4⟩ := fm_step (x := y) (nm_or _ _ _ _) h2
  obtain ⟨h5, h6⟩ := fm_step (x := z) (nm_or _ _ _ _) h4
  rw [List.filterMap_cons, h1, List.filterMap_cons, h3, List.filterMap_cons, h5]
  rfl
theorem ad_assign {Γ : Cxt} {X : Cx} {W : WX} (g : Good p cl k call Γ X) (tk : Takes X W) (tgs : List Expr) (e : Expr) (pos : Pos) : PS X (.Assign tgs e pos) (sO X.K cl W (denS call (d + 1) Γ (.Assign tgs e pos))) := by
  have ih := adE p cl k call d
  simp only [denS]
  split
  · rename_i tg
    split
    · rename_i o i sp
      split
      · exact ps_stuck
      · rename_i hs
        simp only [Bool.not_eq_true] at hs
        exact ps_imp (ps_asg (ih.E Γ X W e g tk) (pg_sub (ih.E Γ X W o g tk) (ih.E Γ X W i g tk) (ad_set (by have := g.room.un; omega)) (by intro v; cases i <;> first | rfl | (simp [isSlice] at hs))) (sw_sub e o i sp _) (by rfl) (by rfl)) fun D σ H q => gs_set q
    · rename_i ts j tp
      split
      · rename_i vs j2 p2
        split
        · rename_i hk
          split
          · exact ps_stuck
          · rename_i hs
            simp only [Bool.not_eq_true] at hs
            exact ad_asgTup g tk ts j tp _ pos ((sp_kind g.kind hs).1 (by rw [g.sc]; exact hk))
        · rename_i hk
          split
          · exact ps_stuck
          · rename_i hs
            simp only [Bool.not_eq_true] at hs
            have hw := (sp_kind (j := j) (p := tp) (j2 := j2) (p2 := p2) g.kind hs).2 (by rw [g.sc]; exact hk)
            split
            · rename_i x xp y yp a b
              split
              · rename_i i i' e1 e2
                split
                · rename_i hij
                  obtain ⟨n1, l1⟩ := g.slotP e1
                  obtain ⟨n2, l2⟩ := g.slotP e2
                  have en : swNames (fun x => X.env.scope.names.lookup x) [.Name x xp, .Name y yp] = [x, y] := sw_two hw.2
                  rw [en] at hw
                  exact ps_imp (ps_par g.calm g.nd n1 n2 hij l1 l2 (ih.A Γ X W [a, b] g tk) hw.1 (sw_tup _ _ _ _ _)) fun D σ H q => gs_par2 q
                · exact ps_stuck
              · exact ps_stuck
            · rename_i x xp y yp z zp a b c
              split
              · rename_i i i' i2 e1 e2 e3
                split
                · rename_i hij
                  obtain ⟨n1, l1⟩ := g.slotP e1
                  obtain ⟨n2, l2⟩ := g.slotP e2
                  obtain ⟨n3, l3⟩ := g.slotP e3
                  have en : swNames (fun x => X.env.scope.names.lookup x) [.Name x xp, .Name y yp, .Name z zp] = [x, y, z] := sw_three hw.2
                  rw [en] at hw
                  exact ps_imp (ps_par3 g.calm g.nd n1 n2 n3 hij.1 hij.2.1 hij.2.2 l1 l2 l3 (ih.A Γ X W [a, b, c] g tk) hw.1 (sw_tup _ _ _ _ _)) fun D σ H q => gs_par3 q
                · exact ps_stuck
              · exact ps_stuck
            · exact ps_stuck
        · exact ps_stuck
      · rename_i hn
        refine ad_asgTup g tk ts j tp e pos (sp_tup e ts j tp ?_)
        cases e <;> first | rfl | exact absurd rfl (hn _ _ _)
    · split
      · rename_i i hi
        exact ad_asgName g tk _ _ e pos hi
      · exact ps_stuck
    · exact ps_stuck
  · exact ps_stuck
theorem adS_succ (ih : AdS p cl k call d) : AdS p cl k call (d + 1) where
  S := fun Γ X W st g tk ps xx => by
    have ie := adE p cl k call d
    cases st with
    | Return v pos =>
      simp only [denS]
      split
      · exact ps_imp (ps_ret (ie.E Γ X W _ g tk)) fun D σ H q => gs_ret q
      · exact ps_imp ps_retN fun D σ H q => gs_retN q
    | Expr e pos =>
      simp only [denS]
      split
      · exact ps_stuck
      · rename_i hc
        simp only [Bool.not_eq_true] at hc
        exact ps_imp (ps_expr (ie.E Γ X W _ g tk) (sw_not e hc _ _)) fun D σ H q => gl_gc (gs_expr q)
    | Assign tgs e pos => exact ad_assign g tk tgs e pos
    | AugAssign tg op e pos =>
      simp only [denS]
      split
      · split
        · rename_i i hi
          obtain ⟨h1, h2, h3⟩ := g.slotL hi
          exact ps_imp (ps_aug g.nd h1 h2 (ie.E Γ X W _ g tk) (ad_aug op) h3) fun D σ H q => gs_aug (calm_opAug op) q
        · exact ps_stuck
      · rename_i o i sp
        split
        · exact ps_stuck
        · rename_i hs
          simp only [Bool.not_eq_true] at hs
          exact ps_imp (ps_augS (ie.E Γ X W o g tk) (ie.E Γ X W i g tk) ad_get (ie.E Γ X W _ g tk) (ad_aug op) (ad_set (by have := g.room.un; omega)) (by intro ov iv new; cases i <;> first | rfl | (simp [isSlice] at hs))) fun D σ H q => gs_augS (calm_opAug op) q
      · exact ps_stuck
    | If c a b pos =>
      simp only [denS]
      exact ps_imp (ps_if (ie.T Γ X W _ g tk) (ih.Ss Γ X W a g tk ps xx) (ih.Ss Γ X W b g tk ps xx)) fun D σ H q => gl_gcB (gs_if q)
    | For tg it body orelse pos =>
      simp only [denS]
      split
      · split
        · exact ps_stuck
        · rename_i hs
          simp only [Bool.not_eq_true] at hs
          exact ps_imp (ps_for ps g.calm (ie.I Γ X W tg it g tk) (ie.G Γ X tg g) (ih.Ss Γ X W body g tk ps xx) (by cases it <;> first | (intro _; rfl) | (simp [isSetE] at hs))) fun D σ H q => gs_for q
      · exact ps_stuck
    | While c body orelse pos =>
      simp only [denS]
      split
      · refine ps_imp (ps_while ps (tc := tOT X.K cl W (cGcB (denT call d Γ c))) (pt_imp (ie.T Γ X W c g tk) fun σ H Q q => gl_gcB q) (ih.Ss Γ X W body g tk ps xx)) fun D σ H q => gs_while q
      · exact ps_stuck
    | Pass pos => exact ps_imp ps_pass fun D σ H q => gs_next q
    | Break pos => exact ps_imp ps_break fun D σ H q => gs_break q
    | Continue pos => exact ps_imp ps_continue fun D σ H q => gs_cont q
    | Raise e cause pos =>
      simp only [denS]
      split
      · rename_i x xp a cp
        split
        · rename_i c h0 h1
          split
          · exact ps_stuck
          · rename_i hs
            simp only [Bool.not_eq_true] at hs
            obtain ⟨q1, q2, q3⟩ := g.glob h1
            obtain ⟨o1, o2, o3⟩ := ok_names q3
            have ok := xx.cls ⟨x, c, q2⟩
            obtain ⟨fI, fd, F1, B1, M1⟩ := ok.mkr
            exact ad_raise (M1 x c q2) g.calm F1 (g.room.mono (by omega)) B1 q1 (g.G.cls x c q2) o1 tk (ie.E Γ X W a g tk) hs
        · exact ps_stuck
      · exact ps_stuck
    | Try body hs orelse fin pos =>
      simp only [denS]
      split
      · rename_i x xp n b₀ suite hp
        split
        · rename_i c i h0 h1 h2
          obtain ⟨q1, q2, q3⟩ := g.glob h1
          obtain ⟨o1, o2, o3⟩ := ok_names q3
          obtain ⟨n1, n2⟩ := g.slotP h2
          have ok := xx.cls ⟨x, c, q2⟩
          have hsub : Γ.subC = p.subC := g.subC
          refine ps_imp (try_track (tb := fun W => sO X.K cl W (denSs call d Γ body)) (ts := sO X.K cl (fun _ _ _ _ => False) (denXs d Γ (b₀ :: suite))) xx.stk xx.fr xx.hex g.nd n1 n2 ⟨q1, o1, .inl (g.G.cls x c q2)⟩ tk (fun W pn xe tk' ps' => ?_) (fun e0 pn => ?_)) fun D σ H q => gs_try (fun c' => by rw [hsub]; exact ok.ex x c q2 c') q
          · exact ih.Ss Γ (X.tr pn xe) W body ⟨g.N, g.sc, g.kind, g.nd, g.calm, g.room, g.gl, g.ps, g.kw, g.subC, g.tg, g.G, g.C⟩ tk' ps' ⟨xx.stk, xx.fr, xx.hex, fun h => let z := xx.cls h; ⟨z.hk, z.ex, z.mkr⟩⟩
          · exact adXs (X := X.suite e0 pn) (Γ := Γ) d (b₀ :: suite) ⟨g.N, g.sc, g.nd, g.tg, ok.hk⟩
        · exact ps_stuck
      · exact ps_stuck
    | _ => exact ps_stuck
  Ss := fun Γ X W sts g tk ps xx => by
    cases sts with
    | nil => exact pss_imp pss_nil fun D σ H q => gs_next q
    | cons s r => exact pss_imp (pss_cons (ih.S Γ X W s g tk ps xx) (ih.Ss Γ X W r g tk ps xx)) fun D σ H q => gs_seq q
theorem adS (p : Prog) (cl : Nat → Addr) (k : Nat) (call : Nat → List T → Store → R T) : ∀ d, AdS p cl k call d
  | 0 => ⟨fun _ _ _ _ _ _ _ _ => ps_stuck, fun _ _ _ _ _ _ _ _ => pss_imp pss_never fun _ _ _ q => gs_stuck q⟩
  | d + 1 => adS_succ (adS p cl k call d)
end
end EV
end
section
set_option Elab.async false
set_option linter.all false
set_option maxRecDepth 100000
set_option maxHeartbeats 8000000
set_option autoImplicit false
namespace EV
open PySem PySem.Spec PyProof.Rows L2
structure Facts (p : Prog) (K : PySem.W.Frag) (mg : Str → Option Value) (cl : Nat → Addr) : Prop where
  G : GlOk p K mg cl
  D : ∀ i f, p.defs[i]? = some f → ∃ a fd qual, mg f.name = some (.ref a) ∧ Fun K f.name qual f.st a fd ∧ Binds K fd f.ps [] ∧ FnScope f.N f.ps (defScope f.st) ∧
    ∀ m ks, (i, m, ks) ∈ p.kw → KBinds K fd f.ps ks (gArg Value.none f.ps ks m) (gArg V.non f.ps ks m)
  kw : ∀ i m ks, (i, m, ks) ∈ p.kw → ks.Nodup ∧ ∀ f, p.defs[i]? = some f → m + ks.length = f.ps.length ∧ ∀ x ∈ f.ps.drop m, x ∈ ks
  cls : (∃ x c, p.gl.lookup x = some (.cls c)) → (∀ x c, p.gl.lookup x = some (.cls c) → ∀ c', PySem.W.exmOne K (.ref (cl c')) (.ref (cl c)) = some (p.subC c' c)) ∧
    ∃ fI fd, (∀ P w base, FnOk P w K mg base (L2.CX P w) 1 fI fd ["self", "value"] (spInit K)) ∧ Binds K fd ["self", "value"] [] ∧ ∀ x c, p.gl.lookup x = some (.cls c) → MkK K (cl c) fI
section
variable {p : Prog} {P : Program} {w : World} {K : PySem.W.Frag} {mg : Str → Option Value} {base : Heap} {cl : Nat → Addr}
theorem callF_len {k i : Nat} {f : Def} {ts : List T} {S : Store} (h : p.defs[i]? = some f) (hl : ts.length ≠ f.ps.length) : callF p k i ts S = .stuck := by
  cases k with
  | zero => rfl
  | succ k =>
    unfold callF
    rw [h]
    simp only
    rw [if_neg hl]
theorem rps_at {L : List Addr} {H : Hp} {n : Nat} {ts : List T} {vs : List V} (r : Rps K cl L H ts vs) : RL K cl L H (EV.start n ts) (vs.map some ++ List.replicate (n - vs.length) none) := by
  refine ⟨by simp [EV.start, r.length], fun i v h => ?_⟩
  unfold EV.start at h
  by_cases hi : i < ts.length
  · rw [List.getElem?_append_left (by simpa using hi), List.getElem?_map] at h
    cases e : ts[i]? with
    | none => rw [e] at h; cases h
    | some t =>
      rw [e] at h
      simp only [Option.map_some, Option.some.injEq] at h
      subst h
      obtain ⟨y, h1, h2⟩ := r.get e
      refine ⟨y, ?_, h2⟩
      rw [List.getElem?_append_left (by rw [List.length_map, ← r.length]; exact hi), List.getElem?_map, h1]
      rfl
  · rw [List.getElem?_append_right (by simpa using hi)] at h
    rw [List.getElem?_replicate] at h
    split at h
    · cases h
    · cases h
theorem end_ok {L : List Addr} {H : Hp} {S : Store} {r : SR} {Q : VK} {E : XK} (rs : RS K cl L H S) (h : ResR K cl L H (Rp K cl) (endOf S r) Q E) : SResR K cl L H r { nx := fun _ H' => Q .non H', rt := Q } fun c d _ H' => E c d H' := by
  cases r with
  | nx τ S' => exact fun L' H' σ' e r1 _ => gc_ok rs e r1 .non h
  | rt v S' => exact fun L' H' z e r1 rz => gc_ok rs e r1 rz h
  | bk τ S' => exact h.elim
  | ct τ S' => exact h.elim
  | exc c v τ S' => exact fun L' H' σ' d x e r1 _ hd rv => h L' H' d x e r1 hd rv
  | stuck => exact h
theorem callOk_zero (F : Facts p K mg cl) : CallOk p P w K mg base cl 0 (callF p 0) where
  at_ := fun i f h => by
    obtain ⟨a, fd, qual, h1, h2, h3, h4, h5⟩ := F.D i f h
    refine ⟨a, fd, h1, h2.kp, h3, ⟨fun vs H Q E q => q.1, fun A outer s H args us vs Q E hr he hb hv q => ?_⟩, h5⟩
    obtain ⟨_, L, S, ts, _, _, q⟩ := q
    exact q.elim
  len := fun i f ts S h hl => callF_len h hl
  kw := F.kw
theorem fnOk_of {k i : Nat} {f : Def} {a : Addr} {fd : FuncData} {qual : Str} (F : Facts p K mg cl) (C : ∀ (base : Heap), CallOk p P w K mg base cl k (callF p k)) (h : p.defs[i]? = some f) (h2 : Fun K f.name qual f.st a fd) (h4 : FnScope f.N f.ps (defScope f.st)) :
    FnOk P w K mg base (L2.CX P w) (k + 3) a fd f.ps (spF K cl f.ps.length (callF p (k + 1) i)) := by
  refine Fun.okX h2 h4 (fun vs H Q E q => q.1) (fun cdv A outer s H vs Q E hr q => ?_)
  obtain ⟨hl, L, S, ts, rs, rr, q⟩ := q
  have hl' : ts.length = f.ps.length := by rw [rr.length]; exact hl
  unfold callF at q
  rw [h] at q
  simp only [hl', if_true] at q
  have good : Good p cl k (callF p k) (p.cxt f) (cxOf (L2.CX P w) P w K mg base f.N qual (defScope f.st) a cdv A outer s H E) :=
    { N := rfl, sc := rfl, kind := h4.kind, nd := h4.nd, calm := rfl, room := hr, gl := rfl, ps := rfl, kw := rfl, subC := rfl, tg := fun x hx _ => .inl rfl
      G := F.G, C := C base }
  refine ⟨_, (adS p cl k (callF p k) DEEP).Ss (p.cxt f) _ (fun c d _ H => E c d H) (defBody f.st) good (takes_of rfl rfl rfl rfl) (passes_of (K := fun e s'' => L2.CX P w outer H s E e s'') rfl) ⟨rfl, rfl, rfl, fun h => by
    obtain ⟨z2, fI, fd, z3, z4, z5⟩ := F.cls h
    exact ⟨F.G.hk, z2, fI, fd, z3 P w base, z4, z5⟩⟩, ?_⟩
  exact ⟨L, _, S, rs, rps_at rr, end_ok rs q⟩
theorem callOk_succ {k : Nat} (F : Facts p K mg cl) (C : ∀ (base : Heap), CallOk p P w K mg base cl k (callF p k)) : CallOk p P w K mg base cl (k + 1) (callF p (k + 1)) where
  at_ := fun i f h => by
    obtain ⟨a, fd, qual, h1, h2, h3, h4, h5⟩ := F.D i f h
    exact ⟨a, fd, h1, h2.kp, h3, fnOk_of F C h h2 h4, h5⟩
  len := fun i f ts S h hl => callF_len h hl
  kw := F.kw
theorem callOk (F : Facts p K mg cl) : ∀ (k : Nat) (base : Heap), CallOk p P w K mg base cl k (callF p k)
  | 0, _ => callOk_zero F
  | k + 1, _ => callOk_succ F fun base => callOk F k base
end
end EV
end
section
set_option Elab.async false
set_option linter.all false
set_option maxRecDepth 100000
set_option maxHeartbeats 8000000
set_option autoImplicit false
namespace EV
open PySem PySem.Spec PyProof.Rows L2
theorem rps_ints {K : PySem.W.Frag} {cl : Nat → Addr} {L : List Addr} {H : Hp} : ∀ ns : List Int, Rps K cl L H (ns.map T.int) (ns.map V.int)
  | [] => .nil
  | n :: ns => .cons (.int n) (rps_ints ns)
theorem frl_of {K : PySem.W.Frag} {H : Hp} {a : Addr} {xs : List V} (o : Only H) (h : SqL K H a xs) : FrlAt K H a xs := by
  rcases h with h | h
  · rcases h with h | ⟨u, h⟩
    · rcases o a with z | ⟨u, ys, z⟩
      · rw [z] at h; cases h
      · rw [z] at h; cases h
    · exact .inl ⟨u, h⟩
  · exact .inr h
theorem rs_nil {K : PySem.W.Frag} {cl : Nat → Addr} {H : Hp} : RS K cl [] H [] := ⟨rfl, fun m n a h => by simp at h, fun n o h => by simp at h⟩
theorem law_end {l : PySem.W.OpenLaw} {n k : Nat} {q : Program} {loose : List Str} {XP : (Str → Option Value) → Heap → Prop} {YP : World → Heap → Prop} {d : DefRec} {K : Params → PySem.W.Frag} (p : Prog) (li : Nat) (f : Def)
    (hf : p.defs[li]? = some f) (hps : f.ps = [("script" : Str)]) (hd : d.name = f.name) (hn : l.most = some n) (hn2 : n ≤ sizeLine) (hdf : d.params.defaults = []) (hr : Room (k + 3) callerA) (hY : ∀ (w : World) (h : Heap), YP w h → (K w.params).In h)
    (F : ∀ (w : World) (mg : Str → Option Value) (h : Heap), (K w.params).In h → h.Ns mainGlobals mg → ∃ cl, Facts p (K w.params) mg cl)
    (B : ∀ (K : PySem.W.Frag) (a : Addr) (fd : FuncData) (qual : Str), Fun K f.name qual f.st a fd → ∀ u : Value, bindArgs fd ⟨[u], []⟩ = pure ([("script" : Str)].zip [u]))
    (res : ∀ ns : List Int, ns.length ≤ n → ∃ S, callF p (k + 1) li [.frl (ns.map T.int)] [] = .ok (.bl true) S) :
    PySem.W.WalkO q loose XP YP l.row.toRowW d [] (fun f vs => PySem.call f vs) := by
  refine L2.walk_of (l := l) (n := n) (k := k + 3) (x := ("script" : Str)) (CX := fun w => L2.CX l.prog w)
    (sp := fun w vs H Q _ => ∃ a ns, vs = [V.ref a] ∧ ns.length ≤ n ∧ Only H ∧ SqL (K w.params) H a (ns.map V.int) ∧ ∀ H', Q (.bl true) H') hn hn2 hdf hr hY ?_ (fun w H a ns h1 h2 h3 => ⟨a, ns, rfl, h1, h2, h3, fun _ => rfl⟩) (fun w H s e s' h => by
      obtain ⟨_, _, _, _, _, _, _, _, _, _, _, _, z⟩ := h
      exact z)
  intro w mg fa h KX G hmg
  obtain ⟨cl, F⟩ := F w mg h KX G
  obtain ⟨a, fd, qual, h1, h2, h3, h4, h5⟩ := F.D li f hf
  rw [← hd, hmg] at h1
  cases h1
  refine ⟨fd, fun s u => .of_eq (B _ _ _ _ h2 u), fun base Kb Nb => ?_⟩
  have m4 := fnOk_of (P := l.prog) (w := w) (base := base) F (fun base => callOk F k base) hf h2 h4
  rw [hps] at m4
  refine m4.imp fun vs H Q E q => ?_
  obtain ⟨b, ns, rfl, q1, q2, q3, q4⟩ := q
  refine ⟨rfl, [], [], [.frl (ns.map T.int)], rs_nil, .cons (.frl (frl_of q2 q3) (rps_ints ns)) .nil, ?_⟩
  obtain ⟨S, e⟩ := res ns q1
  rw [e]
  exact fun L' H' z _ _ rz => by
    cases rz
    exact q4 H'
end EV
namespace EV
open PySem PySem.Spec PyProof.Rows L2
/-! ### the facts of a program, row by row -/
section
variable {p : Prog} {K : PySem.W.Frag} {mg : Str → Option Value} {cl : Nat → Addr}
theorem lk_mem {β : Type} : ∀ {l : List (Str × β)} {x : Str} {v : β}, l.lookup x = some v → (x, v) ∈ l
  | [], _, _, h => by simp at h
  | (y, u) :: r, x, v, h => by
    rw [List.lookup_cons] at h
    split at h
    · rename_i e
      have e : x = y := by simpa using e
      cases h
      rw [e]; exact List.mem_cons_self
    · exact List.mem_cons_of_mem _ (lk_mem h)
def okFn (p : Prog) : Bool := p.gl.all fun e => match e.2 with
  | .fn i => (match p.defs[i]? with
    | some f => decide (f.name = e.1)
    | none => false)
  | _ => true
theorem gl_fn (h : okFn p = true) : ∀ x i, p.gl.lookup x = some (.fn i) → ∃ f, p.defs[i]? = some f ∧ f.name = x := fun x i e => by
  have q := List.all_eq_true.mp h _ (lk_mem e)
  simp only at q
  split at q
  · rename_i f hf; exact ⟨f, hf, by simpa using q⟩
  · cases q
def isCls : GV → Bool
  | .cls _ => true
  | _ => false
def noCls (p : Prog) : Bool := p.gl.all fun e => !isCls e.2
theorem gl_noc (h : noCls p = true) {x : Str} {i : Nat} : p.gl.lookup x ≠ some (.cls i) := fun e => by
  have q := List.all_eq_true.mp h _ (lk_mem e)
  simp [isCls] at q
theorem gl_cls (h : noCls p = true) : ∀ x i, p.gl.lookup x = some (.cls i) → mg x = some (.ref (cl i)) := fun x i e => absurd e (gl_noc h)
def AllP {α : Type} (P : α → Prop) : List α → Prop
  | [] => True
  | x :: r => P x ∧ AllP P r
theorem AllP.at_ {α : Type} {P : α → Prop} : ∀ {l : List α}, AllP P l → ∀ x ∈ l, P x
  | [], _, x, hx => by simp at hx
  | y :: r, h, x, hx => by
    rcases List.mem_cons.mp hx with rfl | hx
    · exact h.1
    · exact AllP.at_ h.2 x hx
def ConP (K : PySem.W.Frag) (mg : Str → Option Value) (cl : Nat → Addr) (e : Str × GV) : Prop := match e.2 with
  | .con v => ∃ xv u, mg e.1 = some u ∧ RelV xv u ∧ ∀ L H, Rp K cl L H v xv
  | _ => True
theorem gl_con (h : AllP (ConP K mg cl) p.gl) : ∀ x v, p.gl.lookup x = some (.con v) → ∃ xv u, mg x = some u ∧ RelV xv u ∧ ∀ L H, Rp K cl L H v xv := fun x v e => AllP.at_ h _ (lk_mem e)
def okBlt (p : Prog) : Bool := p.gl.all fun e => match e.2 with
  | .blt b => decide (e.1 = bltName b)
  | _ => true
def BltP (mg : Str → Option Value) (e : Str × GV) : Prop := match e.2 with
  | .blt _ => mg e.1 = none
  | _ => True
theorem gl_blt (h : okBlt p = true) (h2 : AllP (BltP mg) p.gl) : ∀ x b, p.gl.lookup x = some (.blt b) → x = bltName b ∧ mg x = none := fun x b e => by
  have q := List.all_eq_true.mp h _ (lk_mem e)
  simp only [decide_eq_true_eq] at q
  exact ⟨q, AllP.at_ h2 _ (lk_mem e)⟩
def DefP (p : Prog) (K : PySem.W.Frag) (mg : Str → Option Value) (i : Nat) (f : Def) : Prop := ∃ a fd qual, mg f.name = some (.ref a) ∧ Fun K f.name qual f.st a fd ∧ Binds K fd f.ps [] ∧ FnScope f.N f.ps (defScope f.st) ∧
    ∀ m ks, (i, m, ks) ∈ p.kw → KBinds K fd f.ps ks (gArg Value.none f.ps ks m) (gArg V.non f.ps ks m)
def AllD (P : Nat → Def → Prop) : Nat → List Def → Prop
  | _, [] => True
  | i, f :: r => P i f ∧ AllD P (i + 1) r
theorem AllD.at_ {P : Nat → Def → Prop} : ∀ {l : List Def} {j : Nat}, AllD P j l → ∀ (i : Nat) (f : Def), l[i]? = some f → P (j + i) f
  | [], _, _, i, f, h => by simp at h
  | g :: r, j, h, 0, f, e => by simp at e; subst e; exact h.1
  | g :: r, j, h, i + 1, f, e => by
    have := AllD.at_ h.2 i f (by simpa using e)
    rw [show j + (i + 1) = j + 1 + i by omega]
    exact this
theorem all_defs (h : AllD (DefP p K mg) 0 p.defs) : ∀ i f, p.defs[i]? = some f → DefP p K mg i f := fun i f e => by
  have := AllD.at_ h i f e
  rwa [Nat.zero_add] at this
end

/-! ### classes of exceptions, calls with keywords -/
section
variable {p : Prog} {K : PySem.W.Frag} {mg : Str → Option Value} {cl : Nat → Addr}
def ClsP (P : Str → Nat → Prop) (e : Str × GV) : Prop := match e.2 with
  | .cls j => P e.1 j
  | _ => True
theorem gl_clsP {P : Str → Nat → Prop} (h : AllP (ClsP P) p.gl) : ∀ x j, p.gl.lookup x = some (.cls j) → P x j := fun x j e => AllP.at_ h _ (lk_mem e)
theorem gl_clsD {P : Str → Nat → Prop} (h : AllP (ClsP P) p.gl) : ∀ x j, p.gl.lookup x = some (.cls j) → P x j := gl_clsP h
theorem exm_of {C D : Addr} {b : Bool} (h : ExcK K C) (ht : PySem.W.typeIn K (.ref C) = some (.type "type")) (h4 : PySem.W.subIn K (.ref D) (.ref C) = some b) : PySem.W.exmOne K (.ref D) (.ref C) = some b :=
  PySem.W.exm_ref h.be h.hd ht h4
theorem kit_of_sub {C D : Addr} {b : Bool} (h : ExcK K C) (ht : PySem.W.typeIn K (.ref C) = some (.type "type")) (h4 : PySem.W.subIn K (.ref D) (.ref C) = some b) (hb : b = true ∨ D ≠ C) : PySem.W.kitOne K (.ref D) (.ref C) = some b := by
  obtain ⟨cd, hc, _⟩ := PySem.W.any_some h.hd
  have e2 : ((PySem.W.clsIn K C).isSome && PySem.W.typeIn K (.ref C) == some (.type "type")) = true := by rw [hc, ht] <;> rfl
  unfold PySem.W.kitOne PySem.W.kitCls
  simp only [e2, if_true, h4]
  split
  · rename_i q
    rcases hb with rfl | hb
    · rfl
    · have q2 : Value.ref D = Value.ref C := by simpa using q
      cases q2
      exact absurd rfl hb
  · rfl
theorem ne_of_sub {C D : Addr} (h1 : PySem.W.subIn K (.ref C) (.ref D) = some false) (h2 : PySem.W.subIn K (.ref D) (.ref D) = some true) : C ≠ D := fun e => by
  subst e
  rw [h1] at h2
  cases h2
theorem pick_rel : ∀ {ks : List Str} {zs : List V} {ws : List Value} (x : Str), Vals zs ws → RelV (pick V.non ks zs x) (pick Value.none ks ws x)
  | [], _, _, _, _ => rfl
  | k :: ks, [], _, x, .nil => rfl
  | k :: ks, _, _, x, .cons r t => by
    unfold pick
    split
    · exact r
    · exact pick_rel x t
theorem vals_map {ks : List Str} {zs : List V} {ws : List Value} (r : Vals zs ws) : ∀ l : List Str, Vals (l.map (pick V.non ks zs)) (l.map (pick Value.none ks ws))
  | [] => .nil
  | x :: l => .cons (pick_rel x r) (vals_map r l)
theorem vals_app : ∀ {vs zs : List V} {us ws : List Value}, Vals vs us → Vals zs ws → Vals (vs ++ zs) (us ++ ws)
  | _, _, _, _, .nil, h => h
  | _, _, _, _, .cons r t, h => .cons r (vals_app t h)
theorem kb_mk {fd : FuncData} {ps ks : List Str} {m : Nat} (hps : ps.length ≠ 0) (to : ∀ us ws : List Value, us.length = m → ws.length = ks.length → bindArgs fd ⟨us, ks.zip ws⟩ = pure (ps.zip (us ++ (ps.drop m).map (pick .none ks ws)))) :
    KBinds K fd ps ks (gArg Value.none ps ks m) (gArg V.non ps ks m) := by
  refine ⟨fun s us ws _ hl => ?_, fun {vs us zs ws} r z => ?_⟩
  · unfold gArg at hl ⊢
    split
    · rename_i h
      exact .of_eq (to us ws h.1 h.2)
    · rename_i h
      rw [if_neg h] at hl
      exact absurd hl.symm hps
  · unfold gArg
    rw [r.length, z.length]
    split
    · exact vals_app r (vals_map z _)
    · exact .nil
theorem kb_of {x qual : Str} {st : Stmt} {f : Addr} {fd : FuncData} {ps ks : List Str} {m : Nat} (F : Fun K x qual st f fd) (hps : ps.length ≠ 0)
    (h : ∀ (kV doc pm : Value) (an : Option Addr) (cdv ct : Value) (us ws : List Value), us.length = m → ws.length = ks.length → bindArgs (PySem.W.fnOf x qual (defArgs st) (defBody st) (defScope st) .none kV doc pm an cdv ct) ⟨us, ks.zip ws⟩ = pure (ps.zip (us ++ (ps.drop m).map (pick .none ks ws)))) :
    KBinds K fd ps ks (gArg Value.none ps ks m) (gArg V.non ps ks m) := by
  obtain ⟨oc, od, kV, doc, pm, an, cdv, ct, osl, rfl, lk, hcd⟩ := F.ex
  exact kb_mk hps (h kV doc pm an cdv ct)
theorem kw_no {i : Nat} {C : Nat → List Str → Prop} (h : (p.kw.all fun e => decide (e.1 ≠ i)) = true) : ∀ m ks, (i, m, ks) ∈ p.kw → C m ks := fun m ks hm => by
  have := List.all_eq_true.mp h _ hm
  simp at this
/-- the rows of calls with keywords -/
def KwP (ps : Nat → List Str) (e : Nat × Nat × List Str) : Bool := decide (e.2.2.Nodup) && decide (e.2.1 + e.2.2.length = (ps e.1).length) && ((ps e.1).drop e.2.1).all fun x => decide (x ∈ e.2.2)
theorem kw_all (h : (p.kw.all (KwP p.psOf)) = true) : ∀ i m ks, (i, m, ks) ∈ p.kw → ks.Nodup ∧ ∀ f, p.defs[i]? = some f → m + ks.length = f.ps.length ∧ ∀ x ∈ f.ps.drop m, x ∈ ks := fun i m ks hm => by
  have q := List.all_eq_true.mp h _ hm
  simp only [KwP, Bool.and_eq_true, decide_eq_true_eq, List.all_eq_true] at q
  refine ⟨q.1.1, fun f hf => ?_⟩
  have e : p.psOf i = f.ps := by unfold Prog.psOf; rw [hf]
  rw [e] at q
  exact ⟨q.1.2, q.2⟩
/-- what is looked up of a class -/
structure ClsF (K : PySem.W.Frag) (C fI : Addr) : Prop where
  xL : ∃ nm q N bs bm sn sub ab col dd k0 k1 k2 k3 k5, K.lookup C = some (excClassObj nm q C N bs bm true sn sub ab col dd k0 k1 k2 k3 k5 "ValueError.__new__") ∧ PySem.HandSPX.refsVE bm = true
  sa : PySem.W.findIn K (.ref C) "__setattr__" = some (some (.builtin "object.__setattr__"))
  iC : PySem.W.findIn K (.ref C) "__init__" = some (some (.ref fI))
  kC : PySem.W.keepIn K (.ref C) = true
  tC : PySem.W.typeIn K (.ref C) = some (.type "type")
  nn : PySem.W.kitOne K (.type "NoneType") (.ref C) = some false
  ex : ExcK K C
theorem ClsF.mk' {C fI : Addr} (h : ClsF K C fI) (tI : PySem.W.typeIn K (.ref fI) = some (.type "function")) : MkK K C fI := ⟨⟨h.xL, h.sa, h.ex.be, h.tC, h.kC⟩, h.iC, tI, h.ex.nv⟩
end
def clsBody : Stmt → Nat → Stmt
  | .ClassDef _ _ _ b _ _ _ _ _ _ _, i => b.getD i (.Pass ⟨0, 0, 0, 0⟩)
  | s, _ => s
end EV
end
section
set_option Elab.async false
set_option linter.all false
set_option maxRecDepth 100000
set_option maxHeartbeats 4000000
set_option autoImplicit false
namespace EV
open PySem (Str)
theorem run_def {p : Prog} {k i : Nat} {f : Def} {vs : List T} {S : Store} {b : (Nat → List T → Store → R T) → SM} (hf : p.defs[i]? = some f) (hl : vs.length = f.ps.length) (hb : ∀ call, denSs call DEEP (p.cxt f) (L2.defBody f.st) = b call) :
    callF p (k + 1) i vs S = endOf S (b (callF p k) (start f.N.length vs) S) := by
  simp only [callF, hf, hl, if_true, hb]
theorem run_def' {p : Prog} {k i : Nat} {f : Def} {vs : List T} {S : Store} {b : SM} (hf : p.defs[i]? = some f) (hl : vs.length = f.ps.length) (hb : denSs (callF p k) DEEP (p.cxt f) (L2.defBody f.st) = b) :
    callF p (k + 1) i vs S = endOf S (b (start f.N.length vs) S) := by
  simp only [callF, hf, hl, if_true, hb]
theorem keeps_refl (S : Store) : keeps S S := ⟨Nat.le_refl _, fun _ _ => .inl rfl⟩
theorem keeps_app (S G : Store) : keeps S (S ++ G) := ⟨by simp, fun i h => .inl (by rw [List.getElem?_append_left h])⟩
theorem gc_app {S G : Store} {v : T} (h : v.sco S.length = true) : gc S (S ++ G) v = .ok v S := by
  unfold gc
  rw [if_pos (keeps_app S G), if_pos h, List.take_left']
  rfl
@[simp] theorem gc_same (S : Store) (v : T) : gc S S v = .ok v S := by
  by_cases h : v.sco S.length = true
  · have := gc_app (G := []) h
    rwa [List.append_nil] at this
  · unfold gc
    rw [if_pos (keeps_refl S), if_neg h]
    cases v with
    | loc n =>
      have hn : S[n]? = none := by
        rw [List.getElem?_eq_none_iff]
        simp only [T.sco, decide_eq_true_eq] at h
        omega
      simp only [hn]
    | _ => rfl
theorem gcB_app (S G : Store) (b : Bool) : gcB S (S ++ G) b = .ok b S := by
  unfold gcB
  rw [if_pos (keeps_app S G), List.take_left']
  rfl
@[simp] theorem gcB_same (S : Store) (b : Bool) : gcB S S b = .ok b S := by
  have := gcB_app S [] b
  rwa [List.append_nil] at this
theorem gc_len {S S' : Store} {v : T} (h : S'.length = S.length) : gc S S' v = .ok v S' := by
  unfold gc
  split
  · split
    · rw [← h, List.take_length]
    · split
      · rename_i n hv
        have hn : S'[n]? = none := by
          rw [List.getElem?_eq_none_iff]
          simp only [T.sco, decide_eq_true_eq] at hv
          omega
        simp only [hn]
      · rfl
  · rfl
theorem gcB_len {S S' : Store} {b : Bool} (h : S'.length = S.length) : gcB S S' b = .ok b S' := by
  unfold gcB
  split
  · rw [← h, List.take_length]
  · rfl
theorem gc_one {S G : Store} {o : O} (h : o.sco S.length = true) : gc S (S ++ G ++ [o]) (.loc (S.length + G.length)) = .ok (.loc S.length) (S ++ [o]) := by
  unfold gc
  rw [List.append_assoc, if_pos (keeps_app S _), if_neg (by simp [T.sco])]
  have e : (S ++ (G ++ [o]))[S.length + G.length]? = some o := by
    rw [List.getElem?_append_right (by omega), List.getElem?_append_right (by omega)]
    simp
  simp only [e, h, if_true, List.take_left']
theorem gc_new {S : Store} {o : O} (h : o.sco S.length = true) : gc S (S ++ [o]) (.loc S.length) = .ok (.loc S.length) (S ++ [o]) := by
  have := gc_one (G := []) h
  simpa using this
/-! ### the steps, by rewriting -/
def SR.seq (r : SR) (f : Loc → Store → SR) : SR := match r with
  | .nx τ S => f τ S
  | r => r
@[simp] theorem SR.seq_nx (τ : Loc) (S : Store) (f : Loc → Store → SR) : (SR.nx τ S).seq f = f τ S := (rfl)
@[simp] theorem SR.seq_rt (v : T) (S : Store) (f : Loc → Store → SR) : (SR.rt v S).seq f = .rt v S := (rfl)
@[simp] theorem SR.seq_bk (τ : Loc) (S : Store) (f : Loc → Store → SR) : (SR.bk τ S).seq f = .bk τ S := (rfl)
@[simp] theorem SR.seq_ct (τ : Loc) (S : Store) (f : Loc → Store → SR) : (SR.ct τ S).seq f = .ct τ S := (rfl)
@[simp] theorem SR.seq_exc (c : Nat) (v : T) (τ : Loc) (S : Store) (f : Loc → Store → SR) : (SR.exc c v τ S).seq f = .exc c v τ S := (rfl)
@[simp] theorem SR.seq_stuck (f : Loc → Store → SR) : SR.stuck.seq f = .stuck := (rfl)
section
variable (τ : Loc) (S : Store)
@[simp] theorem x_cVar (i : Nat) : cVar i τ S = (match τ[i]? with | some (some v) => .ok v S | _ => .stuck) := (rfl)
@[simp] theorem x_cK (v : T) : cK v τ S = .ok v S := (rfl)
@[simp] theorem x_cUn (f : T → Store → R T) (a : EM) : cUn f a τ S = (a τ S).bind fun x S1 => f x S1 := (rfl)
@[simp] theorem x_cBin (f : T → T → Store → R T) (a b : EM) : cBin f a b τ S = (a τ S).bind fun x S1 => (b τ S1).bind fun y S2 => f x y S2 := (rfl)
@[simp] theorem x_cMt (ty : Store → T → Bool) (f : T → T → Store → R T) (a b : EM) : cMt ty f a b τ S = (a τ S).bind fun x S1 => if ty S1 x = true then (b τ S1).bind fun y S2 => f x y S2 else .stuck := (rfl)
@[simp] theorem x_cMt0 (ty : Store → T → Bool) (f : T → Store → R T) (a : EM) : cMt0 ty f a τ S = (a τ S).bind fun x S1 => if ty S1 x = true then f x S1 else .stuck := (rfl)
@[simp] theorem x_cBl (e : EM) : cBl e τ S = (e τ S).bind fun x S1 => (match x with | .bl b => .ok b S1 | _ => .stuck) := (rfl)
@[simp] theorem x_cNot (a : EM) : cNot a τ S = (cBl a τ S).bind fun b S1 => .ok (.bl (!b)) S1 := (rfl)
@[simp] theorem x_cAnd (a b : EM) : cAnd a b τ S = (cBl a τ S).bind fun c S1 => if c = true then b τ S1 else .ok (.bl false) S1 := (rfl)
@[simp] theorem x_cOr (a b : EM) : cOr a b τ S = (cBl a τ S).bind fun c S1 => if c = true then .ok (.bl true) S1 else b τ S1 := (rfl)
@[simp] theorem x_cIte (c : TM) (a b : EM) : cIte c a b τ S = (c τ S).bind fun d S1 => if d = true then a τ S1 else b τ S1 := (rfl)
@[simp] theorem x_cChain (f g : T → T → Store → R T) (a b c : EM) : cChain f g a b c τ S = (a τ S).bind fun x S1 => (b τ S1).bind fun y S2 => (f x y S2).bind fun z S3 => (match z with
  | .bl true => (c τ S3).bind fun u S4 => g y u S4
  | .bl false => .ok (.bl false) S3
  | _ => .stuck) := rfl
@[simp] theorem x_aNil : aNil τ S = .ok [] S := (rfl)
@[simp] theorem x_aCons (a : EM) (r : AM) : aCons a r τ S = (a τ S).bind fun x S1 => (r τ S1).bind fun xs S2 => .ok (x :: xs) S2 := (rfl)
@[simp] theorem x_cTup (a : AM) : cTup a τ S = (a τ S).bind fun xs S1 => if xs.length ≤ LINE then .ok (.tup xs) S1 else .stuck := (rfl)
@[simp] theorem x_cLst (a : AM) : cLst a τ S = (a τ S).bind fun xs S1 => if xs.length ≤ LINE then alloc (.lst xs) S1 else .stuck := (rfl)
@[simp] theorem x_cCall (f : List T → Store → R T) (a : AM) : cCall f a τ S = (a τ S).bind fun xs S1 => f xs S1 := (rfl)
@[simp] theorem x_tNot (a : TM) : tNot a τ S = (a τ S).bind fun b S1 => .ok (!b) S1 := (rfl)
@[simp] theorem x_tAnd (a b : TM) : tAnd a b τ S = (a τ S).bind fun c S1 => if c = true then b τ S1 else .ok false S1 := (rfl)
@[simp] theorem x_tOr (a b : TM) : tOr a b τ S = (a τ S).bind fun c S1 => if c = true then .ok true S1 else b τ S1 := (rfl)
@[simp] theorem x_tIte (c a b : TM) : tIte c a b τ S = (c τ S).bind fun d S1 => if d = true then a τ S1 else b τ S1 := (rfl)
@[simp] theorem x_tYes : tYes τ S = .ok true S := (rfl)
@[simp] theorem x_oNone : oNone τ S = .ok none S := (rfl)
@[simp] theorem x_oSome (e : EM) : oSome e τ S = (e τ S).bind fun x S1 => (match x with | .int i => .ok (some i) S1 | _ => .stuck) := (rfl)
@[simp] theorem x_cSl (e : EM) (l u : OM) : cSl e l u τ S = (e τ S).bind fun x S1 => (l τ S1).bind fun lo S2 => (u τ S2).bind fun hi S3 => opSl x lo hi S3 := (rfl)
@[simp] theorem x_cGc (e : EM) : cGc e τ S = (e τ S).bind fun v S' => gc S S' v := (rfl)
@[simp] theorem x_cGcB (e : TM) : cGcB e τ S = (e τ S).bind fun v S' => gcB S S' v := (rfl)
@[simp] theorem x_cIsI (subC : Nat → Nat → Bool) (e : EM) (t : Ty) : cIsI subC e t τ S = (e τ S).bind fun x S1 => (match isTy subC S1 x t with | some b => .ok (.bl b) S1 | none => .stuck) := (rfl)
@[simp] theorem x_cIsIs (subC : Nat → Nat → Bool) (e : EM) (ts : List Ty) : cIsIs subC e ts τ S = (e τ S).bind fun x S1 => (match isTys subC S1 x ts with | some b => .ok (.bl b) S1 | none => .stuck) := (rfl)
@[simp] theorem x_sNext : sNext τ S = .nx τ S := (rfl)
@[simp] theorem x_sStuck : sStuck τ S = .stuck := (rfl)
@[simp] theorem x_sBreak : sBreak τ S = .bk τ S := (rfl)
@[simp] theorem x_sCont : sCont τ S = .ct τ S := (rfl)
@[simp] theorem x_sSeq (a b : SM) : sSeq a b τ S = (a τ S).seq b := (rfl)
@[simp] theorem x_sExpr (e : EM) : sExpr e τ S = (e τ S).bindS τ fun _ S1 => .nx τ S1 := (rfl)
@[simp] theorem x_sRet (e : EM) : sRet e τ S = (e τ S).bindS τ fun v S1 => .rt v S1 := (rfl)
@[simp] theorem x_sAsg (e : EM) (g : GM) : sAsg e g τ S = (e τ S).bindS τ fun v S1 => (match g v τ with | some τ1 => .nx τ1 S1 | none => .stuck) := (rfl)
@[simp] theorem x_sSet (e o i : EM) : sSet e o i τ S = (e τ S).bindS τ fun v S1 => (o τ S1).bindS τ fun ov S2 => (i τ S2).bindS τ fun iv S3 => (match setIx ov iv v S3 with | some S4 => .nx τ S4 | none => .stuck) := (rfl)
@[simp] theorem x_sAug (i : Nat) (f : T → T → Store → R T) (e : EM) : sAug i f e τ S = (match τ[i]? with | some (some x) => (e τ S).bindS τ fun y S1 => (f x y S1).bindS τ fun z S2 => .nx (τ.set i (some z)) S2 | _ => .stuck) := (rfl)
@[simp] theorem x_sIf (c : TM) (a b : SM) : sIf c a b τ S = (c τ S).bindS τ fun d S1 => if d = true then a τ S1 else b τ S1 := (rfl)
@[simp] theorem x_sPar (a : AM) (is : List Nat) : sPar a is τ S = (a τ S).bindS τ fun vs S1 => (match setAll τ is vs with | some τ1 => .nx τ1 S1 | none => .stuck) := (rfl)
@[simp] theorem x_setAll0 : setAll τ [] [] = some τ := (rfl)
@[simp] theorem x_setAll1 (i : Nat) (is : List Nat) (v : T) (vs : List T) : setAll τ (i :: is) (v :: vs) = setAll (τ.set i (some v)) is vs := (rfl)
@[simp] theorem x_gName (i : Nat) (v : T) : gName i v τ = some (τ.set i (some v)) := (rfl)
@[simp] theorem x_gTup (gs : List T → Loc → Option Loc) (xs : List T) : gTup gs (.tup xs) τ = gs xs τ := (rfl)
@[simp] theorem x_gNil : gNil [] τ = some τ := (rfl)
@[simp] theorem x_gCons (g : GM) (r : List T → Loc → Option Loc) (x : T) (xs : List T) : gCons g r (x :: xs) τ = (g x τ).bind fun τ' => r xs τ' := (rfl)
@[simp] theorem x_endrt (v : T) (S' : Store) : endOf S (.rt v S') = gc S S' v := (rfl)
@[simp] theorem x_endnx (S' : Store) : endOf S (.nx τ S') = gc S S' .non := (rfl)
@[simp] theorem x_startlen (n : Nat) (vs : List T) : (start n vs) = vs.map some ++ List.replicate (n - vs.length) none := (rfl)
@[simp] theorem x_alloc (o : O) : alloc o S = .ok (.loc S.length) (S ++ [o]) := (rfl)
@[simp] theorem x_opAddI (i j : Int) : opAdd (.int i) (.int j) S = .ok (.int (i + j)) S := (rfl)
@[simp] theorem x_opSubI (i j : Int) : opSub (.int i) (.int j) S = .ok (.int (i - j)) S := (rfl)
@[simp] theorem x_opNeg (i : Int) : opNeg (.int i) S = .ok (.int (-i)) S := (rfl)
@[simp] theorem x_opCmp (p : Int → Int → Bool) (i j : Int) : opCmp p (.int i) (.int j) S = .ok (.bl (p i j)) S := (rfl)
@[simp] theorem x_bInt (i : Int) : bInt (.int i) S = .ok (.int i) S := (rfl)
@[simp] theorem x_bLenT (xs : List T) : bLen (.tup xs) S = .ok (.int xs.length) S := (rfl)
@[simp] theorem x_opEqI (i j : Int) : opEq (.int i) (.int j) S = .ok (.bl (decide (i = j))) S := by
  unfold opEq eqA
  by_cases h : i = j <;> simp [dS, T.dat, T.depth, pd, PySem.PyData.eqv, h]
@[simp] theorem x_opNeI (i j : Int) : opNe (.int i) (.int j) S = .ok (.bl (!decide (i = j))) S := by
  unfold opNe eqA
  by_cases h : i = j <;> simp [dS, T.dat, T.depth, pd, PySem.PyData.eqv, h]
@[simp] theorem x_opEqS (x y : Str) : opEq (.str x) (.str y) S = .ok (.bl (decide (x = y))) S := (rfl)
@[simp] theorem x_opNeS (x y : Str) : opNe (.str x) (.str y) S = .ok (.bl (!decide (x = y))) S := (rfl)
theorem opMul_ok {i j : Int} (h : (-(2 ^ 64) < i ∧ i < 2 ^ 64) ∨ (-(2 ^ 64) < j ∧ j < 2 ^ 64)) : opMul (.int i) (.int j) S = .ok (.int (i * j)) S := by
  have : CMulT i j = true := by
    unfold CMulT
    simp only [Bool.or_eq_true, Bool.and_eq_true, decide_eq_true_eq]
    exact .inl h
  simp only [opMul, this, if_true]
theorem opMod_ok {i j : Int} (h : 0 < j) : opMod (.int i) (.int j) S = .ok (.int (i % j)) S := by simp only [opMod, h, if_true]
theorem opDiv_ok {i j : Int} (h : 0 < j) (h2 : j < 2 ^ 64) : opDiv (.int i) (.int j) S = .ok (.int (i / j)) S := by
  have : j.natAbs.log2 < 9000 := by
    have : j.natAbs < 2 ^ 64 := by omega
    have := (Nat.log2_lt (by omega : j.natAbs ≠ 0)).mpr this
    omega
  simp only [opDiv, h, this, and_self, if_true]
theorem opPow_ok {i j : Int} (h : 0 ≤ j) (h2 : j ≤ 1000000) (h3 : i.natAbs < 2 ^ 64) : opPow (.int i) (.int j) S = .ok (.int (i ^ j.toNat)) S := by simp only [opPow, h, h2, h3, and_self, if_true]
@[simp] theorem opPow1018 : opPow (.int 10) (.int 18) S = .ok (.int (10 ^ 18)) S := by
  rw [opPow_ok S (by omega) (by omega) (by decide)]
  rfl
end
theorem line_ge {n : Nat} (h : n ≤ 1000000) : n ≤ LINE := by unfold LINE; omega
@[simp] theorem line_lit (n : Nat) (h : n ≤ 1000000) : (n ≤ LINE) = True := by simp [line_ge h]
end EV
end
section
set_option Elab.async false
set_option linter.all false
set_option maxRecDepth 100000
set_option maxHeartbeats 4000000
set_option autoImplicit false
namespace EV
/-! ### lists of the store -/
section
variable (τ : Loc) (S : Store)
theorem ix_at {xs : List T} {i : Int} {v : T} (h : atT xs i = some v) {n : Nat} (hn : S[n]? = some (.lst xs)) : opIx (.loc n) (.int i) S = .ok v S := by simp only [opIx, hn, h]
theorem atT_nat {xs : List T} {i : Nat} {v : T} (h : xs[i]? = some v) : atT xs (i : Int) = some v := by
  have hl : i < xs.length := (List.getElem?_eq_some_iff.mp h).1
  unfold atT ixN
  rw [if_pos (by omega), if_pos (by omega)]
  simpa using h
theorem atT_neg {xs : List T} {i : Nat} {v : T} (hi : 0 < i) (hl : i ≤ xs.length) (h : xs[xs.length - i]? = some v) : atT xs (-(i : Int)) = some v := by
  unfold atT ixN
  rw [if_neg (by omega), if_pos (by omega)]
  have : (-(i : Int) + xs.length).toNat = xs.length - i := by omega
  simp only [Option.bind_some, this, h]
theorem keeps_set {S : Store} {n : Nat} {o : O} (h : o.sco S.length = true) : keeps S (S.set n o) := by
  refine ⟨by simp, fun i hi => ?_⟩
  by_cases e : n = i
  · subst e
    exact .inr ⟨o, by rw [List.getElem?_set_self hi], h⟩
  · exact .inl (by rw [List.getElem?_set_ne e])
end
/-! ### the purse of the laws -/
noncomputable def takeP : SM := (sSeq (sAsg (cGc (cBin opIx (cVar 0) (cK (.int 0)))) (gName 2)) (sSeq (sSet (cBin opAdd (cBin opIx (cVar 0) (cK (.int 2))) (cK (.int 1))) (cVar 0) (cK (.int 2))) (sSeq (sIf (cGcB (tOr (cBl (cBin opEq (cUn bLen (cVar 2)) (cK (.int 0)))) (cBl (cBin (opCmp fun i j => decide (i < j)) (cVar 1) (cK (.int 2)))))) (sSeq (sRet (cK (.int 0))) sNext) sNext) (sSeq (sAsg (cGc (cBin opMod (cUn bInt (cBin opIx (cVar 0) (cK (.int 1)))) (cUn bLen (cVar 2)))) (gName 3)) (sSeq (sSet (cBin opAdd (cVar 3) (cK (.int 1))) (cVar 0) (cK (.int 1))) (sSeq (sAsg (cGc (cUn bInt (cBin opIx (cVar 2) (cVar 3)))) (gName 4)) (sSeq (sIf (cGcB (cBl (cBin (opCmp fun i j => decide (j ≤ i)) (cVar 4) (cBin opPow (cK (.int 10)) (cK (.int 18)))))) (sSeq (sSet (cBin opDiv (cVar 4) (cVar 1)) (cVar 2) (cVar 3)) (sSeq (sRet (cBin opMod (cUn bInt (cVar 4)) (cVar 1))) sNext)) sNext) (sSeq (sAsg (cGc (cBin opMod (cUn bInt (cBin opAdd (cBin opAdd (cBin opMul (cVar 4) (cK (.int 69621))) (cBin opMul (cBin opIx (cVar 0) (cK (.int 2))) (cK (.int 40014)))) (cK (.int 30269)))) (cK (.int 2147483647)))) (gName 5)) (sSeq (sAsg (cGc (cBin opMod (cUn bInt (cBin opAdd (cBin opMul (cVar 5) (cVar 5)) (cBin opMul (cBin opIx (cVar 0) (cK (.int 2))) (cK (.int 7211))))) (cK (.int 2147483629)))) (gName 5)) (sSeq (sAsg (cGc (cBin opMod (cUn bInt (cBin opMul (cVar 5) (cVar 5))) (cK (.int 2147483587)))) (gName 5)) (sSeq (sRet (cBin opMod (cUn bInt (cBin opDiv (cVar 5) (cK (.int 64)))) (cVar 1))) sNext)))))))))))
/-- the purse stands in the store: its cells at 0, itself at 1 -/
def Purse (G S : Store) : Prop := ∃ (cs : List Int) (a b : Int), (∀ c ∈ cs, 0 ≤ c) ∧ 0 ≤ a ∧ cs.length ≤ 1000 ∧ S = .lst (cs.map T.int) :: .lst [.loc 0, .int a, .int b] :: G
theorem take_ok {G S : Store} (h : Purse G S) (many : Int) (hm : many < 2 ^ 64) : ∃ r S', endOf S (takeP [some (.loc 1), some (.int many), none, none, none, none] S) = .ok (.int r) S' ∧ Purse G S' ∧ 0 ≤ r ∧ (r < many ∨ r = 0) := by
  obtain ⟨cs, a, b, hc, ha, hl, rfl⟩ := h
  by_cases h1 : cs = [] ∨ many < 2
  · refine ⟨0, .lst (cs.map T.int) :: .lst [.loc 0, .int a, .int (b + 1)] :: G, ?_, ⟨cs, a, b + 1, hc, ha, hl, rfl⟩, by omega, .inr rfl⟩
    unfold takeP
    rcases h1 with rfl | h1
    · simp [opIx, atT, ixN, setIx, bLen, gc_len]
    · simp [opIx, atT, ixN, setIx, bLen, h1, gc_len]
  · have h2 : cs ≠ [] := fun e => h1 (.inl e)
    have h3 : ¬ many < 2 := fun e => h1 (.inr e)
    have hpos : 0 < (cs.length : Int) := by
      have := List.length_pos_iff.mpr h2; omega
    have m0 := Int.emod_nonneg a (show (cs.length : Int) ≠ 0 by omega)
    have m1 := Int.emod_lt_of_pos a hpos
    generalize hat : a % (cs.length : Int) = at_ at m0 m1
    obtain ⟨i, rfl⟩ : ∃ i : Nat, at_ = i := ⟨at_.toNat, by omega⟩
    have hi : i < cs.length := by omega
    have hx : (cs.map T.int)[i]? = some (.int cs[i]) := by simp [hi]
    have hc0 := hc _ (List.getElem_mem hi)
    generalize hcell : cs[i] = cell at hx hc0
    have hn : ¬ ((i : Int) < 0) := by omega
    have hm0 : 0 < many := by omega
    have p5 : ∀ x m : Int, 0 < m → (0 ≤ x % m ∧ x % m < m) := fun x m h => ⟨Int.emod_nonneg _ (by omega), Int.emod_lt_of_pos _ h⟩
    have hm' : many < 18446744073709551616 := by omega
    by_cases h4 : (1000000000000000000 : Int) ≤ cell
    · refine ⟨cell % many, .lst ((cs.set i (cell / many)).map T.int) :: .lst [.loc 0, .int (i + 1), .int (b + 1)] :: G, ?_, ⟨_, _, _, ?_, ?_, ?_, rfl⟩, Int.emod_nonneg _ (by omega), .inl (Int.emod_lt_of_pos _ (by omega))⟩
      · unfold takeP
        simp [opIx, atT, ixN, setIx, bLen, h2, h3, gc_len, opMod_ok, List.length_pos_iff, hpos, hat, hi, hcell, h4, gcB_len, opDiv_ok, hm0, hm', List.map_set]
        done
      · intro c hm
        rcases List.mem_or_eq_of_mem_set hm with h | rfl
        · exact hc _ h
        · exact Int.ediv_nonneg hc0 (by omega)
      · omega
      · simpa using hl
    · have q1 := p5 (cell * 69621 + (b + 1) * 40014 + 30269) 2147483647 (by omega)
      generalize hr1 : (cell * 69621 + (b + 1) * 40014 + 30269) % 2147483647 = r1 at q1
      have q2 := p5 (r1 * r1 + (b + 1) * 7211) 2147483629 (by omega)
      generalize hr2 : (r1 * r1 + (b + 1) * 7211) % 2147483629 = r2 at q2
      have q3 := p5 (r2 * r2) 2147483587 (by omega)
      generalize hr3 : (r2 * r2) % 2147483587 = r3 at q3
      refine ⟨r3 / 64 % many, .lst (cs.map T.int) :: .lst [.loc 0, .int (i + 1), .int (b + 1)] :: G, ?_, ⟨_, _, _, hc, by omega, hl, rfl⟩, Int.emod_nonneg _ (by omega), .inl (Int.emod_lt_of_pos _ (by omega))⟩
      unfold takeP
      have c0 : ∀ x y : Int, -(2 ^ 64) < y → y < 2 ^ 64 → ∀ S, opMul (.int x) (.int y) S = .ok (.int (x * y)) S := fun x y h1 h2 S => opMul_ok S (.inr ⟨h1, h2⟩)
      have c1 := c0 cell 69621 (by omega) (by omega)
      have c2 := c0 (b + 1) 40014 (by omega) (by omega)
      have c3 := c0 r1 r1 (by omega) (by omega)
      have c4 := c0 (b + 1) 7211 (by omega) (by omega)
      have c5 := c0 r2 r2 (by omega) (by omega)
      simp [opIx, atT, ixN, setIx, bLen, h2, h3, gc_len, opMod_ok, List.length_pos_iff, hpos, hat, hi, hcell, h4, gcB_len, opDiv_ok, hm0, hm', c1, c2, c3, c4, c5, hr1, hr2, hr3]
      done
theorem purse_gc {G S S' : Store} {i : Int} (h : Purse [] S) (h' : Purse G S') : ∃ S2, gc S S' (.int i) = .ok (.int i) S2 ∧ Purse [] S2 := by
  obtain ⟨cs, a, b, _, _, _, rfl⟩ := h
  obtain ⟨cs', a', b', h1, h2, h3, rfl⟩ := h'
  refine ⟨[.lst (cs'.map T.int), .lst [.loc 0, .int a', .int b']], ?_, cs', a', b', h1, h2, h3, rfl⟩
  have sc : ∀ (k : Nat) (l : List Int), T.scoL k (l.map T.int) = true := fun k l => by
    induction l with
    | nil => rfl
    | cons x l ih => rw [List.map_cons]; show (true && T.scoL k (l.map T.int)) = true; rw [ih]; rfl
  have kp : keeps [.lst (cs.map T.int), .lst [.loc 0, .int a, .int b]] (.lst (cs'.map T.int) :: .lst [.loc 0, .int a', .int b'] :: G) := by
    refine ⟨by simp, fun i hi => .inr ?_⟩
    match i, hi with
    | 0, _ => exact ⟨_, rfl, sc _ _⟩
    | 1, _ => exact ⟨_, rfl, rfl⟩
  unfold gc
  rw [if_pos kp, if_pos (show T.sco _ (T.int i) = true from rfl)]
  rfl
theorem purse_len {S : Store} (h : Purse [] S) : S.length = 2 := by
  obtain ⟨cs, a, b, _, _, _, rfl⟩ := h
  rfl
/-- a drawn number, behind what was made in the same statement -/
theorem purse_app {S : Store} (h : Purse [] S) (G : Store) : Purse G (S ++ G) := by
  obtain ⟨cs, a, b, h1, h2, h3, rfl⟩ := h
  exact ⟨cs, a, b, h1, h2, h3, rfl⟩
theorem purse_more {S G : Store} (h : Purse G S) (o : O) : Purse (G ++ [o]) (S ++ [o]) := by
  obtain ⟨cs, a, b, h1, h2, h3, rfl⟩ := h
  exact ⟨cs, a, b, h1, h2, h3, rfl⟩
theorem purse_at {S G : Store} (h : Purse G S) (i : Nat) : S[i + 2]? = G[i]? ∧ S.length = G.length + 2 := by
  obtain ⟨cs, a, b, h1, h2, h3, rfl⟩ := h
  exact ⟨rfl, rfl⟩
noncomputable def purseP : SM := (sSeq (sRet (cLst (aCons (cLC (iVal (cVar 0)) [1] (gName 1) tYes (cGc (cIte (cBl (cBin (opCmp fun i j => decide (j ≤ i)) (cVar 1) (cK (.int 0)))) (cUn bInt (cVar 1)) (cBin opSub (cK (.int 5)) (cBin opMul (cK (.int 2)) (cUn bInt (cVar 1))))))) (aCons (cK (.int 0)) (aCons (cK (.int 0)) aNil))))) sNext)
end EV
end
section
set_option Elab.async false
set_option linter.all false
set_option maxRecDepth 100000
set_option maxHeartbeats 4000000
set_option autoImplicit false
namespace EV
/-- a program as it is seen from within: its defs by depth and name, which class stands below which, the classes by name -/
structure Env where
  C : Nat → Nat → List T → Store → R T
  sub : Nat → Nat → Bool
  ci : Nat → Nat
abbrev c_InvalidWord : Nat := 3
abbrev f__law_caught : Nat := 56
abbrev f__law_draw : Nat := 100
abbrev f__law_end_v1 : Nat := 109
abbrev f__law_kinds : Nat := 203
abbrev f__law_last : Nat := 210
abbrev f__law_new : Nat := 282
abbrev f__law_refused_v3 : Nat := 373
abbrev f__law_same : Nat := 406
abbrev f__law_same_v1 : Nat := 407
abbrev f__law_take : Nat := 458
abbrev f__law_word : Nat := 516
abbrev f_are_below : Nat := 556
abbrev f_check_again : Nat := 586
abbrev f_check_word : Nat := 601
abbrev f_end_form : Nat := 618
abbrev f_is_integer : Nat := 670
abbrev f_is_natural : Nat := 678
abbrev f_law_v74 : Nat := 801
abbrev f_least_turn : Nat := 837
abbrev f_root_of : Nat := 1009
abbrev f_round_form : Nat := 1014
abbrev f_short_end : Nat := 1033
abbrev f_short_form : Nat := 1034
noncomputable def B__law_draw (E : Env) (k : Nat) : SM := (sSeq (sAugS opIAdd (cVar 0) (cK (.int 2)) (cK (.int 1))) (sSeq (sIf (cGcB (tAnd (cBl (cBin opEq (cBin opIx (cVar 0) (cK (.int 0))) (cK (.int 0)))) (cBl (cBin (opCmp fun i j => decide (i < j)) (cBin opIx (cVar 0) (cK (.int 3))) (cUn bLen (cBin opIx (cVar 0) (cK (.int 4)))))))) (sSeq (sAsg (cGc (cBin opIx (cBin opIx (cVar 0) (cK (.int 4))) (cBin opIx (cVar 0) (cK (.int 3))))) (gName 2)) (sSeq (sAugS opIAdd (cVar 0) (cK (.int 3)) (cK (.int 1))) (sSeq (sIf (cGcB (cBl (cBin (opCmp fun i j => decide (j ≤ i)) (cVar 2) (cBin opPow (cK (.int 10)) (cK (.int 18)))))) (sSeq (sSet (cBin opSub (cVar 2) (cBin opPow (cK (.int 10)) (cK (.int 18)))) (cVar 0) (cK (.int 0))) sNext) (sSeq (sSet (cBin opMod (cUn bInt (cBin opAdd (cBin opMul (cBin opIx (cVar 0) (cK (.int 1))) (cK (.int 331))) (cBin opMul (cBin opAdd (cBin opMul (cK (.int 5)) (cVar 2)) (cK (.int 3))) (cBin opIx (cVar 0) (cK (.int 3)))))) (cK (.int 1000000000039))) (cVar 0) (cK (.int 1))) sNext)) sNext))) sNext) (sSeq (sIf (cGcB (cBl (cBin (opCmp fun i j => decide (j < i)) (cBin opIx (cVar 0) (cK (.int 0))) (cK (.int 0))))) (sSeq (sAsg (cGc (cBin opMod (cUn bInt (cBin opIx (cVar 0) (cK (.int 0)))) (cVar 1))) (gName 3)) (sSeq (sSet (cBin opDiv (cBin opIx (cVar 0) (cK (.int 0))) (cVar 1)) (cVar 0) (cK (.int 0))) (sSeq (sRet (cVar 3)) sNext))) sNext) (sSeq (sSet (cBin opMod (cUn bInt (cBin opAdd (cBin opAdd (cBin opMul (cBin opIx (cVar 0) (cK (.int 1))) (cK (.int 48271))) (cBin opMul (cK (.int 7907)) (cBin opIx (cVar 0) (cK (.int 2))))) (cK (.int 11)))) (cK (.int 1000000000039))) (cVar 0) (cK (.int 1))) (sSeq (sAsg (cGc (cBin opMod (cUn bInt (cBin opAdd (cBin opMul (cBin opMul (cBin opIx (cVar 0) (cK (.int 1))) (cBin opIx (cVar 0) (cK (.int 1)))) (cK (.int 7))) (cBin opDiv (cBin opIx (cVar 0) (cK (.int 1))) (cK (.int 1024))))) (cK (.int 999999999989)))) (gName 4)) (sSeq (sRet (cBin opMod (cUn bInt (cBin opDiv (cVar 4) (cK (.int 256)))) (cVar 1))) sNext))))))
class U__law_draw (E : Env) : Prop where
  eq : ∀ (k : Nat) (a0 b0 : T) (S : Store), E.C (k + 1) f__law_draw [a0, b0] S = endOf S (B__law_draw E k [some a0, some b0, none, none, none] S)
noncomputable def B__law_end_v1 (E : Env) (k : Nat) : SM := (sSeq (sAsg (cGc (cBin opAdd (cUn bLen (cVar 1)) (cBin opMul (cK (.int 3)) (cUn bLen (cVar 0))))) (gName 2)) (sSeq (sAsg (cGc (cBin opAdd (cBin opMul (cVar 0) (cBin opAdd (cK (.int 2)) (cBin opDiv (cVar 2) (cUn bLen (cVar 0))))) (cVar 1))) (gName 3)) (sSeq (sAsg (cGc (cSl (cVar 3) (oSome (cBin opSub (cUn bLen (cVar 3)) (cVar 2))) oNone)) (gName 3)) (sSeq (sFor (iRg1 (cBin opAdd (cUn bLen (cVar 1)) (cK (.int 1)))) (gName 4) (sSeq (sAsg (cGc (cSl (cVar 3) oNone (oSome (cBin opSub (cUn bLen (cVar 3)) (cVar 4))))) (gName 5)) (sSeq (sFor (iRg2 (cK (.int 1)) (cBin opAdd (cUn bLen (cVar 0)) (cK (.int 1)))) (gName 6) (sSeq (sIf (cGcB (cBl (cBin opEq (cSl (cVar 5) oNone (oSome (cBin opSub (cUn bLen (cVar 5)) (cVar 6)))) (cSl (cVar 5) (oSome (cVar 6)) oNone)))) (sSeq (sRet (cTup (aCons (cSl (cVar 5) (oSome (cBin opSub (cUn bLen (cVar 5)) (cVar 6))) oNone) (aCons (cSl (cVar 3) (oSome (cBin opSub (cUn bLen (cVar 3)) (cVar 4))) oNone) aNil)))) sNext) sNext) sNext)) sNext))) (sSeq (sRet (cTup (aCons (cVar 0) (aCons (cVar 1) aNil)))) sNext)))))
class U__law_end_v1 (E : Env) : Prop where
  eq : ∀ (k : Nat) (a0 b0 : T) (S : Store), E.C (k + 1) f__law_end_v1 [a0, b0] S = endOf S (B__law_end_v1 E k [some a0, some b0, none, none, none, none, none] S)
noncomputable def B__law_last (E : Env) (k : Nat) : SM := (sSeq (sAsg (cGc (cVar 0)) (gTup (gCons (gName 2) (gCons (gName 3) gNil)))) (sSeq (sAsg (cGc (cBin opAdd (cBin opMul (cVar 2) (cBin opAdd (cK (.int 1)) (cBin opDiv (cVar 1) (cUn bLen (cVar 2))))) (cVar 3))) (gName 4)) (sSeq (sRet (cSl (cVar 4) (oSome (cBin opSub (cUn bLen (cVar 4)) (cVar 1))) oNone)) sNext)))
class U__law_last (E : Env) : Prop where
  eq : ∀ (k : Nat) (a0 b0 : T) (S : Store), E.C (k + 1) f__law_last [a0, b0] S = endOf S (B__law_last E k [some a0, some b0, none, none, none] S)
noncomputable def B__law_new (E : Env) (k : Nat) : SM := (sSeq (sRet (cLst (aCons (cK (.int 0)) (aCons (cK (.int 25597)) (aCons (cK (.int 0)) (aCons (cK (.int 0)) (aCons (cUn bList (cVar 0)) aNil))))))) sNext)
class U__law_new (E : Env) : Prop where
  eq : ∀ (k : Nat) (a0 : T) (S : Store), E.C (k + 1) f__law_new [a0] S = endOf S (B__law_new E k [some a0] S)
noncomputable def B__law_refused_v3 (E : Env) (k : Nat) : SM := (sSeq (sAsg (cGc (cLst (aCons (cK (.str "none")) aNil))) (gName 2)) (sSeq (sTryN (sSeq (sExpr (cGc (cCall (E.C k f_end_form) (aCons (cVar 0) (aCons (cVar 1) aNil))))) sNext) (fun c' => E.sub c' (E.ci c_InvalidWord)) 3 (sSeq (sAsg (cGc (cLst (aCons (cUn bVal (cVar 3)) aNil))) (gName 2)) sNext)) (sSeq (sRet (cVar 2)) sNext)))
class U__law_refused_v3 (E : Env) : Prop where
  eq : ∀ (k : Nat) (a0 b0 : T) (S : Store), E.C (k + 1) f__law_refused_v3 [a0, b0] S = endOf S (B__law_refused_v3 E k [some a0, some b0, none, none] S)
noncomputable def B__law_same (E : Env) (k : Nat) : SM := (sSeq (sIf (cGcB (cBl (cIsIs E.sub (cVar 1) [.list, .tuple]))) (sSeq (sIf (cGcB (tOr (tNot (cBl (cIsIs E.sub (cVar 0) [.list, .tuple]))) (tOr (cBl (cBin opNe (cIsI E.sub (cVar 0) .list) (cIsI E.sub (cVar 1) .list))) (cBl (cBin opNe (cUn bLen (cVar 0)) (cUn bLen (cVar 1))))))) (sSeq (sRet (cK (.bl false))) sNext) sNext) (sSeq (sRet (cUn bAll (cLC (iRg1 (cUn bLen (cVar 1))) [2] (gName 2) tYes (cGc (cCall (E.C k f__law_same) (aCons (cBin opIx (cVar 0) (cVar 2)) (aCons (cBin opIx (cVar 1) (cVar 2)) aNil))))))) sNext)) sNext) (sSeq (sIf (cGcB (cBl (cBin opIs (cVar 1) (cK .non)))) (sSeq (sRet (cBin opIs (cVar 0) (cK .non))) sNext) sNext) (sSeq (sIf (cGcB (cBl (cIsI E.sub (cVar 1) .dict))) (sSeq (sRet (cAnd (cIsI E.sub (cVar 0) .dict) (cBin opEq (cVar 0) (cVar 1)))) sNext) sNext) (sSeq (sIf (cGcB (cBl (cIsI E.sub (cVar 1) .bool))) (sSeq (sRet (cAnd (cIsI E.sub (cVar 0) .bool) (cBin opEq (cVar 0) (cVar 1)))) sNext) sNext) (sSeq (sIf (cGcB (cBl (cIsI E.sub (cVar 1) .str))) (sSeq (sRet (cAnd (cIsI E.sub (cVar 0) .str) (cBin opEq (cVar 0) (cVar 1)))) sNext) sNext) (sSeq (sRet (cAnd (cIsI E.sub (cVar 0) .int) (cAnd (cNot (cIsI E.sub (cVar 0) .bool)) (cBin opEq (cVar 0) (cVar 1))))) sNext))))))
class U__law_same (E : Env) : Prop where
  eq : ∀ (k : Nat) (a0 b0 : T) (S : Store), E.C (k + 1) f__law_same [a0, b0] S = endOf S (B__law_same E k [some a0, some b0, none] S)
noncomputable def B__law_same_v1 (E : Env) (k : Nat) : SM := (sSeq (sIf (cGcB (cBl (cBin opIs (cVar 1) (cK .non)))) (sSeq (sRet (cBin opIs (cVar 0) (cK .non))) sNext) sNext) (sSeq (sIf (cGcB (cBl (cIsIs E.sub (cVar 1) [.bool, .str]))) (sSeq (sRet (cAnd (cBin opEq (cIsI E.sub (cVar 0) .bool) (cIsI E.sub (cVar 1) .bool)) (cAnd (cIsIs E.sub (cVar 0) [.bool, .str]) (cBin opEq (cVar 0) (cVar 1))))) sNext) sNext) (sSeq (sIf (cGcB (cBl (cIsI E.sub (cVar 1) .int))) (sSeq (sRet (cAnd (cIsI E.sub (cVar 0) .int) (cAnd (cNot (cIsI E.sub (cVar 0) .bool)) (cBin opEq (cVar 0) (cVar 1))))) sNext) sNext) (sSeq (sIf (cGcB (tOr (cBl (cBin opNe (cIsI E.sub (cVar 1) .list) (cIsI E.sub (cVar 0) .list))) (cBl (cBin opNe (cIsI E.sub (cVar 1) .tuple) (cIsI E.sub (cVar 0) .tuple))))) (sSeq (sRet (cK (.bl false))) sNext) sNext) (sSeq (sRet (cAnd (cBin opEq (cUn bLen (cVar 0)) (cUn bLen (cVar 1))) (cUn bAll (cLC (iRg1 (cUn bLen (cVar 1))) [2] (gName 2) tYes (cGc (cCall (E.C k f__law_same_v1) (aCons (cBin opIx (cVar 0) (cVar 2)) (aCons (cBin opIx (cVar 1) (cVar 2)) aNil)))))))) sNext)))))
class U__law_same_v1 (E : Env) : Prop where
  eq : ∀ (k : Nat) (a0 b0 : T) (S : Store), E.C (k + 1) f__law_same_v1 [a0, b0] S = endOf S (B__law_same_v1 E k [some a0, some b0, none] S)
noncomputable def B__law_take (E : Env) (k : Nat) : SM := (sSeq (sIf (cGcB (tAnd (cBl (cBin opEq (cBin opIx (cVar 0) (cK (.int 0))) (cK (.int 0)))) (cBl (cBin (opCmp fun i j => decide (i < j)) (cBin opIx (cVar 0) (cK (.int 2))) (cUn bLen (cVar 0)))))) (sSeq (sAsg (cGc (cBin opIx (cVar 0) (cBin opIx (cVar 0) (cK (.int 2))))) (gName 2)) (sSeq (sAugS opIAdd (cVar 0) (cK (.int 2)) (cK (.int 1))) (sSeq (sIf (cGcB (cBl (cBin (opCmp fun i j => decide (j ≤ i)) (cVar 2) (cBin opPow (cK (.int 10)) (cK (.int 18)))))) (sSeq (sSet (cBin opSub (cVar 2) (cBin opPow (cK (.int 10)) (cK (.int 18)))) (cVar 0) (cK (.int 0))) sNext) (sSeq (sAsg (cGc (cBin opMod (cUn bInt (cVar 2)) (cK (.int 2147483647)))) (gName 3)) (sSeq (sAsg (cGc (cBin opMod (cUn bInt (cBin opAdd (cBin opAdd (cBin opMul (cVar 3) (cVar 3)) (cBin opMul (cK (.int 62089911)) (cVar 3))) (cBin opMul (cK (.int 1301)) (cBin opIx (cVar 0) (cK (.int 2)))))) (cK (.int 2147483629)))) (gName 3)) (sSeq (sSet (cBin opMod (cUn bInt (cBin opAdd (cBin opIx (cVar 0) (cK (.int 1))) (cVar 3))) (cK (.int 2147483629))) (cVar 0) (cK (.int 1))) sNext)))) sNext))) sNext) (sSeq (sIf (cGcB (cBl (cBin (opCmp fun i j => decide (j < i)) (cBin opIx (cVar 0) (cK (.int 0))) (cK (.int 0))))) (sSeq (sAsg (cGc (cBin opMod (cUn bInt (cBin opIx (cVar 0) (cK (.int 0)))) (cVar 1))) (gName 4)) (sSeq (sSet (cBin opDiv (cBin opIx (cVar 0) (cK (.int 0))) (cVar 1)) (cVar 0) (cK (.int 0))) (sSeq (sRet (cVar 4)) sNext))) sNext) (sSeq (sSet (cBin opMod (cUn bInt (cBin opAdd (cBin opAdd (cBin opMul (cBin opIx (cVar 0) (cK (.int 1))) (cK (.int 41358))) (cBin opMul (cK (.int 31657)) (cBin opIx (cVar 0) (cK (.int 2))))) (cK (.int 23)))) (cK (.int 2147483647))) (cVar 0) (cK (.int 1))) (sSeq (sSet (cBin opMod (cUn bInt (cBin opAdd (cBin opMul (cBin opIx (cVar 0) (cK (.int 1))) (cBin opIx (cVar 0) (cK (.int 1)))) (cK (.int 11)))) (cK (.int 2147483629))) (cVar 0) (cK (.int 1))) (sSeq (sRet (cBin opMod (cUn bInt (cBin opDiv (cBin opIx (cVar 0) (cK (.int 1))) (cK (.int 8)))) (cVar 1))) sNext)))))
class U__law_take (E : Env) : Prop where
  eq : ∀ (k : Nat) (a0 b0 : T) (S : Store), E.C (k + 1) f__law_take [a0, b0] S = endOf S (B__law_take E k [some a0, some b0, none, none, none] S)
noncomputable def B__law_word (E : Env) (k : Nat) : SM := (sSeq (sRet (cUn bTuple (cLC (iRg1 (cCall (E.C k f__law_draw) (aCons (cVar 0) (aCons (cBin opAdd (cVar 2) (cK (.int 1))) aNil)))) [3] (gName 3) tYes (cGc (cCall (E.C k f__law_draw) (aCons (cVar 0) (aCons (cVar 1) aNil))))))) sNext)
class U__law_word (E : Env) : Prop where
  eq : ∀ (k : Nat) (a0 b0 c0 : T) (S : Store), E.C (k + 1) f__law_word [a0, b0, c0] S = endOf S (B__law_word E k [some a0, some b0, some c0, none] S)
noncomputable def B_are_below (E : Env) (k : Nat) : SM := (sSeq (sRet (cAnd (cIsI E.sub (cVar 0) .tuple) (cUn bAll (cLC (iVal (cVar 0)) [2] (gName 2) tYes (cGc (cAnd (cCall (E.C k f_is_natural) (aCons (cVar 2) aNil)) (cBin (opCmp fun i j => decide (i < j)) (cVar 2) (cVar 1)))))))) sNext)
class U_are_below (E : Env) : Prop where
  eq : ∀ (k : Nat) (a0 b0 : T) (S : Store), E.C (k + 1) f_are_below [a0, b0] S = endOf S (B_are_below E k [some a0, some b0, none] S)
noncomputable def B_check_again (E : Env) (k : Nat) : SM := (sSeq (sIf (cGcB (tOr (tNot (cBl (cCall (E.C k f_are_below) (aCons (cVar 1) (aCons (cVar 0) aNil))))) (cBl (cBin opEq (cVar 1) (cTup aNil))))) (sSeq (sRaise (E.ci c_InvalidWord) (cVar 1)) sNext) sNext) sNext)
class U_check_again (E : Env) : Prop where
  eq : ∀ (k : Nat) (a0 b0 : T) (S : Store), E.C (k + 1) f_check_again [a0, b0] S = endOf S (B_check_again E k [some a0, some b0] S)
noncomputable def B_check_word (E : Env) (k : Nat) : SM := (sSeq (sIf (cGcB (tNot (cBl (cCall (E.C k f_are_below) (aCons (cVar 1) (aCons (cVar 0) aNil)))))) (sSeq (sRaise (E.ci c_InvalidWord) (cVar 1)) sNext) sNext) sNext)
class U_check_word (E : Env) : Prop where
  eq : ∀ (k : Nat) (a0 b0 : T) (S : Store), E.C (k + 1) f_check_word [a0, b0] S = endOf S (B_check_word E k [some a0, some b0] S)
noncomputable def B_end_form (E : Env) (k : Nat) : SM := (sSeq (sExpr (cGc (cCall (E.C k f_check_again) (aCons (cK (.int 4)) (aCons (cVar 0) aNil))))) (sSeq (sExpr (cGc (cCall (E.C k f_check_word) (aCons (cK (.int 4)) (aCons (cVar 1) aNil))))) (sSeq (sRet (cCall (E.C k f_short_end) (aCons (cVar 0) (aCons (cVar 1) aNil)))) sNext)))
class U_end_form (E : Env) : Prop where
  eq : ∀ (k : Nat) (a0 b0 : T) (S : Store), E.C (k + 1) f_end_form [a0, b0] S = endOf S (B_end_form E k [some a0, some b0] S)
noncomputable def B_is_integer (E : Env) (k : Nat) : SM := (sSeq (sRet (cAnd (cIsI E.sub (cVar 0) .int) (cNot (cIsI E.sub (cVar 0) .bool)))) sNext)
class U_is_integer (E : Env) : Prop where
  eq : ∀ (k : Nat) (a0 : T) (S : Store), E.C (k + 1) f_is_integer [a0] S = endOf S (B_is_integer E k [some a0] S)
noncomputable def B_is_natural (E : Env) (k : Nat) : SM := (sSeq (sRet (cAnd (cCall (E.C k f_is_integer) (aCons (cVar 0) aNil)) (cBin (opCmp fun i j => decide (j ≤ i)) (cVar 0) (cK (.int 0))))) sNext)
class U_is_natural (E : Env) : Prop where
  eq : ∀ (k : Nat) (a0 : T) (S : Store), E.C (k + 1) f_is_natural [a0] S = endOf S (B_is_natural E k [some a0] S)
noncomputable def B_law (E : Env) (k : Nat) : SM := (sSeq (sAsg (cGc (cCall (E.C k f__law_new) (aCons (cVar 0) aNil))) (gName 1)) (sSeq (sAsg (cGc (cLst (aCons (cK .non) (aCons (cK (.int 0)) (aCons (cUn opNeg (cK (.int 7))) (aCons (cK (.bl true)) (aCons (cK (.str "ab")) (aCons (cTup aNil) (aCons (cTup (aCons (cK (.int 1)) (aCons (cK (.str "a")) aNil))) (aCons (cLst (aCons (cK (.int 1)) (aCons (cLst (aCons (cK (.int 2)) aNil)) aNil))) (aCons (cK (.str "")) (aCons (cBin opPow (cK (.int 10)) (cK (.int 30))) (aCons (cTup (aCons (cK (.int 1)) (aCons (cTup (aCons (cK (.int 0)) (aCons (cK (.int 1)) aNil))) aNil))) (aCons (cK (.bl false)) (aCons (cLst (aCons (cK (.str "a")) aNil)) (aCons (cTup (aCons (cTup aNil) aNil)) aNil)))))))))))))))) (gName 2)) (sSeq (sFor (iRg1 (cK (.int 15))) (gName 3) (sSeq (sPar (aCons (cBin opIx (cVar 2) (cCall (E.C k f__law_draw) (aCons (cVar 1) (aCons (cK (.int 14)) aNil)))) (aCons (cBin opIx (cVar 2) (cCall (E.C k f__law_draw) (aCons (cVar 1) (aCons (cK (.int 14)) aNil)))) aNil)) [4, 5]) (sSeq (sPar (aCons (cCall (E.C k f__law_caught) (aCons (cVar 3) (aCons (cVar 4) aNil))) (aCons (cCall (E.C k f__law_caught) (aCons (cVar 3) (aCons (cVar 5) aNil))) aNil)) [6, 7]) (sSeq (sFor (iVal (cTup (aCons (cVar 6) (aCons (cVar 7) aNil)))) (gName 8) (sSeq (sIf (cGcB (tOr (cBl (cBin opIs (cVar 8) (cK .non))) (tOr (tNot (cBl (cIsI E.sub (cVar 8) .verr))) (cBl (cBin opNe (cCall (E.C k f__law_kinds) (aCons (cVar 8) aNil)) (cLC (iRg1 (cK (.int 15))) [11] (gName 11) tYes (cGc (cBin opEq (cVar 11) (cVar 3))))))))) (sSeq (sRet (cK (.bl false))) sNext) sNext) sNext)) (sSeq (sIf (cGcB (tNot (cBl (cCall (E.C k f__law_same) (aCons (cLst (aCons (cUn bVal (cVar 6)) (aCons (cUn bVal (cVar 7)) aNil))) (aCons (cLst (aCons (cVar 4) (aCons (cVar 5) aNil))) aNil)))))) (sSeq (sRet (cK (.bl false))) sNext) sNext) sNext))))) (sSeq (sPar (aCons cStuck (aCons cStuck aNil)) [9, 10]) (sSeq (sIf (cGcB (tOr (cBl (cBin opIn (cK (.bl true)) (cCall (E.C k f__law_kinds) (aCons (cVar 9) aNil)))) (tNot (cBl (cIsI E.sub (cVar 9) .verr))))) (sSeq (sRet (cK (.bl false))) sNext) sNext) (sSeq (sRet (cCall (E.C k f__law_same) (aCons (cLst (aCons (cUn bVal (cVar 9)) (aCons (cUn bVal (cVar 10)) (aCons (cUn bVal cStuck) (aCons (cUn bVal cStuck) (aCons (cUn bVal cStuck) aNil)))))) (aCons (cLst (aCons (cK (.str "x")) (aCons (cTup (aCons (cK (.int 1)) (aCons (cK (.int 2)) aNil))) (aCons (cK (.int 3)) (aCons (cK (.int 4)) (aCons (cK (.str "c")) aNil)))))) aNil)))) sNext))))))
noncomputable def B_law_v74 (E : Env) (k : Nat) : SM := (sSeq (sAsg (cGc (cCall (E.C k f__law_new) (aCons (cVar 0) aNil))) (gName 1)) (sSeq (sFor (iRg1 (cK (.int 10))) (gName 2) (sSeq (sAsg (cGc (cBin opAdd (cK (.int 1)) (cCall (E.C k f__law_draw) (aCons (cVar 1) (aCons (cK (.int 4)) aNil))))) (gName 3)) (sSeq (sPar (aCons (cBin opAdd (cTup (aCons (cCall (E.C k f__law_draw) (aCons (cVar 1) (aCons (cVar 3) aNil))) aNil)) (cCall (E.C k f__law_word) (aCons (cVar 1) (aCons (cVar 3) (aCons (cK (.int 5)) aNil))))) (aCons (cCall (E.C k f__law_word) (aCons (cVar 1) (aCons (cVar 3) (aCons (cK (.int 10)) aNil)))) aNil)) [4, 5]) (sSeq (sAsg (cGc (cCall (E.C k f__law_end_v1) (aCons (cVar 4) (aCons (cVar 5) aNil)))) (gName 6)) (sSeq (sIf (cGcB (tNot (cBl (cCall (E.C k f__law_same) (aCons (cLst (aCons (cCall (E.C k f_end_form) (aCons (cVar 4) (aCons (cVar 5) aNil))) (aCons (cCallK (E.C k f_end_form) ["again", "word"] ["word", "again"] aNil (aCons (cVar 5) (aCons (cVar 4) aNil))) (aCons (cCall (E.C k f_end_form) (aCons (cBin opIx (cVar 6) (cK (.int 0))) (aCons (cBin opIx (cVar 6) (cK (.int 1))) aNil))) (aCons (cCall (E.C k f_end_form) (aCons (cBin opMul (cVar 4) (cK (.int 2))) (aCons (cVar 5) aNil))) aNil))))) (aCons (cBin opMul (cLst (aCons (cVar 6) aNil)) (cK (.int 4))) aNil)))))) (sSeq (sRet (cK (.bl false))) sNext) sNext) (sSeq (sAsg (cGc (cCall (E.C k f__law_draw) (aCons (cVar 1) (aCons (cBin opAdd (cUn bLen (cVar 4)) (cK (.int 1))) aNil)))) (gName 7)) (sSeq (sAsg (cGc (cBin opAdd (cSl (cVar 4) (oSome (cVar 7)) oNone) (cSl (cVar 4) oNone (oSome (cVar 7))))) (gName 8)) (sSeq (sAsg (cGc (cLst (aCons (cCall (E.C k f_end_form) (aCons (cVar 8) (aCons (cBin opAdd (cSl (cVar 4) (oSome (cVar 7)) oNone) (cVar 5)) aNil))) (aCons (cCall (E.C k f_end_form) (aCons (cVar 4) (aCons (cBin opAdd (cVar 4) (cVar 5)) aNil))) (aCons (cBin opEq (cCall (E.C k f_end_form) (aCons (cBin opMul (cVar 4) (cK (.int 3))) (aCons (cBin opAdd (cSl (cVar 4) (oSome (cVar 7)) oNone) (cVar 5)) aNil))) (cVar 6)) aNil))))) (gName 9)) (sSeq (sIf (cGcB (tNot (cBl (cCall (E.C k f__law_same) (aCons (cVar 9) (aCons (cLst (aCons (cVar 6) (aCons (cVar 6) (aCons (cBin opEq (cCall (E.C k f__law_end_v1) (aCons (cVar 4) (aCons (cBin opAdd (cSl (cVar 4) (oSome (cVar 7)) oNone) (cVar 5)) aNil))) (cVar 6)) aNil)))) aNil)))))) (sSeq (sRet (cK (.bl false))) sNext) sNext) (sSeq (sAsg (cGc (cBin opAdd (cTup (aCons (cCall (E.C k f__law_draw) (aCons (cVar 1) (aCons (cVar 3) aNil))) aNil)) (cCall (E.C k f__law_word) (aCons (cVar 1) (aCons (cVar 3) (aCons (cK (.int 5)) aNil)))))) (gName 10)) (sSeq (sAsg (cGc (cCall (E.C k f__law_word) (aCons (cVar 1) (aCons (cVar 3) (aCons (cK (.int 10)) aNil))))) (gName 11)) (sSeq (sIf (cGcB (tNot (cBl (cCall (E.C k f__law_same) (aCons (cBin opEq (cCall (E.C k f_end_form) (aCons (cVar 10) (aCons (cVar 11) aNil))) (cVar 6)) (aCons (cBin opEq (cCall (E.C k f__law_last) (aCons (cTup (aCons (cVar 10) (aCons (cVar 11) aNil))) (aCons (cK (.int 60)) aNil))) (cCall (E.C k f__law_last) (aCons (cTup (aCons (cVar 4) (aCons (cVar 5) aNil))) (aCons (cK (.int 60)) aNil)))) aNil)))))) (sSeq (sRet (cK (.bl false))) sNext) sNext) (sSeq (sAsg (cGc (cBin opIx (cLst (aCons (cTup aNil) (aCons (cTup (aCons (cK (.int 4)) aNil)) (aCons (cLst (aCons (cK (.int 0)) aNil)) (aCons (cK (.str "0")) (aCons (cK .non) (aCons (cTup (aCons (cK (.int 0)) (aCons (cUn opNeg (cK (.int 1))) aNil))) (aCons (cTup (aCons (cK (.bl true)) aNil)) (aCons (cK (.int 5)) aNil))))))))) (cCall (E.C k f__law_draw) (aCons (cVar 1) (aCons (cK (.int 8)) aNil))))) (gName 12)) (sSeq (sAsg (cGc (cLst (aCons (cCall (E.C k f__law_refused_v3) (aCons (cVar 12) (aCons (cVar 12) aNil))) (aCons (cCall (E.C k f__law_refused_v3) (aCons (cVar 4) (aCons (cIte (cBl (cBin opNe (cVar 12) (cTup aNil))) (cVar 12) (cTup (aCons (cK (.int 7)) aNil))) aNil))) (aCons (cCall (E.C k f__law_refused_v3) (aCons (cVar 12) (aCons (cVar 5) aNil))) (aCons (cCall (E.C k f__law_refused_v3) (aCons (cVar 4) (aCons (cTup aNil) aNil))) aNil)))))) (gName 9)) (sSeq (sIf (cGcB (tNot (cBl (cCall (E.C k f__law_same) (aCons (cVar 9) (aCons (cLst (aCons (cLst (aCons (cVar 12) aNil)) (aCons (cLst (aCons (cIte (cBl (cBin opNe (cVar 12) (cTup aNil))) (cVar 12) (cTup (aCons (cK (.int 7)) aNil))) aNil)) (aCons (cLst (aCons (cVar 12) aNil)) (aCons (cLst (aCons (cK (.str "none")) aNil)) aNil))))) aNil)))))) (sSeq (sRet (cK (.bl false))) sNext) sNext) sNext))))))))))))))) (sSeq (sRet (cK (.bl true))) sNext)))
class U_law_v74 (E : Env) : Prop where
  eq : ∀ (k : Nat) (a0 : T) (S : Store), E.C (k + 1) f_law_v74 [a0] S = endOf S (B_law_v74 E k [some a0, none, none, none, none, none, none, none, none, none, none, none, none] S)
noncomputable def B_least_turn (E : Env) (k : Nat) : SM := (sSeq (sFor (iRg2 (cK (.int 1)) (cUn bLen (cVar 0))) (gName 1) (sSeq (sIf (cGcB (tAnd (cBl (cBin opEq (cBin opMod (cUn bLen (cVar 0)) (cVar 1)) (cK (.int 0)))) (cBl (cBin opEq (cVar 0) (cBin opMul (cSl (cVar 0) oNone (oSome (cVar 1))) (cBin opDiv (cUn bLen (cVar 0)) (cVar 1))))))) (sSeq (sRet (cSl (cVar 0) oNone (oSome (cVar 1)))) sNext) sNext) sNext)) (sSeq (sRet (cVar 0)) sNext))
class U_least_turn (E : Env) : Prop where
  eq : ∀ (k : Nat) (a0 : T) (S : Store), E.C (k + 1) f_least_turn [a0] S = endOf S (B_least_turn E k [some a0, none] S)
noncomputable def B_root_of (E : Env) (k : Nat) : SM := (sSeq (sFor (iRg2 (cK (.int 1)) (cBin opAdd (cUn bLen (cVar 0)) (cK (.int 1)))) (gName 1) (sSeq (sIf (cGcB (tAnd (cBl (cBin opEq (cBin opMod (cUn bLen (cVar 0)) (cVar 1)) (cK (.int 0)))) (cBl (cBin opEq (cBin opMul (cSl (cVar 0) oNone (oSome (cVar 1))) (cBin opDiv (cUn bLen (cVar 0)) (cVar 1))) (cVar 0))))) (sSeq (sRet (cSl (cVar 0) oNone (oSome (cVar 1)))) sNext) sNext) sNext)) (sSeq (sRet (cVar 0)) sNext))
class U_root_of (E : Env) : Prop where
  eq : ∀ (k : Nat) (a0 : T) (S : Store), E.C (k + 1) f_root_of [a0] S = endOf S (B_root_of E k [some a0, none] S)
noncomputable def B_round_form (E : Env) (k : Nat) : SM := (sSeq (sExpr (cGc (cCall (E.C k f_check_word) (aCons (cK (.int 4)) (aCons (cVar 0) aNil))))) (sSeq (sExpr (cGc (cCall (E.C k f_check_again) (aCons (cK (.int 4)) (aCons (cVar 1) aNil))))) (sSeq (sRet (cCall (E.C k f_short_form) (aCons (cVar 0) (aCons (cVar 1) aNil)))) sNext)))
class U_round_form (E : Env) : Prop where
  eq : ∀ (k : Nat) (a0 b0 : T) (S : Store), E.C (k + 1) f_round_form [a0, b0] S = endOf S (B_round_form E k [some a0, some b0] S)
noncomputable def B_short_end (E : Env) (k : Nat) : SM := (sSeq (sAsg (cGc (cCall (E.C k f_least_turn) (aCons (cVar 0) aNil))) (gName 0)) (sSeq (sWhile (cGcB (tAnd (cBl (cBin opNe (cVar 1) (cTup aNil))) (cBl (cBin opEq (cBin opIx (cVar 1) (cK (.int 0))) (cBin opIx (cVar 0) (cK (.int 0))))))) (sSeq (sPar (aCons (cBin opAdd (cSl (cVar 0) (oSome (cK (.int 1))) oNone) (cSl (cVar 0) oNone (oSome (cK (.int 1))))) (aCons (cSl (cVar 1) (oSome (cK (.int 1))) oNone) aNil)) [0, 1]) sNext)) (sSeq (sRet (cTup (aCons (cVar 0) (aCons (cVar 1) aNil)))) sNext)))
class U_short_end (E : Env) : Prop where
  eq : ∀ (k : Nat) (a0 b0 : T) (S : Store), E.C (k + 1) f_short_end [a0, b0] S = endOf S (B_short_end E k [some a0, some b0] S)
noncomputable def B_short_form (E : Env) (k : Nat) : SM := (sSeq (sAsg (cGc (cCall (E.C k f_root_of) (aCons (cVar 1) aNil))) (gName 1)) (sSeq (sWhile (cGcB (tAnd (cBl (cBin opNe (cVar 0) (cTup aNil))) (cBl (cBin opEq (cBin opIx (cVar 0) (cUn opNeg (cK (.int 1)))) (cBin opIx (cVar 1) (cUn opNeg (cK (.int 1)))))))) (sSeq (sPar (aCons (cSl (cVar 0) oNone (oSome (cUn opNeg (cK (.int 1))))) (aCons (cBin opAdd (cSl (cVar 1) (oSome (cUn opNeg (cK (.int 1)))) oNone) (cSl (cVar 1) oNone (oSome (cUn opNeg (cK (.int 1)))))) aNil)) [0, 1]) sNext)) (sSeq (sRet (cTup (aCons (cVar 0) (aCons (cVar 1) aNil)))) sNext)))
class U_short_form (E : Env) : Prop where
  eq : ∀ (k : Nat) (a0 b0 : T) (S : Store), E.C (k + 1) f_short_form [a0, b0] S = endOf S (B_short_form E k [some a0, some b0] S)
end EV
end
section
set_option Elab.async false
set_option linter.all false
set_option maxRecDepth 100000
set_option maxHeartbeats 4000000
set_option autoImplicit false
namespace EV
open PySem (Str)
/-! ### flat values: ints and texts -/
def flat : T → Bool
  | .int _ => true
  | .str x => PySem.PyData.strOk x
  | _ => false
theorem flat_dat : ∀ {x : T}, flat x = true → x.dat = true ∧ x.depth = 0
  | .int _, _ => ⟨rfl, rfl⟩
  | .str _, h => ⟨h, rfl⟩
theorem flatL : ∀ {xs : List T}, (∀ x ∈ xs, flat x = true) → T.datL xs = true ∧ T.depthL xs = 0
  | [], _ => ⟨rfl, rfl⟩
  | x :: xs, h => by
    have a := flat_dat (h x List.mem_cons_self)
    have b := flatL fun y hy => h y (List.mem_cons_of_mem _ hy)
    simp only [T.datL, T.depthL, a, b, Bool.and_self, Nat.max_self, and_self]
theorem eqv_flat : ∀ {x y : T}, flat x = true → flat y = true → (T.eqv x y = true ↔ x = y)
  | .int i, .int j, _, _ => by simp [T.eqv]
  | .str i, .str j, _, _ => by simp [T.eqv]
  | .int i, .str j, _, _ => by simp [T.eqv]
  | .str i, .int j, _, _ => by simp [T.eqv]
theorem eqvL_flat : ∀ {xs ys : List T}, (∀ x ∈ xs, flat x = true) → (∀ x ∈ ys, flat x = true) → (T.eqvL xs ys = true ↔ xs = ys)
  | [], [], _, _ => by simp [T.eqvL]
  | [], y :: ys, _, _ => by simp [T.eqvL]
  | x :: xs, [], _, _ => by simp [T.eqvL]
  | x :: xs, y :: ys, hx, hy => by
    simp only [T.eqvL, Bool.and_eq_true, eqv_flat (hx x List.mem_cons_self) (hy y List.mem_cons_self), eqvL_flat (fun z hz => hx z (List.mem_cons_of_mem _ hz)) (fun z hz => hy z (List.mem_cons_of_mem _ hz)), List.cons.injEq]
section
variable {S : Store}
theorem eqA_flat {xs ys : List T} (hx : ∀ x ∈ xs, flat x = true) (hy : ∀ x ∈ ys, flat x = true) : eqA S (.tup xs) (.tup ys) = some (T.eqvL xs ys) := by
  have a := flatL hx
  have b := flatL hy
  have da : dS S (.tup xs) = some (pd (.tup xs)) := by simp only [dS, T.dat, T.depth, a, and_self, if_true]; rfl
  have db : dS S (.tup ys) = some (pd (.tup ys)) := by simp only [dS, T.dat, T.depth, b, and_self, if_true]; rfl
  simp only [eqA, da, db]
  rw [pd_eqv _ _ (by simp only [T.dat, a]) (by simp only [T.dat, b])]
  rfl
theorem opEq_flat {xs ys : List T} (hx : ∀ x ∈ xs, flat x = true) (hy : ∀ x ∈ ys, flat x = true) : ∃ b, opEq (.tup xs) (.tup ys) S = .ok (.bl b) S ∧ (b = true ↔ xs = ys) := ⟨T.eqvL xs ys, by simp only [opEq, eqA_flat hx hy], eqvL_flat hx hy⟩
theorem opNe_flat {xs ys : List T} (hx : ∀ x ∈ xs, flat x = true) (hy : ∀ x ∈ ys, flat x = true) : ∃ b, opNe (.tup xs) (.tup ys) S = .ok (.bl (!b)) S ∧ (b = true ↔ xs = ys) := ⟨T.eqvL xs ys, by simp only [opNe, eqA_flat hx hy], eqvL_flat hx hy⟩
theorem opEq_flat1 {x y : T} (hx : flat x = true) (hy : flat y = true) : ∃ b, opEq x y S = .ok (.bl b) S ∧ (b = true ↔ x = y) := by
  cases x <;> cases y <;> simp only [flat, Bool.false_eq_true] at hx hy
  · exact ⟨_, x_opEqI S _ _, by simp⟩
  · exact ⟨false, by simp [opEq, eqA, dS, T.dat, T.depth, pd, PySem.PyData.eqv, hy], by simp⟩
  · exact ⟨false, by simp [opEq, eqA, dS, T.dat, T.depth, pd, PySem.PyData.eqv, hx], by simp⟩
  · exact ⟨_, x_opEqS S _ _, by simp⟩
end
/-! ### ranges -/
theorem rgT_cons {a b : Int} (h : a < b) : rgT a b = .int a :: rgT (a + 1) b := by
  unfold rgT
  obtain ⟨k, hk⟩ : ∃ k : Nat, (b - a).toNat = k + 1 := ⟨(b - a).toNat - 1, by omega⟩
  rw [hk, show (b - (a + 1)).toNat = k by omega, List.range_succ_eq_map, List.map_cons, List.map_map]
  congr 1
  · simp
  · apply List.map_congr_left
    intro x _
    simp only [Function.comp]
    congr 1
    omega
theorem rgT_nil {a b : Int} (h : b ≤ a) : rgT a b = [] := by
  unfold rgT
  rw [show (b - a).toNat = 0 by omega]
  rfl
theorem rgT_len (a b : Int) : (rgT a b).length = (b - a).toNat := by unfold rgT; simp
theorem rg_cond {j : Int} (h : -1000000000 ≤ j) (h2 : j ≤ 1000000000) : -(2 ^ 62) ≤ j ∧ j < 2 ^ 62 := ⟨by omega, by omega⟩
theorem iRg1_ok {a : EM} {τ : Loc} {S S1 : Store} {j : Int} (ha : a τ S = .ok (.int j) S1) (h1 : -1000000000 ≤ j) (h2 : j ≤ 1000000000) : iRg1 a τ S = .ok (rgT 0 j, .fix) S1 := by
  simp only [iRg1, ha, R.bind_ok, rg_cond h1 h2, and_self, if_true]
theorem iRg2_ok {a b : EM} {τ : Loc} {S S1 S2 : Store} {i j : Int} (ha : a τ S = .ok (.int i) S1) (hb : b τ S1 = .ok (.int j) S2) (h1 : -1000000000 ≤ i) (h2 : i ≤ 1000000000) (h3 : -1000000000 ≤ j) (h4 : j ≤ 1000000000) : iRg2 a b τ S = .ok (rgT i j, .fix) S2 := by
  simp only [iRg2, ha, hb, R.bind_ok, rg_cond h1 h2, rg_cond h3 h4, and_self, if_true]
@[simp] theorem x_iVal (e : EM) (τ : Loc) (S : Store) : iVal e τ S = (e τ S).bind iV := (rfl)
@[simp] theorem x_sFor (wi : IM) (g : GM) (body : SM) (τ : Loc) (S : Store) : sFor wi g body τ S = (wi τ S).bindS τ fun p S1 => forL p.2 p.1 g body p.1 τ S1 := (rfl)
theorem x_for0 (all : List T) (g : GM) (body : SM) (τ : Loc) (S : Store) : forL .fix all g body [] τ S = .nx τ S := by simp [forL, Src.ok]
def loopK (r : SR) (k : Loc → Store → SR) : SR := match r with
  | .nx τ2 S2 => k τ2 S2
  | .ct τ2 S2 => k τ2 S2
  | .bk τ2 S2 => .nx τ2 S2
  | r => r
theorem x_for1 {all : List T} {g : GM} {body : SM} {x : T} {xs : List T} {τ τ1 : Loc} {S : Store} (h : g x τ = some τ1) : forL .fix all g body (x :: xs) τ S = loopK (body τ1 S) (forL .fix all g body xs) := by
  simp only [forL, Src.ok, if_true, h]
  rfl
@[simp] theorem loopK_nx (τ : Loc) (S : Store) (k : Loc → Store → SR) : loopK (.nx τ S) k = k τ S := (rfl)
@[simp] theorem loopK_ct (τ : Loc) (S : Store) (k : Loc → Store → SR) : loopK (.ct τ S) k = k τ S := (rfl)
@[simp] theorem loopK_bk (τ : Loc) (S : Store) (k : Loc → Store → SR) : loopK (.bk τ S) k = .nx τ S := (rfl)
@[simp] theorem loopK_rt (v : T) (S : Store) (k : Loc → Store → SR) : loopK (.rt v S) k = .rt v S := (rfl)
@[simp] theorem loopK_exc (c : Nat) (v : T) (τ : Loc) (S : Store) (k : Loc → Store → SR) : loopK (.exc c v τ S) k = .exc c v τ S := (rfl)
@[simp] theorem loopK_stuck (k : Loc → Store → SR) : loopK .stuck k = .stuck := (rfl)
theorem whileF_step {c : TM} {body : SM} {n : Nat} {τ : Loc} {S S1 : Store} (h : c τ S = .ok true S1) : whileF c body (n + 1) τ S = loopK (body τ S1) (whileF c body n) := by
  simp only [whileF, h]
  rfl
theorem whileF_end {c : TM} {body : SM} {n : Nat} {τ : Loc} {S S1 : Store} (h : c τ S = .ok false S1) : whileF c body (n + 1) τ S = .nx τ S1 := by simp only [whileF, h]
theorem fuel_ge : 1000000 ≤ FUEL := by unfold FUEL; omega
theorem sWhile_fuel (c : TM) (body : SM) (k : Nat) (h : k ≤ 1000000) : ∃ n, sWhile c body = whileF c body (n + k) := ⟨FUEL - k, by
  have := fuel_ge
  rw [Nat.sub_add_cancel (by omega)]
  rfl⟩
/-! ### comprehensions over what stands still, where the block leaves the store as it is -/
theorem lc_map {all : List T} {vs : List Nat} {g : GM} {te : EM} {τ : Loc} {S : Store} (f : T → T) : ∀ {xs : List T}, (∀ x ∈ xs, ∃ τ2, g x (wipe τ vs) = some τ2 ∧ te τ2 S = .ok (f x) S) → lcLoop .fix all vs g tYes te τ xs S = .ok (xs.map f) S
  | [], _ => by simp [lcLoop, Src.ok]
  | x :: xs, h => by
    obtain ⟨τ2, h1, h2⟩ := h x List.mem_cons_self
    have ih := lc_map f (all := all) (xs := xs) fun y hy => h y (List.mem_cons_of_mem _ hy)
    simp only [lcLoop, Src.ok, if_true, h1, x_tYes, R.bind_ok, h2, ih, List.map_cons]
theorem cLC_map {wi : IM} {vs : List Nat} {g : GM} {te : EM} {τ : Loc} {S : Store} {xs : List T} (f : T → T) (hw : wi τ S = .ok (xs, .fix) S) (hl : xs.length ≤ 1000000) (h : ∀ x ∈ xs, ∃ τ2, g x (wipe τ vs) = some τ2 ∧ te τ2 S = .ok (f x) S) :
    cLC wi vs g tYes te τ S = .ok (.loc S.length) (S ++ [.lst (xs.map f)]) := by
  simp only [cLC, hw, R.bind_ok, line_ge hl, if_true, lc_map f h, x_alloc]
/-! ### slices -/
theorem cut_take {α : Type} (xs : List α) (d : Nat) : cut xs none (some (d : Int)) = xs.take d := by
  unfold cut sIx
  simp only [List.drop_zero, Nat.sub_zero]
  rw [if_neg (by omega)]
  simp only [Int.toNat_natCast]
  by_cases h : d ≤ xs.length
  · rw [Nat.min_eq_left h]
  · rw [Nat.min_eq_right (by omega), List.take_length, List.take_of_length_le (by omega)]
theorem cut_drop {α : Type} (xs : List α) (d : Nat) : cut xs (some (d : Int)) none = xs.drop d := by
  unfold cut sIx
  simp only
  rw [if_neg (by omega)]
  simp only [Int.toNat_natCast]
  by_cases h : d ≤ xs.length
  · rw [Nat.min_eq_left h, List.take_of_length_le (by simp)]
  · rw [Nat.min_eq_right (by omega), List.drop_eq_nil_of_le (Nat.le_refl _), List.drop_eq_nil_of_le (by omega)]
    simp
theorem cut_init {α : Type} (xs : List α) : cut xs none (some (-1)) = xs.dropLast := by
  unfold cut sIx
  simp only [List.drop_zero, Nat.sub_zero]
  rw [if_pos (by omega), List.dropLast_eq_take]
  congr 1
  omega
theorem cutS_eq (z : Str) (lo hi : Option Int) : L2.cutS z lo hi = ⟨(cut z.cps.toList lo hi).toArray⟩ := by
  unfold L2.cutS cut
  rw [sIx_same, sIx_same]
  have : z.cps.toList.length = z.length := Array.length_toList
  rw [this]
/-! ### texts of codes -/
def tx (cs : List Nat) : Str := ⟨cs.toArray⟩
def ch (c : Nat) : T := .str ⟨#[c]⟩
theorem strs_ch : ∀ cs : List Nat, strs? (cs.map ch) = some (cs.map fun c => ⟨#[c]⟩)
  | [] => rfl
  | c :: cs => by
    rw [List.map_cons, List.map_cons]
    show (strs? (cs.map ch)).map ((⟨#[c]⟩ : Str) :: ·) = _
    rw [strs_ch cs]; rfl
theorem fold_ch : ∀ (cs : List Nat) (a : Array Nat), (cs.map fun c => (⟨#[c]⟩ : Str)).foldl (fun acc p => acc ++ (Str.ofString "").cps ++ p.cps) a = ⟨a.toList ++ cs⟩
  | [], a => by simp
  | c :: cs, a => by
    rw [List.map_cons, List.foldl_cons, fold_ch cs]
    have e : (Str.ofString "").cps = #[] := by decide
    rw [e]
    simp
theorem join_ch (cs : List Nat) : PySem.Txt.join ("" : Str) (cs.map fun c => ⟨#[c]⟩) = tx cs := by
  show PySem.Builtin.Str.glued _ _ = _
  unfold PySem.Builtin.Str.glued tx
  cases cs with
  | nil => rfl
  | cons c cs =>
    rw [List.map_cons, List.drop_one, List.tail_cons, List.headD_cons, fold_ch]
    rfl
theorem tx_inj {a b : List Nat} : tx a = tx b ↔ a = b := by
  unfold tx
  constructor
  · intro h
    have := congrArg (fun z : Str => z.cps.toList) h
    simpa using this
  · intro h; rw [h]
theorem tx_len (a : List Nat) : (tx a).length = a.length := by unfold tx Str.length; simp
theorem tx_cps (a : List Nat) : (tx a).cps.toList = a := by unfold tx; simp
theorem tx_one (c : Nat) : (⟨#[c]⟩ : Str) = tx [c] := rfl
theorem lit0 : ("0" : Str) = ⟨#[48]⟩ := by decide
theorem lit1 : ("1" : Str) = ⟨#[49]⟩ := by decide
theorem litS : ("*" : Str) = ⟨#[42]⟩ := by decide
theorem litE : ("" : Str) = tx [] := by decide
theorem ch_inj {a b : Nat} : (⟨#[a]⟩ : Str) = ⟨#[b]⟩ ↔ a = b := by
  constructor
  · intro h
    have := tx_inj (a := [a]) (b := [b]) |>.mp h
    simpa using this
  · intro h; rw [h]
theorem iV_tx (cs : List Nat) (S : Store) : iV (.str (tx cs)) S = .ok (cs.map ch, .fix) S := by
  unfold iV tx ch
  simp
theorem sl_tx (cs : List Nat) (lo hi : Option Int) (S : Store) (h : cs.length ≤ 1000000) : opSl (.str (tx cs)) lo hi S = .ok (.str (tx (cut cs lo hi))) S := by
  simp only [opSl, tx_len, line_ge h, if_true, cutS_eq, tx_cps]
  rfl
theorem ix_tx {cs : List Nat} {i : Nat} {c : Nat} (S : Store) (hl : cs.length ≤ 1000000) (h : cs[i]? = some c) : opIx (.str (tx cs)) (.int (i : Int)) S = .ok (ch c) S := by
  have hi := (List.getElem?_eq_some_iff.mp h).1
  simp only [opIx, tx_len, line_ge hl, if_true, tx_cps, ixN]
  rw [if_pos (by omega), if_pos (by omega)]
  simp [h, ch]
theorem ix_last {cs : List Nat} {c : Nat} (S : Store) (hl : cs.length ≤ 1000000) (h : cs.getLast? = some c) : opIx (.str (tx cs)) (.int (-1)) S = .ok (ch c) S := by
  have h0 : cs ≠ [] := by intro e; subst e; simp at h
  have hp := List.length_pos_iff.mpr h0
  rw [List.getLast?_eq_getElem?] at h
  simp only [opIx, tx_len, line_ge hl, if_true, tx_cps, ixN]
  rw [if_neg (by omega), if_pos (by omega)]
  have : (-1 + (cs.length : Int)).toNat = cs.length - 1 := by omega
  simp [this, h, ch]
theorem ixT_last {xs : List T} {x : T} (S : Store) (h : xs.getLast? = some x) : opIx (.tup xs) (.int (-1)) S = .ok x S := by
  have h0 : xs ≠ [] := by intro e; subst e; simp at h
  have hp := List.length_pos_iff.mpr h0
  rw [List.getLast?_eq_getElem?] at h
  have := atT_neg (i := 1) (by omega) hp h
  simp only [opIx]
  rw [show (-1 : Int) = -((1 : Nat) : Int) by rfl, this]
theorem len_tx (cs : List Nat) (S : Store) (h : cs.length ≤ 1000000) : bLen (.str (tx cs)) S = .ok (.int cs.length) S := by
  simp only [bLen, tx_len, line_ge h, if_true]
/-! ### rounds -/
theorem cat_len {α : Type} (ys : List α) : ∀ k, ((List.replicate k ys).flatten).length = ys.length * k
  | 0 => rfl
  | k + 1 => by rw [List.replicate_succ, List.flatten_cons, List.length_append, cat_len ys k, Nat.mul_succ, Nat.add_comm]
theorem cat_get {α : Type} (ys : List α) : ∀ (k i : Nat), i < ys.length * k → ((List.replicate k ys).flatten)[i]? = ys[i % ys.length]?
  | 0, i, h => by simp at h
  | k + 1, i, h => by
    rw [List.replicate_succ, List.flatten_cons]
    by_cases c : i < ys.length
    · rw [List.getElem?_append_left c, Nat.mod_eq_of_lt c]
    · rw [List.getElem?_append_right (by omega), cat_get ys k (i - ys.length) (by rw [Nat.mul_succ] at h; omega)]
      congr 1
      rw [Nat.mod_eq_sub_mod (show i ≥ ys.length by omega)]
def Per {α : Type} (xs : List α) (d : Nat) : Prop := xs.length % d = 0 ∧ ∀ i, i < xs.length → xs[i]? = xs[i % d]?
theorem per_cat {α : Type} {xs : List α} {d : Nat} (h1 : 1 ≤ d) (h2 : d ≤ xs.length) (hd : xs.length % d = 0) : (List.replicate (xs.length / d) (xs.take d)).flatten = xs ↔ ∀ i, i < xs.length → xs[i]? = xs[i % d]? := by
  have lt : (xs.take d).length = d := by rw [List.length_take]; omega
  have e : d * (xs.length / d) = xs.length := Nat.mul_div_cancel' (Nat.dvd_of_mod_eq_zero hd)
  have gt : ∀ i, i < xs.length → ((List.replicate (xs.length / d) (xs.take d)).flatten)[i]? = xs[i % d]? := fun i hi => by
    rw [cat_get _ _ _ (by rw [lt, e]; exact hi), lt, List.getElem?_take, if_pos (Nat.mod_lt _ h1)]
  constructor
  · intro h i hi
    rw [← gt i hi, h]
  · intro h
    refine List.ext_getElem? fun i => ?_
    by_cases hi : i < xs.length
    · rw [gt i hi, h i hi]
    · rw [List.getElem?_eq_none (by rw [cat_len, lt, e]; omega), List.getElem?_eq_none (by omega)]
theorem per_map {α β : Type} {f : α → β} (hf : ∀ a b, f a = f b → a = b) {xs : List α} {d : Nat} : Per (xs.map f) d ↔ Per xs d := by
  unfold Per
  rw [List.length_map]
  refine and_congr Iff.rfl ⟨fun h i hi => ?_, fun h i hi => ?_⟩
  · have := h i hi
    rw [List.getElem?_map, List.getElem?_map] at this
    cases e1 : xs[i]? <;> cases e2 : xs[i % d]? <;> rw [e1, e2] at this <;> simp at this
    rw [hf _ _ this]
  · rw [List.getElem?_map, List.getElem?_map, h i hi]
theorem per_all {α : Type} (xs : List α) : Per xs xs.length := ⟨Nat.mod_self _, fun i hi => by rw [Nat.mod_eq_of_lt hi]⟩
theorem least {P : Nat → Prop} : ∀ n, P n → ∃ q, q ≤ n ∧ P q ∧ ∀ r, r < q → ¬ P r := fun n => by
  induction n using Nat.strongRecOn with
  | _ n ih =>
    intro h
    by_cases c : ∃ r, r < n ∧ P r
    · obtain ⟨r, hr, pr⟩ := c
      obtain ⟨q, h1, h2, h3⟩ := ih r hr pr
      exact ⟨q, by omega, h2, h3⟩
    · exact ⟨n, Nat.le_refl _, h, fun r hr hp => c ⟨r, hr, hp⟩⟩
theorem opMul_tup {xs : List T} {k : Nat} (S : Store) (h1 : 1 ≤ k) (h2 : k ≤ 1000) (h3 : xs.length ≤ 1000) : opMul (.tup xs) (.int (k : Int)) S = .ok (.tup (List.replicate k xs).flatten) S := by
  simp only [opMul]
  rw [if_pos ⟨by omega, by omega, h3⟩]
  rfl
theorem bls_map {α : Type} (g : α → Bool) : ∀ cs : List α, bls? (cs.map fun c => T.bl (g c)) = some (cs.map g)
  | [] => rfl
  | c :: cs => by
    rw [List.map_cons, List.map_cons]
    show (bls? (cs.map fun c => T.bl (g c))).map (g c :: ·) = _
    rw [bls_map g cs]; rfl
theorem last_get (S : Store) (o : O) : (S ++ [o])[S.length]? = some o := by simp
theorem bAll_new {α : Type} (S : Store) (g : α → Bool) (cs : List α) : bAll (.loc S.length) (S ++ [.lst (cs.map fun c => T.bl (g c))]) = .ok (.bl (cs.all g)) (S ++ [.lst (cs.map fun c => T.bl (g c))]) := by
  simp only [bAll, lstAt, lstN, last_get, Option.bind_some, bls_map]
  rw [List.all_map]
  rfl
theorem sco_ch (k : Nat) : ∀ cs : List Nat, T.scoL k (cs.map ch) = true
  | [] => rfl
  | c :: cs => by rw [List.map_cons]; show (T.sco k (ch c) && T.scoL k (cs.map ch)) = true; rw [sco_ch k cs]; rfl
theorem flat_sco (k : Nat) : ∀ {xs : List T}, (∀ x ∈ xs, flat x = true) → T.scoL k xs = true
  | [], _ => rfl
  | x :: xs, h => by
    show (T.sco k x && T.scoL k xs) = true
    rw [flat_sco k fun y hy => h y (List.mem_cons_of_mem _ hy)]
    have := h x List.mem_cons_self
    cases x <;> simp_all [flat, T.sco]
/-! two objects at the end of the store -/
section
variable (S : Store) (a b c : O)
theorem two_0 : (S ++ [a, b])[S.length]? = some a := by simp
theorem two_1 : (S ++ [a, b])[S.length + 1]? = some b := by simp
theorem two_s0 : (S ++ [a, b]).set S.length c = S ++ [c, b] := by rw [List.set_append_right _ _ (Nat.le_refl _), Nat.sub_self]; rfl
theorem two_s1 : (S ++ [a, b]).set (S.length + 1) c = S ++ [a, c] := by rw [List.set_append_right _ _ (by omega), Nat.add_sub_cancel_left]; rfl
end
theorem join_tup (cs : List Nat) (S : Store) (h : cs.length ≤ 1000000) : mJoin (.str "") (.tup (cs.map ch)) S = .ok (.str (tx cs)) S := by
  simp only [mJoin, strs_ch, join_ch]
  have e : (("" : Str)).length = 0 := by decide
  have e2 : (((cs.map fun c => (⟨#[c]⟩ : Str)).map (·.length)).sum) = cs.length := by
    rw [List.map_map]
    induction cs with
    | nil => rfl
    | cons c cs ih => rw [List.map_cons, List.sum_cons, ih (by simp at h; omega), List.length_cons]; show 1 + _ = _; omega
  rw [e, e2, Nat.mul_zero, Nat.add_zero, if_pos (line_ge h)]
theorem ch_flat {c : Nat} (h : c < 1114112) : flat (ch c) = true := by
  show PySem.PyData.strOk ⟨#[c]⟩ = true
  simp [PySem.PyData.strOk, h]
theorem ch_eq {a b : Nat} : ch a = ch b ↔ a = b := by
  unfold ch
  rw [T.str.injEq]
  exact ch_inj
theorem purse_ok (ns : List Int) (hl : ns.length ≤ 63) : ∃ S, endOf [] (purseP [some (.frl (ns.map T.int)), none] []) = .ok (.loc 1) S ∧ Purse [] S := by
  have w := cLC_map (wi := iVal (cVar 0)) (vs := [1]) (g := gName 1) (te := cGc (cIte (cBl (cBin (opCmp fun i j => decide (j ≤ i)) (cVar 1) (cK (.int 0)))) (cUn bInt (cVar 1)) (cBin opSub (cK (.int 5)) (cBin opMul (cK (.int 2)) (cUn bInt (cVar 1))))))
    (τ := [some (.frl (ns.map T.int)), none]) (S := []) (xs := ns.map T.int) (fun x => match x with
      | .int c => .int (if 0 ≤ c then c else 5 - 2 * c)
      | x => x) (by simp [iV]) (by simp; omega) (fun x hx => by
      obtain ⟨c, _, rfl⟩ := List.mem_map.mp hx
      refine ⟨_, rfl, ?_⟩
      have mu : ∀ S, opMul (.int 2) (.int c) S = .ok (.int (2 * c)) S := fun S => opMul_ok S (.inl (by omega))
      by_cases h : 0 ≤ c <;> simp [wipe, h, mu])
  rw [List.map_map] at w
  refine ⟨[.lst ((ns.map fun c => if 0 ≤ c then c else 5 - 2 * c).map T.int), .lst [.loc 0, .int 0, .int 0]], ?_, ns.map fun c => if 0 ≤ c then c else 5 - 2 * c, 0, 0, ?_, by omega, by simp; omega, rfl⟩
  · rw [List.map_map]
    have w' : cLC (iVal (cVar 0)) [1] (gName 1) tYes (cGc (cIte (cBl (cBin (opCmp fun i j => decide (j ≤ i)) (cVar 1) (cK (.int 0)))) (cUn bInt (cVar 1)) (cBin opSub (cK (.int 5)) (cBin opMul (cK (.int 2)) (cUn bInt (cVar 1)))))) [some (.frl (ns.map T.int)), none] [] = .ok (.loc 0) [.lst (ns.map (T.int ∘ fun c => if 0 ≤ c then c else 5 - 2 * c))] := w
    generalize O.lst (ns.map (T.int ∘ fun c => if 0 ≤ c then c else 5 - 2 * c)) = o at w' ⊢
    have gcr : gc [] [o, .lst [.loc 0, .int 0, .int 0]] (.loc 1) = .ok (.loc 1) [o, .lst [.loc 0, .int 0, .int 0]] := by
      unfold gc
      rw [if_pos (show keeps [] [o, .lst [.loc 0, .int 0, .int 0]] from keeps_app [] [o, .lst [.loc 0, .int 0, .int 0]]), if_neg (by decide)]
      rfl
    simp -implicitDefEqProofs [purseP, w', gcr]
  · intro c hc
    obtain ⟨x, _, rfl⟩ := List.mem_map.mp hc
    split <;> omega
end EV
end
section
set_option Elab.async false
set_option linter.all false
set_option maxRecDepth 100000
set_option maxHeartbeats 4000000
set_option autoImplicit false
namespace EV
/-! ### wishes -/
def R.wp {α : Type} (r : R α) (Q : α → Store → Prop) : Prop := match r with
  | .ok a S => Q a S
  | _ => False
theorem wp_ok {α : Type} (a : α) (S : Store) (Q : α → Store → Prop) : (R.ok a S).wp Q = Q a S := (rfl)
theorem wp_bind {α β : Type} (r : R α) (f : α → Store → R β) (Q : β → Store → Prop) : (r.bind f).wp Q = r.wp fun a S => (f a S).wp Q := by cases r <;> rfl
theorem wp_iff {α : Type} {r : R α} {Q : α → Store → Prop} : r.wp Q ↔ ∃ a S, r = .ok a S ∧ Q a S := by
  cases r with
  | ok a S => exact ⟨fun h => ⟨a, S, rfl, h⟩, fun ⟨a', S', e, h⟩ => by cases e; exact h⟩
  | exc c v S => exact ⟨fun h => h.elim, fun ⟨a', S', e, h⟩ => by cases e⟩
  | stuck => exact ⟨fun h => h.elim, fun ⟨a', S', e, h⟩ => by cases e⟩
theorem wp_mono {α : Type} {r : R α} {Q Q' : α → Store → Prop} (h : r.wp Q) (q : ∀ a S, Q a S → Q' a S) : r.wp Q' := by
  cases r with
  | ok a S => exact q a S h
  | exc c v S => exact h
  | stuck => exact h
theorem wp_of {α : Type} {r : R α} {a : α} {S : Store} {Q : α → Store → Prop} (e : r = .ok a S) (h : Q a S) : r.wp Q := by rw [e]; exact h
def SR.wp (r : SR) (N : Loc → Store → Prop) (V : T → Store → Prop) : Prop := match r with
  | .nx τ S => N τ S
  | .rt v S => V v S
  | _ => False
theorem swp_nx (τ : Loc) (S : Store) (N : Loc → Store → Prop) (V : T → Store → Prop) : (SR.nx τ S).wp N V = N τ S := (rfl)
theorem swp_rt (v : T) (S : Store) (N : Loc → Store → Prop) (V : T → Store → Prop) : (SR.rt v S).wp N V = V v S := (rfl)
theorem swp_bindS {α : Type} (τ : Loc) (r : R α) (f : α → Store → SR) (N : Loc → Store → Prop) (V : T → Store → Prop) : (r.bindS τ f).wp N V = r.wp fun a S => (f a S).wp N V := by cases r <;> rfl
theorem swp_seq (r : SR) (f : Loc → Store → SR) (N : Loc → Store → Prop) (V : T → Store → Prop) : (r.seq f).wp N V = r.wp (fun τ S => (f τ S).wp N V) V := by cases r <;> rfl
theorem swp_end (S : Store) (r : SR) (Q : T → Store → Prop) : (endOf S r).wp Q = r.wp (fun _ S' => (gc S S' .non).wp Q) (fun v S' => (gc S S' v).wp Q) := by cases r <;> rfl
theorem swp_mono {r : SR} {N N' : Loc → Store → Prop} {V V' : T → Store → Prop} (h : r.wp N V) (n : ∀ τ S, N τ S → N' τ S) (v : ∀ x S, V x S → V' x S) : r.wp N' V' := by
  cases r <;> first | exact n _ _ h | exact v _ _ h | exact h
theorem swp_of {r : SR} {τ : Loc} {S : Store} {N : Loc → Store → Prop} {V : T → Store → Prop} (e : r = .nx τ S) (h : N τ S) : r.wp N V := by rw [e]; exact h
/-- a loop over what stands still -/
theorem for_wp {g : GM} {body : SM} {V : T → Store → Prop} (I : Nat → Loc → Store → Prop) (all : List T) : ∀ (xs : List T) (j : Nat) (τ : Loc) (S : Store),
    (∀ i x τ S, xs[i]? = some x → I (j + i) τ S → ∃ τ1, g x τ = some τ1 ∧ (body τ1 S).wp (I (j + i + 1)) V) → I j τ S → (forL .fix all g body xs τ S).wp (I (j + xs.length)) V
  | [], j, τ, S, _, h0 => by rw [x_for0]; exact h0
  | x :: xs, j, τ, S, h, h0 => by
    obtain ⟨τ1, e, w⟩ := h 0 x τ S rfl h0
    rw [x_for1 e]
    cases hb : body τ1 S with
    | nx τ2 S2 =>
      rw [hb] at w
      have ih := for_wp I all xs (j + 1) τ2 S2 (fun i y τ S hi hI => by
        have := h (i + 1) y τ S (by simpa using hi) (by rw [show j + (i + 1) = j + 1 + i by omega]; exact hI)
        rwa [show j + (i + 1) + 1 = j + 1 + i + 1 by omega] at this) w
      rw [List.length_cons, show j + (xs.length + 1) = j + 1 + xs.length by omega]
      exact ih
    | rt v S2 => rw [hb] at w; exact w
    | _ => rw [hb] at w; exact w.elim
/-- a comprehension over what stands still -/
theorem lc_wp {vs : List Nat} {g : GM} {te : EM} {τ : Loc} (I : Nat → Store → Prop) (P : Nat → T → Prop) (all : List T) : ∀ (xs : List T) (j : Nat) (S : Store),
    (∀ i x S, xs[i]? = some x → I (j + i) S → ∃ τ2, g x (wipe τ vs) = some τ2 ∧ (te τ2 S).wp fun y S' => P (j + i) y ∧ I (j + i + 1) S') → I j S →
    (lcLoop .fix all vs g tYes te τ xs S).wp fun ys S' => ys.length = xs.length ∧ (∀ (i : Nat) (y : T), ys[i]? = some y → P (j + i) y) ∧ I (j + xs.length) S'
  | [], j, S, _, h0 => by simp [lcLoop, Src.ok, R.wp]; exact h0
  | x :: xs, j, S, h, h0 => by
    obtain ⟨τ2, e, w⟩ := h 0 x S rfl h0
    simp only [lcLoop, Src.ok, if_true, e, x_tYes, R.bind_ok]
    rw [wp_bind]
    refine wp_mono w fun y S1 ⟨py, i1⟩ => ?_
    rw [wp_bind]
    have ih := lc_wp (te := te) I P all xs (j + 1) S1 (fun i z S hi hI => by
      have := h (i + 1) z S (by simpa using hi) (by rw [show j + (i + 1) = j + 1 + i by omega]; exact hI)
      rwa [show j + (i + 1) = j + 1 + i by omega] at this) i1
    refine wp_mono ih fun ys S2 ⟨l, p, i2⟩ => ?_
    rw [wp_ok]
    refine ⟨by simp [l], fun i z hz => ?_, by rw [List.length_cons, show j + (xs.length + 1) = j + 1 + xs.length by omega]; exact i2⟩
    cases i with
    | zero => simp at hz; subst hz; exact py
    | succ i =>
      have := p i z (by simpa using hz)
      rwa [show j + (i + 1) = j + 1 + i by omega]
theorem cLC_wp {wi : IM} {vs : List Nat} {g : GM} {te : EM} {τ : Loc} {S S1 : Store} {xs : List T} (I : Nat → Store → Prop) (P : Nat → T → Prop) (hw : wi τ S = .ok (xs, .fix) S1) (hl : xs.length ≤ 1000000)
    (h : ∀ i x S, xs[i]? = some x → I i S → ∃ τ2, g x (wipe τ vs) = some τ2 ∧ (te τ2 S).wp fun y S' => P i y ∧ I (i + 1) S') (h0 : I 0 S1) :
    (cLC wi vs g tYes te τ S).wp fun v S' => ∃ ys S2, v = .loc S2.length ∧ S' = S2 ++ [.lst ys] ∧ ys.length = xs.length ∧ (∀ (i : Nat) (y : T), ys[i]? = some y → P i y) ∧ I xs.length S2 := by
  have w := lc_wp (vs := vs) (g := g) (te := te) (τ := τ) I P xs xs 0 S1 (fun i x S hi hI => by rw [Nat.zero_add] at hI ⊢; exact h i x S hi hI) h0
  obtain ⟨ys, S2, e, l, p, i2⟩ := wp_iff.mp w
  simp only [cLC, hw, R.bind_ok, line_ge hl, if_true, e]
  refine ⟨ys, S2, rfl, rfl, l, fun i y hy => ?_, ?_⟩
  · have := p i y hy; rwa [Nat.zero_add] at this
  · rwa [Nat.zero_add] at i2
/-! ### what is forgotten -/
theorem gc_keep {S S' : Store} {v : T} (h : keeps S S') (hv : v.sco S.length = true) : gc S S' v = .ok v (S'.take S.length) := by
  unfold gc
  rw [if_pos h, if_pos hv]
theorem gcB_keep {S S' : Store} {b : Bool} (h : keeps S S') : gcB S S' b = .ok b (S'.take S.length) := by
  unfold gcB
  rw [if_pos h]
/-- a part of the store that may be written, what stands behind it, what is new -/
structure Part (n : Nat) (P : Store) : Prop where
  len : P.length = n
  sco : ∀ o ∈ P, o.sco n = true
mutual
theorem sco_le {m n : Nat} (h : m ≤ n) : ∀ {t : T}, t.sco m = true → t.sco n = true
  | .non, _ => rfl
  | .bl _, _ => rfl
  | .int _, _ => rfl
  | .str _, _ => rfl
  | .tup xs, q => sco_leL h (xs := xs) q
  | .loc k, q => by simp only [T.sco, decide_eq_true_eq] at q ⊢; omega
  | .frl xs, q => sco_leL h (xs := xs) q
  | .rng _ _, _ => rfl
  | .ex _ v, q => sco_le h (t := v) q
  | .clo _ cs, q => sco_leL h (xs := cs) q
theorem sco_leL {m n : Nat} (h : m ≤ n) : ∀ {xs : List T}, T.scoL m xs = true → T.scoL n xs = true
  | [], _ => rfl
  | x :: xs, q => by
    simp only [T.scoL, Bool.and_eq_true] at q ⊢
    exact ⟨sco_le h q.1, sco_leL h q.2⟩
end
theorem osco_le {m n : Nat} (h : m ≤ n) {o : O} (q : o.sco m = true) : o.sco n = true := by
  cases o with
  | lst xs => exact sco_leL h q
  | sset xs => exact sco_leL h q
  | dict kvs =>
    simp only [O.sco, List.all_eq_true, Bool.and_eq_true] at q ⊢
    exact fun p hp => ⟨sco_le h (q p hp).1, sco_le h (q p hp).2⟩
theorem keeps_part {n : Nat} {P P' G X : Store} (h : Part n P) (h' : Part n P') : keeps (P ++ G) (P' ++ G ++ X) := by
  refine ⟨by simp only [List.length_append, h.len, h'.len]; omega, fun i hi => ?_⟩
  by_cases c : i < n
  · right
    have l : i < P'.length := by rw [h'.len]; exact c
    refine ⟨P'[i], ?_, osco_le (m := n) (by simp [h.len]) (h'.sco _ (List.getElem_mem l))⟩
    rw [List.append_assoc, List.getElem?_append_left l]
    exact List.getElem?_eq_getElem l
  · left
    have e1 : (P ++ G)[i]? = G[i - n]? := by rw [List.getElem?_append_right (by rw [h.len]; omega), h.len]
    have e2 : (P' ++ G ++ X)[i]? = G[i - n]? := by
      simp only [List.length_append, h.len] at hi
      rw [List.append_assoc, List.getElem?_append_right (by rw [h'.len]; omega), h'.len, List.getElem?_append_left (by omega)]
    rw [e1, e2]
theorem take_part {n : Nat} {P P' G X : Store} (h : Part n P) (h' : Part n P') : (P' ++ G ++ X).take (P ++ G).length = P' ++ G := by
  rw [List.length_append, h.len, ← h'.len, ← List.length_append, List.take_left']
  rfl
theorem gc_part {n : Nat} {P P' G X : Store} {v : T} (h : Part n P) (h' : Part n P') (hv : v.sco (n + G.length) = true) : gc (P ++ G) (P' ++ G ++ X) v = .ok v (P' ++ G) := by
  rw [gc_keep (keeps_part h h') (by rw [List.length_append, h.len]; exact hv), take_part h h']
theorem gc_part0 {n : Nat} {P P' G : Store} {v : T} (h : Part n P) (h' : Part n P') (hv : v.sco (n + G.length) = true) : gc (P ++ G) (P' ++ G) v = .ok v (P' ++ G) := by
  have := gc_part (X := []) h h' hv
  rwa [List.append_nil] at this
theorem gcB_part {n : Nat} {P P' G X : Store} {b : Bool} (h : Part n P) (h' : Part n P') : gcB (P ++ G) (P' ++ G ++ X) b = .ok b (P' ++ G) := by
  rw [gcB_keep (keeps_part h h'), take_part h h']
theorem gc_partNew {n : Nat} {P P' G X : Store} {o : O} (h : Part n P) (h' : Part n P') (ho : o.sco (n + G.length) = true) : gc (P ++ G) (P' ++ G ++ X ++ [o]) (.loc (n + G.length + X.length)) = .ok (.loc (n + G.length)) (P' ++ G ++ [o]) := by
  have k : keeps (P ++ G) (P' ++ G ++ (X ++ [o])) := keeps_part h h'
  rw [← List.append_assoc] at k
  have l : (P ++ G).length = n + G.length := by rw [List.length_append, h.len]
  unfold gc
  rw [if_pos k, l, if_neg (by simp [T.sco])]
  have e : (P' ++ G ++ X ++ [o])[n + G.length + X.length]? = some o := by
    rw [List.getElem?_append_right (by simp only [List.length_append, h'.len]; omega)]
    simp only [List.length_append, h'.len, Nat.sub_self, List.getElem?_cons_zero]
  have t : (P' ++ G ++ X ++ [o]).take (n + G.length) = P' ++ G := by
    rw [← l, List.append_assoc (P' ++ G), take_part h h']
  simp only [e, ho, if_true, t]
/-! ### draws -/
/-- f draws numbers out of the pot -/
structure Draws (E : Env) (f : Nat) (pot : T) (n : Nat) (Pot : Store → Prop) : Prop where
  part : ∀ P, Pot P → Part n P
  psco : pot.sco n = true
  draw : ∀ (k : Nat) (P G : Store) (many : Int), Pot P → 1 ≤ many → many < 2 ^ 64 → ∃ (r : Nat) (P' : Store), E.C (k + 1) f [pot, .int many] (P ++ G) = .ok (.int r) (P' ++ G) ∧ Pot P' ∧ (r : Int) < many
end EV
end
section
set_option Elab.async false
set_option linter.all false
set_option maxRecDepth 100000
set_option maxHeartbeats 4000000
set_option autoImplicit false
namespace EV
@[simp] theorem x_sAugS (f : T → T → Store → R T) (o i e : EM) (τ : Loc) (S : Store) : sAugS f o i e τ S = (o τ S).bindS τ fun ov S1 => (i τ S1).bindS τ fun iv S2 => (opIxM ov iv S2).bindS τ fun x S3 =>
  (e τ S3).bindS τ fun y S4 => (f x y S4).bindS τ fun z S5 => (match setIx ov iv z S5 with | some S6 => .nx τ S6 | none => .stuck) := (rfl)
@[simp] theorem x_opIxM (n : Nat) (i : T) (S : Store) : opIxM (.loc n) i S = opIx (.loc n) i S := (rfl)
@[simp] theorem x_opIAddI (i j : Int) (S : Store) : opIAdd (.int i) (.int j) S = .ok (.int (i + j)) S := (rfl)
theorem p5 (x m : Int) (h : 0 < m) : 0 ≤ x % m ∧ x % m < m := ⟨Int.emod_nonneg _ (by omega), Int.emod_lt_of_pos _ h⟩
theorem mulL (x y : Int) (h1 : -(2 ^ 64) < y) (h2 : y < 2 ^ 64) (S : Store) : opMul (.int x) (.int y) S = .ok (.int (x * y)) S := opMul_ok S (.inr ⟨h1, h2⟩)
theorem mulR (x y : Int) (h1 : -(2 ^ 64) < x) (h2 : x < 2 ^ 64) (S : Store) : opMul (.int x) (.int y) S = .ok (.int (x * y)) S := opMul_ok S (.inl ⟨h1, h2⟩)
theorem scoInts (k : Nat) : ∀ l : List Int, T.scoL k (l.map T.int) = true
  | [] => rfl
  | x :: l => by rw [List.map_cons]; show (true && T.scoL k (l.map T.int)) = true; rw [scoInts k l]; rfl
/-! ### the pot with the cells beside -/
def potA (cs : List Int) (a b c d : Int) (G : Store) : Store := .lst (cs.map T.int) :: .lst [.int a, .int b, .int c, .int d, .loc 0] :: G
def PotA (P : Store) : Prop := ∃ (cs : List Int) (a b c d : Int), 0 ≤ a ∧ 0 ≤ b ∧ b < 2 ^ 64 ∧ 0 ≤ d ∧ d ≤ cs.length ∧ cs.length ≤ 63 ∧ P = potA cs a b c d []
theorem potA_app (cs : List Int) (a b c d : Int) (G : Store) : potA cs a b c d [] ++ G = potA cs a b c d G := (rfl)
noncomputable def drawA1 : SM := (sIf (cGcB (tAnd (cBl (cBin opEq (cBin opIx (cVar 0) (cK (.int 0))) (cK (.int 0)))) (cBl (cBin (opCmp fun i j => decide (i < j)) (cBin opIx (cVar 0) (cK (.int 3))) (cUn bLen (cBin opIx (cVar 0) (cK (.int 4)))))))) (sSeq (sAsg (cGc (cBin opIx (cBin opIx (cVar 0) (cK (.int 4))) (cBin opIx (cVar 0) (cK (.int 3))))) (gName 2)) (sSeq (sAugS opIAdd (cVar 0) (cK (.int 3)) (cK (.int 1))) (sSeq (sIf (cGcB (cBl (cBin (opCmp fun i j => decide (j ≤ i)) (cVar 2) (cBin opPow (cK (.int 10)) (cK (.int 18)))))) (sSeq (sSet (cBin opSub (cVar 2) (cBin opPow (cK (.int 10)) (cK (.int 18)))) (cVar 0) (cK (.int 0))) sNext) (sSeq (sSet (cBin opMod (cUn bInt (cBin opAdd (cBin opMul (cBin opIx (cVar 0) (cK (.int 1))) (cK (.int 331))) (cBin opMul (cBin opAdd (cBin opMul (cK (.int 5)) (cVar 2)) (cK (.int 3))) (cBin opIx (cVar 0) (cK (.int 3)))))) (cK (.int 1000000000039))) (cVar 0) (cK (.int 1))) sNext)) sNext))) sNext)
noncomputable def drawA2 : SM := (sSeq (sIf (cGcB (cBl (cBin (opCmp fun i j => decide (j < i)) (cBin opIx (cVar 0) (cK (.int 0))) (cK (.int 0))))) (sSeq (sAsg (cGc (cBin opMod (cUn bInt (cBin opIx (cVar 0) (cK (.int 0)))) (cVar 1))) (gName 3)) (sSeq (sSet (cBin opDiv (cBin opIx (cVar 0) (cK (.int 0))) (cVar 1)) (cVar 0) (cK (.int 0))) (sSeq (sRet (cVar 3)) sNext))) sNext) (sSeq (sSet (cBin opMod (cUn bInt (cBin opAdd (cBin opAdd (cBin opMul (cBin opIx (cVar 0) (cK (.int 1))) (cK (.int 48271))) (cBin opMul (cK (.int 7907)) (cBin opIx (cVar 0) (cK (.int 2))))) (cK (.int 11)))) (cK (.int 1000000000039))) (cVar 0) (cK (.int 1))) (sSeq (sAsg (cGc (cBin opMod (cUn bInt (cBin opAdd (cBin opMul (cBin opMul (cBin opIx (cVar 0) (cK (.int 1))) (cBin opIx (cVar 0) (cK (.int 1)))) (cK (.int 7))) (cBin opDiv (cBin opIx (cVar 0) (cK (.int 1))) (cK (.int 1024))))) (cK (.int 999999999989)))) (gName 4)) (sSeq (sRet (cBin opMod (cUn bInt (cBin opDiv (cVar 4) (cK (.int 256)))) (cVar 1))) sNext))))
theorem B_drawA (E : Env) (k : Nat) : B__law_draw E k = sSeq (sAugS opIAdd (cVar 0) (cK (.int 2)) (cK (.int 1))) (sSeq drawA1 drawA2) := rfl
theorem drawA1_ok {cs : List Int} {a b c d : Int} (ha : 0 ≤ a) (hb : 0 ≤ b) (hb2 : b < 2 ^ 64) (hd : 0 ≤ d) (hd2 : d ≤ cs.length) (hl : cs.length ≤ 63) (many : Int) (G : Store) :
    ∃ a' b' d' o, drawA1 [some (.loc 1), some (.int many), none, none, none] (potA cs a b c d G) = .nx [some (.loc 1), some (.int many), o, none, none] (potA cs a' b' c d' G) ∧ 0 ≤ a' ∧ 0 ≤ b' ∧ b' < 2 ^ 64 ∧ 0 ≤ d' ∧ d' ≤ cs.length := by
  by_cases h1 : a = 0
  · by_cases h2 : d < cs.length
    · obtain ⟨i, rfl⟩ : ∃ i : Nat, d = i := ⟨d.toNat, by omega⟩
      have hi : i < cs.length := by omega
      have h2' : (i : Int) < cs.length := h2
      generalize hcell : cs[i] = cell
      by_cases h3 : (1000000000000000000 : Int) ≤ cell
      · refine ⟨cell - 1000000000000000000, b, i + 1, some (.int cell), ?_, by omega, hb, hb2, by omega, by omega⟩
        unfold drawA1 potA
        simp [opIx, atT, ixN, setIx, bLen, gc_len, gcB_len, h1, hi, hcell, h3, h2']
        done
      · have q := p5 (b * 331 + (5 * cell + 3) * (i + 1)) 1000000000039 (by omega)
        generalize hr : (b * 331 + (5 * cell + 3) * ((i : Int) + 1)) % 1000000000039 = r at q
        refine ⟨0, r, i + 1, some (.int cell), ?_, by omega, by omega, by omega, by omega, by omega⟩
        have c1 := mulL b 331 (by omega) (by omega)
        have c2 := mulL (5 * cell + 3) (i + 1) (by omega) (by omega)
        have c3 := mulR 5 cell (by omega) (by omega)
        unfold drawA1 potA
        simp [opIx, atT, ixN, setIx, bLen, gc_len, gcB_len, h1, hi, hcell, h3, h2', c1, c2, c3, opMod_ok, hr]
        done
    · refine ⟨a, b, d, none, ?_, ha, hb, hb2, hd, hd2⟩
      unfold drawA1 potA
      simp [opIx, atT, ixN, setIx, bLen, gc_len, gcB_len, h1, h2]
      done
  · refine ⟨a, b, d, none, ?_, ha, hb, hb2, hd, hd2⟩
    unfold drawA1 potA
    simp [opIx, atT, ixN, setIx, bLen, gc_len, gcB_len, h1]
    done
theorem drawA2_ok {cs : List Int} {a b c d : Int} (ha : 0 ≤ a) (hb : 0 ≤ b) (hb2 : b < 2 ^ 64) (many : Int) (h1 : 1 ≤ many) (h2 : many < 2 ^ 64) (o : Option T) (G : Store) :
    ∃ (r : Nat) (a' b' : Int), drawA2 [some (.loc 1), some (.int many), o, none, none] (potA cs a b c d G) = .rt (.int r) (potA cs a' b' c d G) ∧ 0 ≤ a' ∧ 0 ≤ b' ∧ b' < 2 ^ 64 ∧ (r : Int) < many := by
  have hm : 0 < many := by omega
  have hm' : many < 18446744073709551616 := by omega
  have q := fun x => p5 x many hm
  by_cases h3 : 0 < a
  · have q1 := q a
    obtain ⟨r, hr⟩ : ∃ r : Nat, a % many = r := ⟨(a % many).toNat, by omega⟩
    refine ⟨r, a / many, b, ?_, Int.ediv_nonneg ha (by omega), hb, hb2, by omega⟩
    unfold drawA2 potA
    simp [opIx, atT, ixN, setIx, bLen, gc_len, gcB_len, h3, opMod_ok, opDiv_ok, hm, hm', hr]
    done
  · have q1 := p5 (b * 48271 + 7907 * c + 11) 1000000000039 (by omega)
    generalize hr1 : (b * 48271 + 7907 * c + 11) % 1000000000039 = r1 at q1
    have q2 := p5 (r1 * r1 * 7 + r1 / 1024) 999999999989 (by omega)
    generalize hr2 : (r1 * r1 * 7 + r1 / 1024) % 999999999989 = r2 at q2
    have q3 := q (r2 / 256)
    obtain ⟨r, hr⟩ : ∃ r : Nat, r2 / 256 % many = r := ⟨(r2 / 256 % many).toNat, by omega⟩
    refine ⟨r, a, r1, ?_, ha, by omega, by omega, by omega⟩
    have c1 := mulL b 48271 (by omega) (by omega)
    have c2 := mulR 7907 c (by omega) (by omega)
    have c3 := mulL r1 r1 (by omega) (by omega)
    have c4 := mulL (r1 * r1) 7 (by omega) (by omega)
    unfold drawA2 potA
    simp [opIx, atT, ixN, setIx, bLen, gc_len, gcB_len, h3, opMod_ok, opDiv_ok, hm, hm', c1, c2, c3, c4, hr1, hr2, hr]
    done
theorem potA_part {P : Store} (h : PotA P) : Part 2 P := by
  obtain ⟨cs, a, b, c, d, _, _, _, _, _, _, rfl⟩ := h
  refine ⟨rfl, fun o ho => ?_⟩
  simp only [potA, List.mem_cons, List.not_mem_nil, or_false] at ho
  rcases ho with rfl | rfl
  · exact scoInts 2 cs
  · rfl
theorem drawsA (E : Env) [U__law_draw E] : Draws E f__law_draw (.loc 1) 2 PotA where
  part := fun P h => potA_part h
  psco := rfl
  draw := fun k P G many hP h1 h2 => by
    obtain ⟨cs, a, b, c, d, ha, hb, hb2, hd, hd2, hl, rfl⟩ := hP
    obtain ⟨a', b', d', o, e1, ha', hb', hb2', hd', hd2'⟩ := drawA1_ok (c := c + 1) ha hb hb2 hd hd2 hl many G
    obtain ⟨r, a2, b2, e2, ha2, hb3, hb4, hr⟩ := drawA2_ok (cs := cs) (c := c + 1) (d := d') ha' hb' hb2' many h1 h2 o G
    refine ⟨r, potA cs a2 b2 (c + 1) d' [], ?_, ⟨cs, a2, b2, c + 1, d', ha2, hb3, hb4, hd', hd2', hl, rfl⟩, hr⟩
    rw [U__law_draw.eq, B_drawA, potA_app, potA_app]
    have e0 : sAugS opIAdd (cVar 0) (cK (.int 2)) (cK (.int 1)) [some (.loc 1), some (.int many), none, none, none] (potA cs a b c d G) = .nx [some (.loc 1), some (.int many), none, none, none] (potA cs a b (c + 1) d G) := by
      unfold potA
      simp [opIx, atT, ixN, setIx]
      done
    rw [x_sSeq, e0, SR.seq_nx, x_sSeq, e1, SR.seq_nx, e2, x_endrt]
    exact gc_len rfl
/-! ### the pot of one list -/
def potB (cs : List Int) (a b c : Int) (G : Store) : Store := .lst (.int a :: .int b :: .int c :: cs.map T.int) :: G
def PotB (P : Store) : Prop := ∃ (cs : List Int) (a b c : Int), 0 ≤ a ∧ 0 ≤ b ∧ b < 2 ^ 64 ∧ 3 ≤ c ∧ c ≤ 3 + cs.length ∧ cs.length ≤ 63 ∧ P = potB cs a b c []
theorem potB_app (cs : List Int) (a b c : Int) (G : Store) : potB cs a b c [] ++ G = potB cs a b c G := (rfl)
section
variable (cs : List Int) (a b c : Int) (G : Store)
theorem ixB0 : opIx (.loc 0) (.int 0) (potB cs a b c G) = .ok (.int a) (potB cs a b c G) := ix_at (n := 0) (xs := .int a :: .int b :: .int c :: cs.map T.int) (potB cs a b c G) (atT_nat (i := 0) rfl) rfl
theorem ixB1 : opIx (.loc 0) (.int 1) (potB cs a b c G) = .ok (.int b) (potB cs a b c G) := ix_at (n := 0) (xs := .int a :: .int b :: .int c :: cs.map T.int) (potB cs a b c G) (atT_nat (i := 1) rfl) rfl
theorem ixB2 : opIx (.loc 0) (.int 2) (potB cs a b c G) = .ok (.int c) (potB cs a b c G) := ix_at (n := 0) (xs := .int a :: .int b :: .int c :: cs.map T.int) (potB cs a b c G) (atT_nat (i := 2) rfl) rfl
theorem ixBi {i : Nat} (h : i < cs.length) : opIx (.loc 0) (.int ((i : Int) + 3)) (potB cs a b c G) = .ok (.int cs[i]) (potB cs a b c G) := by
  refine ix_at (n := 0) (xs := .int a :: .int b :: .int c :: cs.map T.int) (potB cs a b c G) ?_ rfl
  rw [show (i : Int) + 3 = ((i + 3 : Nat) : Int) by omega]
  exact atT_nat (by simp [h])
theorem lenB : bLen (.loc 0) (potB cs a b c G) = .ok (.int ((cs.length : Int) + 3)) (potB cs a b c G) := by
  unfold bLen potB
  simp
  omega
theorem setIx_lst {n i : Nat} {xs : List T} {v : T} {S : Store} (h : S[n]? = some (.lst xs)) (hi : i < xs.length) : setIx (.loc n) (.int (i : Int)) v S = some (S.set n (.lst (xs.set i v))) := by
  have : ixN xs.length (i : Int) = some i := by
    unfold ixN
    rw [if_pos (by omega), if_pos (by omega)]
    simp
  simp only [setIx, h, this]
theorem setB0 (v : Int) : setIx (.loc 0) (.int 0) (.int v) (potB cs a b c G) = some (potB cs v b c G) := setIx_lst (n := 0) (i := 0) (xs := .int a :: .int b :: .int c :: cs.map T.int) rfl (by simp)
theorem setB1 (v : Int) : setIx (.loc 0) (.int 1) (.int v) (potB cs a b c G) = some (potB cs a v c G) := setIx_lst (n := 0) (i := 1) (xs := .int a :: .int b :: .int c :: cs.map T.int) rfl (by simp)
theorem setB2 (v : Int) : setIx (.loc 0) (.int 2) (.int v) (potB cs a b c G) = some (potB cs a b v G) := setIx_lst (n := 0) (i := 2) (xs := .int a :: .int b :: .int c :: cs.map T.int) rfl (by simp)
theorem gcB_ (a' b' c' : Int) (v : T) : gc (potB cs a b c G) (potB cs a' b' c' G) v = .ok v (potB cs a' b' c' G) := gc_len rfl
theorem gcBB (a' b' c' : Int) (v : Bool) : gcB (potB cs a b c G) (potB cs a' b' c' G) v = .ok v (potB cs a' b' c' G) := gcB_len rfl
end
noncomputable def takeB1 : SM := (sIf (cGcB (tAnd (cBl (cBin opEq (cBin opIx (cVar 0) (cK (.int 0))) (cK (.int 0)))) (cBl (cBin (opCmp fun i j => decide (i < j)) (cBin opIx (cVar 0) (cK (.int 2))) (cUn bLen (cVar 0)))))) (sSeq (sAsg (cGc (cBin opIx (cVar 0) (cBin opIx (cVar 0) (cK (.int 2))))) (gName 2)) (sSeq (sAugS opIAdd (cVar 0) (cK (.int 2)) (cK (.int 1))) (sSeq (sIf (cGcB (cBl (cBin (opCmp fun i j => decide (j ≤ i)) (cVar 2) (cBin opPow (cK (.int 10)) (cK (.int 18)))))) (sSeq (sSet (cBin opSub (cVar 2) (cBin opPow (cK (.int 10)) (cK (.int 18)))) (cVar 0) (cK (.int 0))) sNext) (sSeq (sAsg (cGc (cBin opMod (cUn bInt (cVar 2)) (cK (.int 2147483647)))) (gName 3)) (sSeq (sAsg (cGc (cBin opMod (cUn bInt (cBin opAdd (cBin opAdd (cBin opMul (cVar 3) (cVar 3)) (cBin opMul (cK (.int 62089911)) (cVar 3))) (cBin opMul (cK (.int 1301)) (cBin opIx (cVar 0) (cK (.int 2)))))) (cK (.int 2147483629)))) (gName 3)) (sSeq (sSet (cBin opMod (cUn bInt (cBin opAdd (cBin opIx (cVar 0) (cK (.int 1))) (cVar 3))) (cK (.int 2147483629))) (cVar 0) (cK (.int 1))) sNext)))) sNext))) sNext)
noncomputable def takeB2 : SM := (sSeq (sIf (cGcB (cBl (cBin (opCmp fun i j => decide (j < i)) (cBin opIx (cVar 0) (cK (.int 0))) (cK (.int 0))))) (sSeq (sAsg (cGc (cBin opMod (cUn bInt (cBin opIx (cVar 0) (cK (.int 0)))) (cVar 1))) (gName 4)) (sSeq (sSet (cBin opDiv (cBin opIx (cVar 0) (cK (.int 0))) (cVar 1)) (cVar 0) (cK (.int 0))) (sSeq (sRet (cVar 4)) sNext))) sNext) (sSeq (sSet (cBin opMod (cUn bInt (cBin opAdd (cBin opAdd (cBin opMul (cBin opIx (cVar 0) (cK (.int 1))) (cK (.int 41358))) (cBin opMul (cK (.int 31657)) (cBin opIx (cVar 0) (cK (.int 2))))) (cK (.int 23)))) (cK (.int 2147483647))) (cVar 0) (cK (.int 1))) (sSeq (sSet (cBin opMod (cUn bInt (cBin opAdd (cBin opMul (cBin opIx (cVar 0) (cK (.int 1))) (cBin opIx (cVar 0) (cK (.int 1)))) (cK (.int 11)))) (cK (.int 2147483629))) (cVar 0) (cK (.int 1))) (sSeq (sRet (cBin opMod (cUn bInt (cBin opDiv (cBin opIx (cVar 0) (cK (.int 1))) (cK (.int 8)))) (cVar 1))) sNext))))
theorem B_takeB (E : Env) (k : Nat) : B__law_take E k = sSeq takeB1 takeB2 := rfl
theorem takeB1_ok {cs : List Int} {a b c : Int} (ha : 0 ≤ a) (hb : 0 ≤ b) (hb2 : b < 2 ^ 64) (hd : 3 ≤ c) (hd2 : c ≤ 3 + cs.length) (hl : cs.length ≤ 63) (many : Int) (G : Store) :
    ∃ a' b' c' o o2, takeB1 [some (.loc 0), some (.int many), none, none, none] (potB cs a b c G) = .nx [some (.loc 0), some (.int many), o, o2, none] (potB cs a' b' c' G) ∧ 0 ≤ a' ∧ 0 ≤ b' ∧ b' < 2 ^ 64 ∧ 3 ≤ c' ∧ c' ≤ 3 + cs.length := by
  by_cases h1 : a = 0
  · by_cases h2 : c < 3 + cs.length
    · obtain ⟨i, rfl⟩ : ∃ i : Nat, c = i + 3 := ⟨(c - 3).toNat, by omega⟩
      have hi : i < cs.length := by omega
      have h2' : (i : Int) + 3 < cs.length + 3 := by omega
      have hn : ¬ ((i : Int) + 3 < 0) := by omega
      have hnn : (0 : Int) ≤ (i : Int) + 3 := by omega
      have ht : ((i : Int) + 3).toNat = i + 3 := by omega
      generalize hcell : cs[i] = cell
      by_cases h3 : (1000000000000000000 : Int) ≤ cell
      · refine ⟨cell - 1000000000000000000, b, i + 3 + 1, some (.int cell), none, ?_, by omega, hb, hb2, by omega, by omega⟩
        unfold takeB1
        simp [ixB0, ixB1, ixB2, ixBi, lenB, setB0, setB1, setB2, gcB_, gcBB, h1, hi, hcell, h3, h2', hn, hnn, ht]
        done
      · have q0 := p5 cell 2147483647 (by omega)
        generalize hr0 : cell % 2147483647 = m0 at q0
        have q1 := p5 (m0 * m0 + 62089911 * m0 + 1301 * (i + 3 + 1)) 2147483629 (by omega)
        generalize hr1 : (m0 * m0 + 62089911 * m0 + 1301 * ((i : Int) + 3 + 1)) % 2147483629 = m1 at q1
        have q2 := p5 (b + m1) 2147483629 (by omega)
        generalize hr2 : (b + m1) % 2147483629 = m2 at q2
        refine ⟨0, m2, i + 3 + 1, some (.int cell), some (.int m1), ?_, by omega, by omega, by omega, by omega, by omega⟩
        have c1 := mulL m0 m0 (by omega) (by omega)
        have c2 := mulR 62089911 m0 (by omega) (by omega)
        have c3 := mulR 1301 (i + 3 + 1) (by omega) (by omega)
        unfold takeB1
        simp [ixB0, ixB1, ixB2, ixBi, lenB, setB0, setB1, setB2, gcB_, gcBB, h1, hi, hcell, h3, h2', hn, hnn, ht, c1, c2, c3, opMod_ok, hr0, hr1, hr2]
        done
    · refine ⟨a, b, c, none, none, ?_, ha, hb, hb2, hd, hd2⟩
      have h2' : ¬ (c < cs.length + 3) := by omega
      unfold takeB1
      simp [ixB0, ixB1, ixB2, ixBi, lenB, setB0, setB1, setB2, gcB_, gcBB, h1, h2']
      done
  · refine ⟨a, b, c, none, none, ?_, ha, hb, hb2, hd, hd2⟩
    unfold takeB1
    simp [ixB0, ixB1, ixB2, ixBi, lenB, setB0, setB1, setB2, gcB_, gcBB, h1]
    done
theorem takeB2_ok {cs : List Int} {a b c : Int} (ha : 0 ≤ a) (hb : 0 ≤ b) (hb2 : b < 2 ^ 64) (many : Int) (h1 : 1 ≤ many) (h2 : many < 2 ^ 64) (o o2 : Option T) (G : Store) :
    ∃ (r : Nat) (a' b' : Int), takeB2 [some (.loc 0), some (.int many), o, o2, none] (potB cs a b c G) = .rt (.int r) (potB cs a' b' c G) ∧ 0 ≤ a' ∧ 0 ≤ b' ∧ b' < 2 ^ 64 ∧ (r : Int) < many := by
  have hm : 0 < many := by omega
  have hm' : many < 18446744073709551616 := by omega
  have q := fun x => p5 x many hm
  by_cases h3 : 0 < a
  · have q1 := q a
    obtain ⟨r, hr⟩ : ∃ r : Nat, a % many = r := ⟨(a % many).toNat, by omega⟩
    refine ⟨r, a / many, b, ?_, Int.ediv_nonneg ha (by omega), hb, hb2, by omega⟩
    unfold takeB2
    simp [ixB0, ixB1, ixB2, ixBi, lenB, setB0, setB1, setB2, gcB_, gcBB, h3, opMod_ok, opDiv_ok, hm, hm', hr]
    done
  · have q1 := p5 (b * 41358 + 31657 * c + 23) 2147483647 (by omega)
    generalize hr1 : (b * 41358 + 31657 * c + 23) % 2147483647 = r1 at q1
    have q2 := p5 (r1 * r1 + 11) 2147483629 (by omega)
    generalize hr2 : (r1 * r1 + 11) % 2147483629 = r2 at q2
    have q3 := q (r2 / 8)
    obtain ⟨r, hr⟩ : ∃ r : Nat, r2 / 8 % many = r := ⟨(r2 / 8 % many).toNat, by omega⟩
    refine ⟨r, a, r2, ?_, ha, by omega, by omega, by omega⟩
    have c1 := mulL b 41358 (by omega) (by omega)
    have c2 := mulR 31657 c (by omega) (by omega)
    have c3 := mulL r1 r1 (by omega) (by omega)
    unfold takeB2
    simp [ixB0, ixB1, ixB2, ixBi, lenB, setB0, setB1, setB2, gcB_, gcBB, h3, opMod_ok, opDiv_ok, hm, hm', c1, c2, c3, hr1, hr2, hr]
    done
theorem potB_part {P : Store} (h : PotB P) : Part 1 P := by
  obtain ⟨cs, a, b, c, _, _, _, _, _, _, rfl⟩ := h
  refine ⟨rfl, fun o ho => ?_⟩
  simp only [potB, List.mem_cons, List.not_mem_nil, or_false] at ho
  subst ho
  show (true && (true && (true && T.scoL 1 (cs.map T.int)))) = true
  rw [scoInts]
  rfl
theorem drawsB (E : Env) [U__law_take E] : Draws E f__law_take (.loc 0) 1 PotB where
  part := fun P h => potB_part h
  psco := rfl
  draw := fun k P G many hP h1 h2 => by
    obtain ⟨cs, a, b, c, ha, hb, hb2, hd, hd2, hl, rfl⟩ := hP
    obtain ⟨a', b', c', o, o2, e1, ha', hb', hb2', hd', hd2'⟩ := takeB1_ok ha hb hb2 hd hd2 hl many G
    obtain ⟨r, a2, b2, e2, ha2, hb3, hb4, hr⟩ := takeB2_ok (cs := cs) (c := c') ha' hb' hb2' many h1 h2 o o2 G
    refine ⟨r, potB cs a2 b2 c' [], ?_, ⟨cs, a2, b2, c', ha2, hb3, hb4, hd', hd2', hl, rfl⟩, hr⟩
    rw [U__law_take.eq, B_takeB, potB_app, potB_app, x_sSeq, e1, SR.seq_nx, e2, x_endrt]
    exact gc_len rfl
end EV
end
section
set_option Elab.async false
set_option linter.all false
set_option maxRecDepth 100000
set_option maxHeartbeats 4000000
set_option autoImplicit false
namespace EV
/-! ### plain trees: == is = -/
mutual
def pl : T → Bool
  | .int _ => true
  | .str x => PySem.PyData.strOk x
  | .non => true
  | .tup xs => plL xs
  | _ => false
def plL : List T → Bool
  | [] => true
  | x :: xs => pl x && plL xs
end
mutual
theorem pl_dat : ∀ {x : T}, pl x = true → x.dat = true
  | .int _, _ => rfl
  | .str _, h => h
  | .non, _ => rfl
  | .tup xs, h => plL_dat (xs := xs) h
theorem plL_dat : ∀ {xs : List T}, plL xs = true → T.datL xs = true
  | [], _ => rfl
  | x :: xs, h => by
    simp only [plL, Bool.and_eq_true] at h
    simp only [T.datL, Bool.and_eq_true]
    exact ⟨pl_dat h.1, plL_dat h.2⟩
end
mutual
theorem eqv_pl : ∀ {x y : T}, pl x = true → pl y = true → (T.eqv x y = true ↔ x = y)
  | .int i, .int j, _, _ => by simp [T.eqv]
  | .int i, .str j, _, _ => by simp [T.eqv]
  | .int i, .non, _, _ => by simp [T.eqv]
  | .int i, .tup _, _, _ => by simp [T.eqv]
  | .str i, .int j, _, _ => by simp [T.eqv]
  | .str i, .str j, _, _ => by simp [T.eqv]
  | .str i, .non, _, _ => by simp [T.eqv]
  | .str i, .tup _, _, _ => by simp [T.eqv]
  | .non, .int j, _, _ => by simp [T.eqv]
  | .non, .str j, _, _ => by simp [T.eqv]
  | .non, .non, _, _ => by simp [T.eqv]
  | .non, .tup _, _, _ => by simp [T.eqv]
  | .tup _, .int j, _, _ => by simp [T.eqv]
  | .tup _, .str j, _, _ => by simp [T.eqv]
  | .tup _, .non, _, _ => by simp [T.eqv]
  | .tup xs, .tup ys, h1, h2 => by
    have := eqvL_pl (xs := xs) (ys := ys) h1 h2
    simp only [T.eqv, this, T.tup.injEq]
theorem eqvL_pl : ∀ {xs ys : List T}, plL xs = true → plL ys = true → (T.eqvL xs ys = true ↔ xs = ys)
  | [], [], _, _ => by simp [T.eqvL]
  | [], y :: ys, _, _ => by simp [T.eqvL]
  | x :: xs, [], _, _ => by simp [T.eqvL]
  | x :: xs, y :: ys, h1, h2 => by
    simp only [plL, Bool.and_eq_true] at h1 h2
    simp only [T.eqvL, Bool.and_eq_true, eqv_pl h1.1 h2.1, eqvL_pl h1.2 h2.2, List.cons.injEq]
end
theorem eqA_pl {S : Store} {x y : T} (hx : pl x = true) (hy : pl y = true) (dx : x.depth ≤ 60) (dy : y.depth ≤ 60) : eqA S x y = some (T.eqv x y) := by
  have a := pl_dat hx
  have b := pl_dat hy
  have nl : ∀ {z : T}, pl z = true → ∀ n, z ≠ .loc n := fun {z} h n e => by subst e; cases h
  have da : ∀ {z : T}, pl z = true → z.dat = true → z.depth ≤ 60 → dS S z = some (pd z) := fun {z} h h1 h2 => by
    cases z <;> first | (simp only [dS, h1, h2, and_self, if_true]; done) | cases h
  have main : (match dS S x, dS S y with | some d, some e => some (PySem.PyData.eqv d e) | _, _ => none) = some (T.eqv x y) := by
    rw [da hx a dx, da hy b dy]
    simp only
    rw [pd_eqv _ _ a b]
  cases x with
  | str i =>
    cases y with
    | str j => simp [eqA, T.eqv]
    | _ => exact main
  | _ => exact main
theorem opEq_pl {S : Store} {x y : T} (hx : pl x = true) (hy : pl y = true) (dx : x.depth ≤ 60) (dy : y.depth ≤ 60) : opEq x y S = .ok (.bl (T.eqv x y)) S := by simp only [opEq, eqA_pl hx hy dx dy]
theorem opNe_pl {S : Store} {x y : T} (hx : pl x = true) (hy : pl y = true) (dx : x.depth ≤ 60) (dy : y.depth ≤ 60) : opNe x y S = .ok (.bl (!T.eqv x y)) S := by simp only [opNe, eqA_pl hx hy dx dy]
theorem pl_ints : ∀ ns : List Int, plL (ns.map T.int) = true ∧ T.depthL (ns.map T.int) = 0
  | [] => ⟨rfl, rfl⟩
  | n :: ns => by
    have := pl_ints ns
    rw [List.map_cons]
    simp only [plL, pl, T.depthL, T.depth, this.1, this.2, Bool.and_self, Nat.max_self, and_self]
@[simp] theorem x_opEqB (a b : Bool) (S : Store) : opEq (.bl a) (.bl b) S = .ok (.bl (a == b)) S := by
  unfold opEq eqA
  cases a <;> cases b <;> rfl
@[simp] theorem x_opNeB (a b : Bool) (S : Store) : opNe (.bl a) (.bl b) S = .ok (.bl (!(a == b))) S := by
  unfold opNe eqA
  cases a <;> cases b <;> rfl
/-! ### the same by kind and worth -/
def sameD : Nat → Store → T → T → Prop
  | 0, _, _, _ => False
  | n + 1, S, g, d => match g, d with
    | .non, .non => True
    | .bl a, .bl b => a = b
    | .int i, .int j => i = j
    | .str x, .str y => x = y
    | .tup xs, .tup ys => xs.length = ys.length ∧ xs.length ≤ 1000000 ∧ ∀ (i : Nat) (x y : T), xs[i]? = some x → ys[i]? = some y → sameD n S x y
    | .loc m, .loc l => ∃ xs ys, S[m]? = some (.lst xs) ∧ S[l]? = some (.lst ys) ∧ xs.length = ys.length ∧ xs.length ≤ 1000000 ∧ ∀ (i : Nat) (x y : T), xs[i]? = some x → ys[i]? = some y → sameD n S x y
    | _, _ => False
theorem rgT_mem {n : Nat} {x : T} (h : x ∈ rgT 0 (n : Int)) : ∃ i : Nat, i < n ∧ x = .int i := by
  unfold rgT at h
  obtain ⟨i, hi, rfl⟩ := List.mem_map.mp h
  simp only [List.mem_range] at hi
  exact ⟨i, by omega, by simp⟩
theorem bAll_true (S : Store) (xs : List T) : bAll (.loc S.length) (S ++ [.lst (xs.map fun _ => T.bl true)]) = .ok (.bl true) (S ++ [.lst (xs.map fun _ => T.bl true)]) := by
  have := bAll_new S (fun _ : T => true) xs
  rw [this]
  simp
theorem same_all {c : List T → Store → R T} {n : Nat} {g d : T} {S : Store} {o : Option T} (hl : n ≤ 1000000) (ld : bLen d S = .ok (.int n) S)
    (h : ∀ i : Nat, i < n → ∃ x y, opIx g (.int i) S = .ok x S ∧ opIx d (.int i) S = .ok y S ∧ c [x, y] S = .ok (.bl true) S) :
    cLC (iRg1 (cUn bLen (cVar 1))) [2] (gName 2) tYes (cGc (cCall c (aCons (cBin opIx (cVar 0) (cVar 2)) (aCons (cBin opIx (cVar 1) (cVar 2)) aNil)))) [some g, some d, o] S = .ok (.loc S.length) (S ++ [.lst ((rgT 0 n).map fun _ => T.bl true)]) :=
  cLC_map (vs := [2]) (g := gName 2) (te := cGc (cCall c (aCons (cBin opIx (cVar 0) (cVar 2)) (aCons (cBin opIx (cVar 1) (cVar 2)) aNil)))) (τ := [some g, some d, o]) (S := S) (xs := rgT 0 n) (wi := iRg1 (cUn bLen (cVar 1))) (fun _ => T.bl true)
    (iRg1_ok (S1 := S) (j := n) (by simp [ld]) (by omega) (by omega)) (by rw [rgT_len]; omega) fun x hx => by
      obtain ⟨i, hi, rfl⟩ := rgT_mem hx
      obtain ⟨x, y, h1, h2, h3⟩ := h i hi
      refine ⟨_, rfl, ?_⟩
      simp [wipe, h1, h2, h3]
theorem ixT_nat {xs : List T} {i : Nat} {v : T} (S : Store) (h : xs[i]? = some v) : opIx (.tup xs) (.int i) S = .ok v S := by simp only [opIx, atT_nat h]
theorem lenL {n : Nat} {xs : List T} {S : Store} (h : S[n]? = some (.lst xs)) : bLen (.loc n) S = .ok (.int xs.length) S := by simp only [bLen, h]
section
variable {E : Env}
theorem isTys_lt_l {sub : Nat → Nat → Bool} {S : Store} {n : Nat} {xs : List T} (h : S[n]? = some (.lst xs)) : isTys sub S (.loc n) [.list, .tuple] = some true := by simp [isTys, isTy, h]
theorem law_same_ok [U__law_same E] (S : Store) (n : Nat) (g d : T) (k : Nat) (h : sameD n S g d) : E.C (k + n) f__law_same [g, d] S = .ok (.bl true) S := by
  induction n generalizing g d with
  | zero => exact h.elim
  | succ n ih =>
    rw [← Nat.add_assoc, U__law_same.eq]
    cases g with
    | non => cases d <;> first | exact h.elim | simp -implicitDefEqProofs [B__law_same, isTys, isTy, opIs, T.isNon]
    | bl a =>
      cases d with
      | bl b =>
        have h : a = b := h
        subst h
        simp -implicitDefEqProofs [B__law_same, isTys, isTy, opIs, T.isNon]
      | _ => exact h.elim
    | int a =>
      cases d with
      | int b =>
        have h : a = b := h
        subst h
        simp -implicitDefEqProofs [B__law_same, isTys, isTy, opIs, T.isNon]
      | _ => exact h.elim
    | str a =>
      cases d with
      | str b =>
        have h : a = b := h
        subst h
        simp -implicitDefEqProofs [B__law_same, isTys, isTy, opIs, T.isNon]
      | _ => exact h.elim
    | tup xs =>
      cases d with
      | tup ys =>
        obtain ⟨h1, h2, h3⟩ := h
        have w := same_all (c := E.C (k + n) f__law_same) (n := ys.length) (g := .tup xs) (d := .tup ys) (S := S) (o := none) (by omega) (by simp) fun i hi => by
          have e1 : xs[i]? = some xs[i] := List.getElem?_eq_getElem (by omega)
          have e2 : ys[i]? = some ys[i] := List.getElem?_eq_getElem hi
          exact ⟨_, _, ixT_nat S e1, ixT_nat S e2, ih _ _ (h3 i _ _ e1 e2)⟩
        have ba := bAll_true S (rgT 0 ys.length)
        have gg : ∀ o : O, gc S (S ++ [o]) (.bl true) = .ok (.bl true) S := fun o => gc_app rfl
        simp -implicitDefEqProofs [B__law_same, isTys, isTy, opIs, T.isNon, h1, w, ba, gg]
      | _ => exact h.elim
    | loc m =>
      cases d with
      | loc l =>
        obtain ⟨xs, ys, s1, s2, h1, h2, h3⟩ := h
        have w := same_all (c := E.C (k + n) f__law_same) (n := ys.length) (g := .loc m) (d := .loc l) (S := S) (o := none) (by omega) (lenL s2) fun i hi => by
          have e1 : xs[i]? = some xs[i] := List.getElem?_eq_getElem (by omega)
          have e2 : ys[i]? = some ys[i] := List.getElem?_eq_getElem hi
          exact ⟨_, _, ix_at S (atT_nat e1) s1, ix_at S (atT_nat e2) s2, ih _ _ (h3 i _ _ e1 e2)⟩
        have ba := bAll_true S (rgT 0 ys.length)
        have gg : ∀ o : O, gc S (S ++ [o]) (.bl true) = .ok (.bl true) S := fun o => gc_app rfl
        simp -implicitDefEqProofs [B__law_same, isTys, isTy, opIs, T.isNon, s1, s2, lenL s1, lenL s2, h1, w, ba, gg]
      | _ => exact h.elim
    | _ => cases d <;> exact h.elim
theorem law_same1_ok [U__law_same_v1 E] (S : Store) (n : Nat) (g d : T) (k : Nat) (h : sameD n S g d) : E.C (k + n) f__law_same_v1 [g, d] S = .ok (.bl true) S := by
  induction n generalizing g d with
  | zero => exact h.elim
  | succ n ih =>
    rw [← Nat.add_assoc, U__law_same_v1.eq]
    cases g with
    | non => cases d <;> first | exact h.elim | simp -implicitDefEqProofs [B__law_same_v1, isTys, isTy, opIs, T.isNon]
    | bl a =>
      cases d with
      | bl b =>
        have h : a = b := h
        subst h
        simp -implicitDefEqProofs [B__law_same_v1, isTys, isTy, opIs, T.isNon]
      | _ => exact h.elim
    | int a =>
      cases d with
      | int b =>
        have h : a = b := h
        subst h
        simp -implicitDefEqProofs [B__law_same_v1, isTys, isTy, opIs, T.isNon]
      | _ => exact h.elim
    | str a =>
      cases d with
      | str b =>
        have h : a = b := h
        subst h
        simp -implicitDefEqProofs [B__law_same_v1, isTys, isTy, opIs, T.isNon]
      | _ => exact h.elim
    | tup xs =>
      cases d with
      | tup ys =>
        obtain ⟨h1, h2, h3⟩ := h
        have w := same_all (c := E.C (k + n) f__law_same_v1) (n := ys.length) (g := .tup xs) (d := .tup ys) (S := S) (o := none) (by omega) (by simp) fun i hi => by
          have e1 : xs[i]? = some xs[i] := List.getElem?_eq_getElem (by omega)
          have e2 : ys[i]? = some ys[i] := List.getElem?_eq_getElem hi
          exact ⟨_, _, ixT_nat S e1, ixT_nat S e2, ih _ _ (h3 i _ _ e1 e2)⟩
        have ba := bAll_true S (rgT 0 ys.length)
        have gg : ∀ o : O, gc S (S ++ [o]) (.bl true) = .ok (.bl true) S := fun o => gc_app rfl
        simp -implicitDefEqProofs [B__law_same_v1, isTys, isTy, opIs, T.isNon, h1, w, ba, gg]
      | _ => exact h.elim
    | loc m =>
      cases d with
      | loc l =>
        obtain ⟨xs, ys, s1, s2, h1, h2, h3⟩ := h
        have w := same_all (c := E.C (k + n) f__law_same_v1) (n := ys.length) (g := .loc m) (d := .loc l) (S := S) (o := none) (by omega) (lenL s2) fun i hi => by
          have e1 : xs[i]? = some xs[i] := List.getElem?_eq_getElem (by omega)
          have e2 : ys[i]? = some ys[i] := List.getElem?_eq_getElem hi
          exact ⟨_, _, ix_at S (atT_nat e1) s1, ix_at S (atT_nat e2) s2, ih _ _ (h3 i _ _ e1 e2)⟩
        have ba := bAll_true S (rgT 0 ys.length)
        have gg : ∀ o : O, gc S (S ++ [o]) (.bl true) = .ok (.bl true) S := fun o => gc_app rfl
        simp -implicitDefEqProofs [B__law_same_v1, isTys, isTy, opIs, T.isNon, s1, s2, lenL s1, lenL s2, h1, w, ba, gg]
      | _ => exact h.elim
    | _ => cases d <;> exact h.elim
end
end EV
end
section
set_option Elab.async false
set_option linter.all false
set_option maxRecDepth 100000
set_option maxHeartbeats 4000000
set_option autoImplicit false
namespace EV
/-! ### kinds of values -/
def kn (S : Store) (x : T) : Bool := (kindStr S x).isSome
def isIntT : T → Bool
  | .int _ => true
  | _ => false
def isIB : T → Bool
  | .int _ => true
  | .bl _ => true
  | _ => false
def isBl : T → Bool
  | .bl _ => true
  | _ => false
def isTup : T → Bool
  | .tup _ => true
  | _ => false
theorem isTy_int {sub : Nat → Nat → Bool} {S : Store} {x : T} (h : kn S x = true) : isTy sub S x .int = some (isIB x) := by
  cases x with
  | loc n =>
    cases e : S[n]? with
    | none => simp [kn, kindStr, e] at h
    | some o => cases o <;> simp_all [kn, kindStr, isTy, isIB]
  | rng _ _ => cases h
  | ex _ _ => cases h
  | clo _ _ => cases h
  | _ => rfl
theorem isTy_bool {sub : Nat → Nat → Bool} {S : Store} {x : T} (h : kn S x = true) : isTy sub S x .bool = some (isBl x) := by
  cases x with
  | loc n =>
    cases e : S[n]? with
    | none => simp [kn, kindStr, e] at h
    | some o => cases o <;> simp_all [kn, kindStr, isTy, isBl]
  | rng _ _ => cases h
  | ex _ _ => cases h
  | clo _ _ => cases h
  | _ => rfl
theorem isTy_tuple {sub : Nat → Nat → Bool} {S : Store} {x : T} (h : kn S x = true) : isTy sub S x .tuple = some (isTup x) := by
  cases x with
  | loc n =>
    cases e : S[n]? with
    | none => simp [kn, kindStr, e] at h
    | some o => cases o <;> simp_all [kn, kindStr, isTy, isTup]
  | rng _ _ => cases h
  | ex _ _ => cases h
  | clo _ _ => cases h
  | _ => rfl
theorem kn_app {S G : Store} {x : T} (h : kn S x = true) : kn (S ++ G) x = true := by
  cases x with
  | loc n =>
    cases e : S[n]? with
    | none => simp [kn, kindStr, e] at h
    | some o =>
      have e2 : (S ++ G)[n]? = some o := by rw [List.getElem?_append_left (List.getElem?_eq_some_iff.mp e).1, e]
      simp [kn, kindStr, e] at h
      simp [kn, kindStr, e2, h]
  | _ => exact h
section
variable {E : Env}
theorem is_integer_ok [U_is_integer E] (k : Nat) (x : T) (S : Store) (h : kn S x = true) : E.C (k + 1) f_is_integer [x] S = .ok (.bl (isIntT x)) S := by
  rw [U_is_integer.eq]
  simp only [B_is_integer, x_sSeq, x_sRet, x_cAnd, x_cNot, x_cBl, x_cIsI, x_cVar, List.getElem?_cons_zero, R.bind_ok, isTy_int h, isTy_bool h]
  cases x <;> simp [isIntT, isIB, isBl]
def natT : T → Bool
  | .int i => decide (0 ≤ i)
  | _ => false
theorem is_natural_ok [U_is_integer E] [U_is_natural E] (k : Nat) (x : T) (S : Store) (h : kn S x = true) : E.C (k + 2) f_is_natural [x] S = .ok (.bl (natT x)) S := by
  rw [U_is_natural.eq]
  simp only [B_is_natural, x_sSeq, x_sRet, x_cAnd, x_cBl, x_cCall, x_aCons, x_aNil, x_cVar, List.getElem?_cons_zero, R.bind_ok, is_integer_ok k x S h]
  cases x <;> simp [isIntT, natT]
def belT (m : Int) : T → Bool
  | .int i => decide (0 ≤ i) && decide (i < m)
  | _ => false
def belowT (m : Int) : T → Bool
  | .tup xs => xs.all (belT m)
  | _ => false
/-- its kind is known, and if it is a tuple the kinds of its parts -/
structure Kn (S : Store) (x : T) : Prop where
  self : kn S x = true
  parts : ∀ xs, x = .tup xs → xs.length ≤ 1000000 ∧ ∀ y ∈ xs, kn S y = true
theorem are_below_ok [U_is_integer E] [U_is_natural E] [U_are_below E] (k : Nat) (x : T) (m : Int) (S : Store) (h : Kn S x) : E.C (k + 3) f_are_below [x, .int m] S = .ok (.bl (belowT m x)) S := by
  rw [U_are_below.eq]
  by_cases ht : ∃ xs, x = .tup xs
  · obtain ⟨xs, rfl⟩ := ht
    obtain ⟨hl, hp⟩ := h.parts xs rfl
    have w : cLC (iVal (cVar 0)) [2] (gName 2) tYes (cGc (cAnd (cCall (E.C (k + 2) f_is_natural) (aCons (cVar 2) aNil)) (cBin (opCmp fun i j => decide (i < j)) (cVar 2) (cVar 1)))) [some (.tup xs), some (.int m), none] S = .ok (.loc S.length) (S ++ [.lst (xs.map fun x => T.bl (belT m x))]) := by
      refine cLC_map _ (by simp [iV]) hl fun x hx => ⟨_, rfl, ?_⟩
      have := is_natural_ok (E := E) k x S (hp x hx)
      simp only [x_cGc, x_cAnd, x_cBl, x_cCall, x_aCons, x_aNil, x_cBin, x_cVar, wipe, List.set_cons_succ, List.set_cons_zero, List.getElem?_cons_succ, List.getElem?_cons_zero, R.bind_ok, this]
      cases x <;> simp [natT, belT]
      split <;> simp_all
      omega
    have a := bAll_new S (belT m) xs
    unfold B_are_below
    simp only [x_sSeq, x_sRet, x_cAnd, x_cBl, x_cIsI, x_cVar, List.getElem?_cons_zero, R.bind_ok, isTy_tuple h.self, x_cUn, w, a, if_true, R.bindS_ok, SR.seq_rt, x_endrt]
    exact gc_app rfl
  · have e : isTy E.sub S x .tuple = some false := by
      rw [isTy_tuple h.self]
      cases x <;> first | rfl | exact absurd ⟨_, rfl⟩ ht
    have e2 : belowT m x = false := by cases x <;> first | rfl | exact absurd ⟨_, rfl⟩ ht
    simp [B_are_below, e, e2]
theorem check_word_ok [U_is_integer E] [U_is_natural E] [U_are_below E] [U_check_word E] (k : Nat) (x : T) (m : Int) (S : Store) (h : Kn S x) :
    E.C (k + 4) f_check_word [.int m, x] S = if belowT m x = true then .ok .non S else .exc (E.ci c_InvalidWord) x S := by
  rw [U_check_word.eq]
  have := are_below_ok (E := E) k x m S h
  cases hb : belowT m x <;> rw [hb] at this <;> simp [B_check_word, this, sRaise, endOf]
def emptyT : T → Bool
  | .tup [] => true
  | _ => false
theorem eq_empty (S : Store) (xs : List T) (h : ∀ x ∈ xs, isIntT x = true) : opEq (.tup xs) (.tup []) S = .ok (.bl (emptyT (.tup xs))) S := by
  obtain ⟨b, hb1, hb2⟩ := opEq_flat (S := S) (xs := xs) (ys := []) (fun x hx => by have := h x hx; cases x <;> simp_all [isIntT, flat]) (by simp)
  rw [hb1]
  cases xs with
  | nil => rw [hb2.mpr rfl]; rfl
  | cons x xs =>
    have : b = false := by cases b with
      | false => rfl
      | true => exact absurd (hb2.mp rfl) (by simp)
    rw [this]; rfl
theorem below_ints {m : Int} {xs : List T} (h : belowT m (.tup xs) = true) : ∀ x ∈ xs, isIntT x = true := fun x hx => by
  have := List.all_eq_true.mp h x hx
  cases x <;> simp_all [belT, isIntT]
theorem check_again_ok [U_is_integer E] [U_is_natural E] [U_are_below E] [U_check_again E] (k : Nat) (x : T) (m : Int) (S : Store) (h : Kn S x) :
    E.C (k + 4) f_check_again [.int m, x] S = if (belowT m x && !emptyT x) = true then .ok .non S else .exc (E.ci c_InvalidWord) x S := by
  rw [U_check_again.eq]
  have := are_below_ok (E := E) k x m S h
  cases hb : belowT m x
  · rw [hb] at this
    simp [B_check_again, this, sRaise, endOf]
  · rw [hb] at this
    obtain ⟨xs, rfl⟩ : ∃ xs, x = .tup xs := by cases x <;> simp [belowT] at hb; exact ⟨_, rfl⟩
    have e := eq_empty S xs (below_ints hb)
    cases he : emptyT (.tup xs) <;> rw [he] at e <;> simp [B_check_again, this, e, sRaise, endOf]
/-- a word -/
def wT (ns : List Int) : T := .tup (ns.map T.int)
theorem kn_word (S : Store) (ns : List Int) (h : ns.length ≤ 1000000) : Kn S (wT ns) := ⟨rfl, fun xs e => by
  unfold wT at e
  cases e
  refine ⟨by simpa using h, fun y hy => ?_⟩
  obtain ⟨i, _, rfl⟩ := List.mem_map.mp hy
  rfl⟩
theorem below_word (m : Int) (ns : List Int) : belowT m (wT ns) = ns.all fun n => decide (0 ≤ n) && decide (n < m) := by
  unfold belowT wT
  simp only [List.all_map]
  rfl
end
end EV
end
section
set_option linter.all false
set_option autoImplicit false
/-! endless words that come round -/
namespace EV
def EP (x : Nat → Int) (f s : Nat) : Prop := ∀ i, f ≤ i → x (i + s) = x i
section
variable {x : Nat → Int} {f g s t q : Nat}
theorem EP.mono (h : EP x f s) (k : f ≤ g) : EP x g s := fun i hi => h i (Nat.le_trans k hi)
theorem EP.mul (h : EP x f s) : ∀ m, EP x f (m * s)
  | 0 => fun i _ => by simp
  | m + 1 => fun i hi => by
    rw [Nat.succ_mul, ← Nat.add_assoc, h (i + m * s) (by omega), EP.mul h m i hi]
theorem EP.sub (h : EP x f s) (h2 : EP x f t) (k : s ≤ t) : EP x f (t - s) := fun i hi => by
  rw [← h (i + (t - s)) (by omega), show i + (t - s) + s = i + t by omega, h2 i hi]
theorem EP.mod (h : EP x f s) (hs : 0 < s) : ∀ t, EP x f t → EP x f (t % s) := fun t => by
  induction t using Nat.strongRecOn with
  | _ t ih =>
    intro h2
    by_cases c : t < s
    · rw [Nat.mod_eq_of_lt c]; exact h2
    · rw [Nat.mod_eq_sub_mod (by omega)]
      exact ih (t - s) (by omega) (h.sub h2 (by omega))
theorem EP.back (h : EP x f s) (hs : 0 < s) (h2 : EP x g q) : EP x f q := fun i hi => by
  have m1 := h.mul g
  have hg : g ≤ g * s := Nat.le_mul_of_pos_right g hs
  rw [← m1 (i + q) (by omega), ← m1 i hi, show i + q + g * s = i + g * s + q by omega, h2 (i + g * s) (by omega)]
theorem EP.all (h : EP x f s) (hs : 0 < s) (i : Nat) (hi : f ≤ i) : x i = x (f + (i - f) % s) := by
  have m1 := h.mul ((i - f) / s)
  rw [← m1 (f + (i - f) % s) (by omega)]
  congr 1
  have := Nat.mod_add_div (i - f) s
  rw [Nat.mul_comm] at this
  omega
/-- the short form: where the round begins and how long it is -/
structure SF (x : Nat → Int) (f q : Nat) : Prop where
  pos : 0 < q
  ep : EP x f q
  least : ∀ s, 0 < s → s < q → ¬ EP x f s
  first : ∀ g, g < f → ¬ EP x g q
theorem SF.uniq {f' q' : Nat} (a : SF x f q) (b : SF x f' q') : f = f' ∧ q = q' := by
  have e : q = q' := by
    rcases Nat.lt_trichotomy q q' with c | c | c
    · exact absurd (b.ep.back b.pos a.ep) (b.least q a.pos c)
    · exact c
    · exact absurd (a.ep.back a.pos b.ep) (a.least q' b.pos c)
  subst e
  rcases Nat.lt_trichotomy f f' with c | c | c
  · exact absurd a.ep (b.first f c)
  · exact ⟨c, rfl⟩
  · exact absurd b.ep (a.first f' c)
theorem least_nat {P : Nat → Prop} : ∀ n, P n → ∃ m, m ≤ n ∧ P m ∧ ∀ k, k < m → ¬ P k := fun n => by
  induction n using Nat.strongRecOn with
  | _ n ih =>
    intro h
    by_cases c : ∃ r, r < n ∧ P r
    · obtain ⟨r, hr, pr⟩ := c
      obtain ⟨m, h1, h2, h3⟩ := ih r hr pr
      exact ⟨m, by omega, h2, h3⟩
    · exact ⟨n, Nat.le_refl _, h, fun r hr hp => c ⟨r, hr, hp⟩⟩
/-- every word that comes round has a short form -/
theorem sf_ex (h : EP x f s) (hs : 0 < s) : ∃ g q, g ≤ f ∧ q ≤ s ∧ SF x g q := by
  obtain ⟨q, q1, ⟨q2, q3⟩, q4⟩ := least_nat (P := fun m => 0 < m ∧ EP x f m) s ⟨hs, h⟩
  obtain ⟨g, g1, g2, g3⟩ := least_nat (P := fun m => EP x m q) f q3
  exact ⟨g, q, g1, q1, q2, g2, fun r r1 r2 r3 => q4 r r2 ⟨r1, r3.mono g1⟩, fun k k1 k2 => g3 k k1 k2⟩
theorem SF.dvd (h : SF x f q) (h2 : EP x g s) : s % q = 0 := by
  have e := h.ep.mod h.pos s (h.ep.back h.pos h2)
  rcases Nat.eq_zero_or_pos (s % q) with c | c
  · exact c
  · exact absurd e (h.least _ c (Nat.mod_lt _ h.pos))
/-- two such words that are the same for long enough are the same -/
theorem ep_same {y : Nat → Int} {n : Nat} (hx : EP x f s) (hy : EP y f t) (hs : 0 < s) (ht : 0 < t) (hn : f + s + t ≤ n) (e : ∀ i, i < n → x i = y i) : ∀ i, x i = y i := fun i => by
  induction i using Nat.strongRecOn with
  | _ i ih =>
    by_cases c : i < n
    · exact e i c
    · have a1 := hx (i - s) (by omega)
      have a2 := hy (i - t) (by omega)
      have a3 := hx (i - s - t) (by omega)
      have a4 := hy (i - s - t) (by omega)
      rw [show i - s + s = i by omega] at a1
      rw [show i - t + t = i by omega] at a2
      rw [show i - s - t + s = i - t by omega] at a3
      rw [show i - s - t + t = i - s by omega] at a4
      rw [a1, a2, ih (i - s) (by omega), ← ih (i - t) (by omega), a3, ih (i - s - t) (by omega), a4]
end
/-! ### told by two lists -/
def ew (w a : List Int) (i : Nat) : Int := if i < w.length then w.getD i 0 else a.getD ((i - w.length) % a.length) 0
def cutX (x : Nat → Int) (f n : Nat) : List Int := (List.range n).map fun i => x (f + i)
theorem cutX_len (x : Nat → Int) (f n : Nat) : (cutX x f n).length = n := by simp [cutX]
theorem cutX_get (x : Nat → Int) (f n i : Nat) (h : i < n) : (cutX x f n)[i]? = some (x (f + i)) := by simp [cutX, h]
theorem cutX_getD (x : Nat → Int) (f n i : Nat) (h : i < n) : (cutX x f n).getD i 0 = x (f + i) := by rw [List.getD_eq_getElem?_getD, cutX_get x f n i h]; rfl
theorem cutX_eq {l : List Int} {x : Nat → Int} {f n : Nat} (hl : l.length = n) (h : ∀ i, i < n → l[i]? = some (x (f + i))) : l = cutX x f n := by
  refine List.ext_getElem? fun i => ?_
  by_cases c : i < n
  · rw [h i c, cutX_get x f n i c]
  · rw [List.getElem?_eq_none (by omega), List.getElem?_eq_none (by rw [cutX_len]; omega)]
theorem ew_ep {w a : List Int} (ha : a ≠ []) : EP (ew w a) w.length a.length := fun i hi => by
  have hp := List.length_pos_iff.mpr ha
  unfold ew
  rw [if_neg (by omega), if_neg (by omega), show i + a.length - w.length = i - w.length + a.length by omega, Nat.add_mod_right]
theorem ew_lt {w a : List Int} {i : Nat} (h : i < w.length) : w[i]? = some (ew w a i) := by
  unfold ew
  rw [if_pos h, List.getD_eq_getElem?_getD, List.getElem?_eq_getElem h]; rfl
theorem ew_ge {w a : List Int} (i : Nat) (h : i < a.length) : a[i]? = some (ew w a (w.length + i)) := by
  unfold ew
  rw [if_neg (by omega), show w.length + i - w.length = i by omega, Nat.mod_eq_of_lt h, List.getD_eq_getElem?_getD, List.getElem?_eq_getElem h]; rfl
theorem ew_form {x : Nat → Int} {f q : Nat} (h : EP x f q) (hq : 0 < q) : ew (cutX x 0 f) (cutX x f q) = x := by
  funext i
  unfold ew
  rw [cutX_len, cutX_len]
  split
  · rename_i c; rw [cutX_getD x 0 f i c, Nat.zero_add]
  · rename_i c
    rw [cutX_getD x f q _ (Nat.mod_lt _ hq)]
    exact (h.all hq i (by omega)).symm
theorem ew_inj {w a w' a' : List Int} (h1 : w.length = w'.length) (h2 : a.length = a'.length) (e : ew w a = ew w' a') : w = w' ∧ a = a' := by
  constructor
  · refine List.ext_getElem? fun i => ?_
    by_cases c : i < w.length
    · rw [ew_lt (a := a) c, ew_lt (a := a') (by omega), e]
    · rw [List.getElem?_eq_none (by omega), List.getElem?_eq_none (by omega)]
  · refine List.ext_getElem? fun i => ?_
    by_cases c : i < a.length
    · rw [ew_ge (w := w) i c, ew_ge (w := w') i (by omega), e, h1]
    · rw [List.getElem?_eq_none (by omega), List.getElem?_eq_none (by omega)]
/-- the letters of a word told by its lists, the second so often -/
theorem ew_line {w a : List Int} (ha : a ≠ []) {m n : Nat} (hn : n ≤ w.length + a.length * m) : (w ++ (List.replicate m a).flatten).take n = cutX (ew w a) 0 n := by
  have hc : ∀ (k i : Nat), i < a.length * k → ((List.replicate k a).flatten)[i]? = a[i % a.length]? := fun k => by
    induction k with
    | zero => intro i h; simp at h
    | succ k ih =>
      intro i h
      rw [List.replicate_succ, List.flatten_cons]
      by_cases c : i < a.length
      · rw [List.getElem?_append_left c, Nat.mod_eq_of_lt c]
      · rw [List.getElem?_append_right (by omega), ih (i - a.length) (by rw [Nat.mul_succ] at h; omega)]
        congr 1
        rw [Nat.mod_eq_sub_mod (show i ≥ a.length by omega)]
  have hl : ∀ k, ((List.replicate k a).flatten).length = a.length * k := fun k => by
    induction k with
    | zero => rfl
    | succ k ih => rw [List.replicate_succ, List.flatten_cons, List.length_append, ih, Nat.mul_succ, Nat.add_comm]
  refine cutX_eq (by rw [List.length_take, List.length_append, hl]; omega) fun i hi => ?_
  rw [List.getElem?_take, if_pos hi, Nat.zero_add]
  by_cases c : i < w.length
  · rw [List.getElem?_append_left c, ew_lt c]
  · rw [List.getElem?_append_right (by omega), hc m _ (by omega)]
    have hp := List.length_pos_iff.mpr ha
    have := Nat.mod_lt (i - w.length) hp
    rw [ew_ge (w := w) _ this]
    congr 1
    unfold ew
    rw [if_neg (by omega), if_neg c, show w.length + (i - w.length) % a.length - w.length = (i - w.length) % a.length by omega, Nat.mod_mod]
theorem cutX_take (x : Nat → Int) (f n m : Nat) (h : m ≤ n) : (cutX x f n).take m = cutX x f m :=
  cutX_eq (by rw [List.length_take, cutX_len]; omega) fun i hi => by rw [List.getElem?_take, if_pos hi, cutX_get x f n i (by omega)]
theorem cutX_drop (x : Nat → Int) (f n m : Nat) (h : m ≤ n) : (cutX x f n).drop m = cutX x (f + m) (n - m) :=
  cutX_eq (by rw [List.length_drop, cutX_len]) fun i hi => by rw [List.getElem?_drop, cutX_get x f n _ (by omega), Nat.add_assoc]
theorem cutX_mem {x : Nat → Int} {f n : Nat} {v : Int} (h : v ∈ cutX x f n) : ∃ i, i < n ∧ v = x (f + i) := by
  simp only [cutX, List.mem_map, List.mem_range] at h
  obtain ⟨i, h1, h2⟩ := h
  exact ⟨i, h1, h2.symm⟩
theorem ew_mem {w a : List Int} (ha : a ≠ []) (i : Nat) : ew w a i ∈ w ∨ ew w a i ∈ a := by
  by_cases c : i < w.length
  · exact .inl (List.mem_of_getElem? (ew_lt (a := a) c))
  · right
    have hp := List.length_pos_iff.mpr ha
    have := (ew_ep (w := w) ha).all hp i (by omega)
    rw [this]
    exact List.mem_of_getElem? (ew_ge (w := w) _ (Nat.mod_lt _ hp))
end EV
end
section
set_option Elab.async false
set_option linter.all false
set_option maxRecDepth 100000
set_option maxHeartbeats 4000000
set_option autoImplicit false
namespace EV
/-! ### root_of, by the least round -/
noncomputable def rootL (xs : Nat) : SM := (sSeq (sIf (cGcB (tAnd (cBl (cBin opEq (cBin opMod (cUn bLen (cVar 0)) (cVar 1)) (cK (.int 0)))) (cBl (cBin opEq (cBin opMul (cSl (cVar 0) oNone (oSome (cVar 1))) (cBin opDiv (cUn bLen (cVar 0)) (cVar 1))) (cVar 0))))) (sSeq (sRet (cSl (cVar 0) oNone (oSome (cVar 1)))) sNext) sNext) sNext)
theorem rootL_hit {xs : List T} (hf : ∀ x ∈ xs, flat x = true) (hl : xs.length ≤ 1000) {d : Nat} (h1 : 1 ≤ d) (h2 : d ≤ xs.length) (h : Per xs d) (S : Store) : rootL 0 [some (.tup xs), some (.int d)] S = .rt (.tup (xs.take d)) S := by
  have hd : (xs.length : Int) % (d : Int) = 0 := by have := h.1; omega
  have k1 : 1 ≤ xs.length / d := Nat.div_pos h2 h1
  have k2 : xs.length / d ≤ 1000 := Nat.le_trans (Nat.div_le_self _ _) hl
  have hc := (per_cat h1 h2 h.1).mpr h.2
  have a1 : opMod (.int (xs.length : Int)) (.int (d : Int)) S = .ok (.int ((xs.length : Int) % d)) S := opMod_ok S (by omega)
  have a2 : opDiv (.int (xs.length : Int)) (.int (d : Int)) S = .ok (.int ((xs.length / d : Nat) : Int)) S := opDiv_ok S (by omega) (by omega)
  generalize hK : xs.length / d = K at k1 k2 hc a2
  have a3 := opMul_tup S k1 k2 (show (xs.take d).length ≤ 1000 by rw [List.length_take]; omega)
  rw [hc] at a3
  obtain ⟨b, hb1, hb2⟩ := opEq_flat (S := S) hf hf
  rw [hb2.mpr rfl] at hb1
  simp [rootL, a1, a2, a3, hb1, hd, opSl, cut_take]
theorem rootL_miss {xs : List T} (hf : ∀ x ∈ xs, flat x = true) (hl : xs.length ≤ 1000) {d : Nat} (h1 : 1 ≤ d) (h2 : d ≤ xs.length) (h : ¬ Per xs d) (S : Store) : rootL 0 [some (.tup xs), some (.int d)] S = .nx [some (.tup xs), some (.int d)] S := by
  have a1 : opMod (.int (xs.length : Int)) (.int (d : Int)) S = .ok (.int ((xs.length : Int) % d)) S := opMod_ok S (by omega)
  by_cases hd0 : xs.length % d = 0
  · have hd : (xs.length : Int) % (d : Int) = 0 := by omega
    have k1 : 1 ≤ xs.length / d := Nat.div_pos h2 h1
    have k2 : xs.length / d ≤ 1000 := Nat.le_trans (Nat.div_le_self _ _) hl
    have hc : (List.replicate (xs.length / d) (xs.take d)).flatten ≠ xs := fun z => h ⟨hd0, (per_cat h1 h2 hd0).mp z⟩
    have hf2 : ∀ x ∈ (List.replicate (xs.length / d) (xs.take d)).flatten, flat x = true := fun x hx => by
      obtain ⟨l, hl1, hl2⟩ := List.mem_flatten.mp hx
      rw [(List.mem_replicate.mp hl1).2] at hl2
      exact hf x (List.mem_of_mem_take hl2)
    have a2 : opDiv (.int (xs.length : Int)) (.int (d : Int)) S = .ok (.int ((xs.length / d : Nat) : Int)) S := opDiv_ok S (by omega) (by omega)
    generalize hK : xs.length / d = K at k1 k2 hc hf2 a2
    have a3 := opMul_tup S k1 k2 (show (xs.take d).length ≤ 1000 by rw [List.length_take]; omega)
    obtain ⟨b, hb1, hb2⟩ := opEq_flat (S := S) hf2 hf
    have hb : b = false := by
      cases b with
      | false => rfl
      | true => exact absurd (hb2.mp rfl) hc
    subst hb
    simp [rootL, a1, a2, a3, hb1, hd, opSl, cut_take]
  · have hd : ¬ (xs.length : Int) % (d : Int) = 0 := by omega
    simp [rootL, a1, hd]
theorem rootL_loop {xs : List T} (hf : ∀ x ∈ xs, flat x = true) (hl : xs.length ≤ 1000) {q : Nat} (ql : q ≤ xs.length) (hq : Per xs q) (hm : ∀ r, 1 ≤ r → r < q → ¬ Per xs r) (S : Store) (all : List T) :
    ∀ (j d : Nat) (o : Option T), d + j = q → 1 ≤ d → forL .fix all (gName 1) (rootL 0) (rgT d ((xs.length : Int) + 1)) [some (.tup xs), o] S = .rt (.tup (xs.take q)) S := by
  intro j
  induction j with
  | zero =>
    intro d o e h1
    have e : d = q := by omega
    subst e
    rw [rgT_cons (by omega), x_for1 (x_gName _ _ _)]
    show loopK (rootL 0 [some (.tup xs), some (.int d)] S) _ = _
    rw [rootL_hit hf hl h1 ql hq S]
    rfl
  | succ j ih =>
    intro d o e h1
    rw [rgT_cons (by omega), x_for1 (x_gName _ _ _)]
    show loopK (rootL 0 [some (.tup xs), some (.int d)] S) _ = _
    rw [rootL_miss hf hl h1 (by omega) (hm d h1 (by omega)) S]
    exact ih (d + 1) _ (by omega) (by omega)
section
variable {E : Env}
theorem root_ok [U_root_of E] {xs : List T} (hf : ∀ x ∈ xs, flat x = true) (hl : xs.length ≤ 1000) {q : Nat} (q1 : 1 ≤ q) (ql : q ≤ xs.length) (hq : Per xs q) (hm : ∀ r, 1 ≤ r → r < q → ¬ Per xs r) (k : Nat) (S : Store) : E.C (k + 1) f_root_of [.tup xs] S = .ok (.tup (xs.take q)) S := by
  have l := rootL_loop hf hl ql hq hm S (rgT 1 ((xs.length : Int) + 1)) (q - 1) 1 none (by omega) (by omega)
  have e : B_root_of E k = sSeq (sFor (iRg2 (cK (.int 1)) (cBin opAdd (cUn bLen (cVar 0)) (cK (.int 1)))) (gName 1) (rootL 0)) (sSeq (sRet (cVar 0)) sNext) := rfl
  have c1 : iRg2 (cK (.int 1)) (cBin opAdd (cUn bLen (cVar 0)) (cK (.int 1))) [some (.tup xs), none] S = .ok (rgT 1 ((xs.length : Int) + 1), .fix) S := by
    refine iRg2_ok (S1 := S) (by simp) (by simp) (by omega) (by omega) (by omega) (by omega)
  rw [U_root_of.eq, e]
  have l' : forL .fix (rgT 1 ((xs.length : Int) + 1)) (gName 1) (rootL 0) (rgT 1 ((xs.length : Int) + 1)) [some (.tup xs), none] S = .rt (.tup (xs.take q)) S := l
  rw [x_sSeq, x_sFor, c1, R.bindS_ok, l', SR.seq_rt, x_endrt, gc_same]
theorem flat_ints (ns : List Int) : ∀ x ∈ ns.map T.int, flat x = true := fun x hx => by
  obtain ⟨i, _, rfl⟩ := List.mem_map.mp hx
  rfl
theorem per_ep {w a : List Int} (ha : a ≠ []) {s : Nat} (hs : 0 < s) (hd : a.length % s = 0) : Per a s ↔ EP (ew w a) w.length s := by
  have hp := List.length_pos_iff.mpr ha
  constructor
  · intro h i hi
    have e1 := (ew_ep (w := w) ha).all hp i hi
    have e2 := (ew_ep (w := w) ha).all hp (i + s) (by omega)
    have l1 := Nat.mod_lt (i - w.length) hp
    have l2 := Nat.mod_lt (i + s - w.length) hp
    have g1 := h.2 _ l1
    have g2 := h.2 _ l2
    rw [Nat.mod_mod_of_dvd _ (Nat.dvd_of_mod_eq_zero hd)] at g1 g2
    rw [show i + s - w.length = i - w.length + s by omega, Nat.add_mod_right] at g2
    rw [e1, e2]
    have z1 := ew_ge (w := w) (a := a) _ l1
    have z2 := ew_ge (w := w) (a := a) _ l2
    rw [show i + s - w.length = i - w.length + s by omega] at z2 ⊢
    rw [g1] at z1
    rw [g2, z1] at z2
    exact (Option.some.inj z2).symm
  · intro h
    refine ⟨hd, fun i hi => ?_⟩
    have l1 : i % s < a.length := Nat.lt_of_le_of_lt (Nat.mod_le _ _) hi
    rw [ew_ge (w := w) i hi, ew_ge (w := w) _ l1]
    congr 1
    have := h.all hs (w.length + i) (by omega)
    rwa [show w.length + i - w.length = i by omega] at this
/-- the root by the form -/
theorem root_sf [U_root_of E] {w a : List Int} (ha : a ≠ []) (hl : a.length ≤ 1000) {f q : Nat} (h : SF (ew w a) f q) (k : Nat) (S : Store) : E.C (k + 1) f_root_of [wT a] S = .ok (wT (cutX (ew w a) w.length q)) S := by
  have hp := List.length_pos_iff.mpr ha
  have hd := h.dvd (ew_ep (w := w) ha)
  have ql : q ≤ a.length := Nat.le_of_dvd hp (Nat.dvd_of_mod_eq_zero hd)
  have hE : EP (ew w a) w.length q := (ew_ep (w := w) ha).back hp h.ep
  have pq : Per a q := (per_ep (w := w) ha h.pos hd).mpr hE
  have r := root_ok (E := E) (xs := a.map T.int) (flat_ints a) (by simpa using hl) (q := q) h.pos (by simpa using ql) ((per_map (fun a b e => by cases e; rfl)).mpr pq) (fun r r1 r2 r3 => by
    have pr := (per_map (f := T.int) (fun a b e => by cases e; rfl)).mp r3
    have er := (per_ep (w := w) ha r1 pr.1).mp pr
    exact h.least r r1 r2 (h.ep.back h.pos er)) k S
  unfold wT
  rw [r]
  congr 2
  rw [← List.map_take]
  congr 1
  refine cutX_eq (by rw [List.length_take]; omega) fun i hi => ?_
  rw [List.getElem?_take, if_pos hi, ew_ge (w := w) i (by omega)]
end
/-! ### short_form -/
noncomputable def shC : TM := (cGcB (tAnd (cBl (cBin opNe (cVar 0) (cTup aNil))) (cBl (cBin opEq (cBin opIx (cVar 0) (cUn opNeg (cK (.int 1)))) (cBin opIx (cVar 1) (cUn opNeg (cK (.int 1))))))))
noncomputable def shB : SM := (sSeq (sPar (aCons (cSl (cVar 0) oNone (oSome (cUn opNeg (cK (.int 1))))) (aCons (cBin opAdd (cSl (cVar 1) (oSome (cUn opNeg (cK (.int 1)))) oNone) (cSl (cVar 1) oNone (oSome (cUn opNeg (cK (.int 1)))))) aNil)) [0, 1]) sNext)
theorem ints_last {ns : List Int} {v : Int} (S : Store) (h : ns.getLast? = some v) : opIx (wT ns) (.int (-1)) S = .ok (.int v) S := ixT_last S (by simp [h])
theorem cutX_last (x : Nat → Int) (f n : Nat) (h : 0 < n) : (cutX x f n).getLast? = some (x (f + n - 1)) := by
  rw [List.getLast?_eq_getElem?, cutX_len, cutX_get x f n _ (by omega), show f + (n - 1) = f + n - 1 by omega]
theorem ne_nil (S : Store) (ns : List Int) : opNe (wT ns) (.tup []) S = .ok (.bl (decide (ns ≠ []))) S := by
  obtain ⟨b, hb1, hb2⟩ := opNe_flat (S := S) (xs := ns.map T.int) (ys := []) (flat_ints ns) (by simp)
  unfold wT
  rw [hb1]
  cases ns with
  | nil => rw [hb2.mpr rfl]; simp
  | cons n ns =>
    have : b = false := by cases b with
      | false => rfl
      | true => exact absurd (hb2.mp rfl) (by simp)
    rw [this]; simp
theorem sh_stop0 (a : List Int) (S : Store) : shC [some (wT []), some (wT a)] S = .ok false S := by
  have := ne_nil S []
  simp [shC, this]
theorem sh_cond {x : Nat → Int} {n g q : Nat} (hq : 0 < q) (S : Store) : shC [some (wT (cutX x 0 (n + 1))), some (wT (cutX x (n + 1) q))] S = .ok (decide (x n = x (n + q))) S := by
  have h1 := ne_nil S (cutX x 0 (n + 1))
  have h0 : cutX x 0 (n + 1) ≠ [] := fun e => by have := congrArg List.length e; rw [cutX_len] at this; simp at this
  have l1 := ints_last S (cutX_last x 0 (n + 1) (by omega))
  have l2 := ints_last S (cutX_last x (n + 1) q hq)
  rw [show 0 + (n + 1) - 1 = n by omega] at l1
  rw [show n + 1 + q - 1 = n + q by omega] at l2
  simp [shC, h1, h0, l1, l2]
theorem cut_tail {α : Type} (xs : List α) : cut xs (some (-1)) none = xs.drop (xs.length - 1) := by
  unfold cut sIx
  simp only
  rw [if_pos (by omega), List.take_of_length_le (by simp)]
  congr 1
  omega
theorem wT_add (a b : List Int) (S : Store) (h : a.length + b.length ≤ 1000000) : opAdd (wT a) (wT b) S = .ok (wT (a ++ b)) S := by
  simp only [wT, opAdd, List.length_map, line_ge h, if_true, List.map_append]
theorem wT_sl (a : List Int) (lo hi : Option Int) (S : Store) : opSl (wT a) lo hi S = .ok (wT (cut a lo hi)) S := by
  simp only [wT, opSl, cut, List.length_map, List.map_take, List.map_drop]
theorem sh_step {x : Nat → Int} {n q : Nat} (hq : 0 < q) (hl : q ≤ 100000) (e : x n = x (n + q)) (S : Store) :
    shB [some (wT (cutX x 0 (n + 1))), some (wT (cutX x (n + 1) q))] S = .nx [some (wT (cutX x 0 n)), some (wT (cutX x n q))] S := by
  have s1 := wT_sl (cutX x 0 (n + 1)) none (some (-1)) S
  have s2 := wT_sl (cutX x (n + 1) q) (some (-1)) none S
  have s3 := wT_sl (cutX x (n + 1) q) none (some (-1)) S
  rw [cut_init, List.dropLast_eq_take, cutX_len, cutX_take x 0 (n + 1) (n + 1 - 1) (by omega), Nat.add_sub_cancel] at s1
  rw [cut_tail, cutX_len, cutX_drop x (n + 1) q (q - 1) (by omega)] at s2
  rw [cut_init, List.dropLast_eq_take, cutX_len, cutX_take x (n + 1) q (q - 1) (by omega)] at s3
  have s4 := wT_add (cutX x (n + 1 + (q - 1)) (q - (q - 1))) (cutX x (n + 1) (q - 1)) S (by rw [cutX_len, cutX_len]; omega)
  have s5 : cutX x (n + 1 + (q - 1)) (q - (q - 1)) ++ cutX x (n + 1) (q - 1) = cutX x n q := by
    refine cutX_eq (by rw [List.length_append, cutX_len, cutX_len]; omega) fun i hi => ?_
    by_cases c : i = 0
    · subst c
      rw [List.getElem?_append_left (by rw [cutX_len]; omega), cutX_get _ _ _ _ (by omega), show n + 1 + (q - 1) + 0 = n + q by omega, Nat.add_zero, e]
    · rw [List.getElem?_append_right (by rw [cutX_len]; omega), cutX_len, cutX_get _ _ _ _ (by omega)]
      congr 2
      omega
  rw [s5] at s4
  simp [shB, s1, s2, s3, s4]
theorem sh_loop {x : Nat → Int} {q f : Nat} (hq : 0 < q) (hl : q ≤ 100000) (hf : ∀ g, g < f → ¬ EP x g q) (he : EP x f q) (S : Store) : ∀ (j n m : Nat), f + j = n → whileF shC shB (m + j + 1) [some (wT (cutX x 0 n)), some (wT (cutX x n q))] S = .nx [some (wT (cutX x 0 f)), some (wT (cutX x f q))] S
  | 0, n, m, e => by
    have e : f = n := by omega
    subst e
    cases f with
    | zero => exact whileF_end (sh_stop0 _ S)
    | succ f =>
      refine whileF_end ?_
      rw [sh_cond (g := 0) hq]
      have : ¬ x f = x (f + q) := fun z => hf f (by omega) fun i hi => by
        by_cases c : i = f
        · subst c; exact z.symm
        · exact he i (by omega)
      simp [this]
  | j + 1, n, m, e => by
    obtain ⟨n, rfl⟩ : ∃ n', n = n' + 1 := ⟨n - 1, by omega⟩
    have hx : x n = x (n + q) := (he n (by omega)).symm
    have hc : shC [some (wT (cutX x 0 (n + 1))), some (wT (cutX x (n + 1) q))] S = .ok true S := by rw [sh_cond (g := 0) hq]; simp [hx]
    rw [whileF_step hc, sh_step hq hl hx S]
    exact sh_loop hq hl hf he S j n m (by omega)
/-- the pair of a word and the letters that come again -/
def formT (x : Nat → Int) (f q : Nat) : T := .tup [wT (cutX x 0 f), wT (cutX x f q)]
section
variable {E : Env}
theorem short_ok [U_root_of E] [U_short_form E] {w a : List Int} (ha : a ≠ []) (hl : a.length ≤ 1000) (hw : w.length ≤ 1000) {f q : Nat} (h : SF (ew w a) f q) (k : Nat) (S : Store) : E.C (k + 2) f_short_form [wT w, wT a] S = .ok (formT (ew w a) f q) S := by
  have hp := List.length_pos_iff.mpr ha
  have r := root_sf (E := E) ha hl h k S
  have fw : f ≤ w.length := by
    rcases Nat.lt_or_ge w.length f with c | c
    · exact absurd ((ew_ep (w := w) ha).back hp h.ep) (h.first _ c)
    · exact c
  have ql : q ≤ a.length := Nat.le_of_dvd hp (Nat.dvd_of_mod_eq_zero (h.dvd (ew_ep (w := w) ha)))
  have ew0 : wT w = wT (cutX (ew w a) 0 w.length) := by
    congr 1
    exact cutX_eq rfl fun i hi => by rw [ew_lt (a := a) hi, Nat.zero_add]
  obtain ⟨m, hm⟩ := sWhile_fuel shC shB (w.length - f + 1) (by omega)
  have l := sh_loop h.pos (show q ≤ 100000 by omega) h.first h.ep S (w.length - f) w.length m (by omega)
  have e : B_short_form E (k + 1) = sSeq (sAsg (cGc (cCall (E.C (k + 1) f_root_of) (aCons (cVar 1) aNil))) (gName 1)) (sSeq (sWhile shC shB) (sSeq (sRet (cTup (aCons (cVar 0) (aCons (cVar 1) aNil)))) sNext)) := rfl
  rw [U_short_form.eq, e, hm, ← Nat.add_assoc, ew0]
  simp -implicitDefEqProofs only [x_sSeq, x_sAsg, x_cGc, x_cCall, x_aCons, x_aNil, x_cVar, List.getElem?_cons_succ, List.getElem?_cons_zero, R.bind_ok, r, gc_same, R.bindS_ok, x_gName, List.set_cons_succ, List.set_cons_zero, SR.seq_nx, l]
  simp [formT]
end
end EV
end
section
set_option Elab.async false
set_option linter.all false
set_option maxRecDepth 100000
set_option maxHeartbeats 4000000
set_option autoImplicit false
namespace EV
/-! ### drawn words -/
def Wd (m : Int) (ns : List Int) : Prop := ∀ v ∈ ns, 0 ≤ v ∧ v < m
theorem Wd.mono {m n : Int} {ns : List Int} (h : Wd m ns) (k : m ≤ n) : Wd n ns := fun v hv => ⟨(h v hv).1, by have := (h v hv).2; omega⟩
theorem Wd.app {m : Int} {a b : List Int} (h : Wd m a) (k : Wd m b) : Wd m (a ++ b) := fun v hv => (List.mem_append.mp hv).elim (h v) (k v)
theorem Wd.take {m : Int} {a : List Int} (h : Wd m a) (n : Nat) : Wd m (a.take n) := fun v hv => h v (List.mem_of_mem_take hv)
theorem Wd.drop {m : Int} {a : List Int} (h : Wd m a) (n : Nat) : Wd m (a.drop n) := fun v hv => h v (List.mem_of_mem_drop hv)
theorem Wd.rep {m : Int} {a : List Int} (h : Wd m a) (n : Nat) : Wd m (List.replicate n a).flatten := fun v hv => by
  obtain ⟨l, h1, h2⟩ := List.mem_flatten.mp hv
  rw [(List.mem_replicate.mp h1).2] at h2
  exact h v h2
theorem wd_below {m : Int} {ns : List Int} (h : Wd m ns) : belowT m (wT ns) = true := by
  rw [below_word, List.all_eq_true]
  intro v hv
  simp [h v hv]
theorem ints_of {ys : List T} {P : Nat → T → Prop} (h : ∀ (i : Nat) (y : T), ys[i]? = some y → P i y) {m : Int} (hP : ∀ i y, P i y → ∃ r : Nat, y = .int r ∧ (r : Int) < m) : ∃ ns : List Int, ys = ns.map T.int ∧ ns.length = ys.length ∧ Wd m ns := by
  induction ys generalizing P with
  | nil => exact ⟨[], rfl, rfl, fun v hv => by cases hv⟩
  | cons y ys ih =>
    obtain ⟨r, e, hr⟩ := hP 0 y (h 0 y rfl)
    obtain ⟨ns, e1, e2, e3⟩ := ih (P := fun i y => P (i + 1) y) (fun i z hz => h (i + 1) z (by simpa using hz)) (fun i z hz => hP (i + 1) z hz)
    refine ⟨(r : Int) :: ns, by rw [e, e1, List.map_cons], by rw [List.length_cons, List.length_cons, e2], fun v hv => ?_⟩
    rcases List.mem_cons.mp hv with rfl | hv
    · exact ⟨by omega, hr⟩
    · exact e3 v hv
theorem tup_new (S : Store) (ns : List Int) : bTuple (.loc S.length) (S ++ [.lst (ns.map T.int)]) = .ok (wT ns) (S ++ [.lst (ns.map T.int)]) := by
  simp only [bTuple, lstAt, lstN, last_get, wT]
section
variable {E : Env} {f n : Nat} {pot : T} {Pot : Store → Prop} (D : Draws E f pot n Pot)
include D
theorem Draws.gc0 {P P' G : Store} {v : T} (h : Pot P) (h' : Pot P') (hv : v.sco (n + G.length) = true) : gc (P ++ G) (P' ++ G) v = .ok v (P' ++ G) := gc_part0 (D.part _ h) (D.part _ h') hv
theorem Draws.gcB0 {P P' G : Store} {b : Bool} (h : Pot P) (h' : Pot P') : gcB (P ++ G) (P' ++ G) b = .ok b (P' ++ G) := by
  have := gcB_part (G := G) (X := []) (b := b) (D.part _ h) (D.part _ h')
  rwa [List.append_nil] at this
theorem Draws.gc1 {P P' G X : Store} {v : T} (h : Pot P) (h' : Pot P') (hv : v.sco (n + G.length) = true) : gc (P ++ G) (P' ++ G ++ X) v = .ok v (P' ++ G) := gc_part (D.part _ h) (D.part _ h') hv
/-- tuple([draw .. for .. in ..]) -/
theorem Draws.word {wi : IM} {vs : List Nat} {g : GM} {te : EM} {τ : Loc} {S P1 G : Store} {xs : List T} {m : Int} (hw : wi τ S = .ok (xs, .fix) (P1 ++ G)) (hP : Pot P1) (hl : xs.length ≤ 1000000)
    (hte : ∀ x P, x ∈ xs → Pot P → ∃ τ2, g x (wipe τ vs) = some τ2 ∧ ∃ (r : Nat) (P' : Store), te τ2 (P ++ G) = .ok (.int r) (P' ++ G) ∧ Pot P' ∧ (r : Int) < m) :
    ∃ ns P', cUn bTuple (cLC wi vs g tYes te) τ S = .ok (wT ns) (P' ++ G ++ [.lst (ns.map T.int)]) ∧ Pot P' ∧ ns.length = xs.length ∧ Wd m ns := by
  have w := cLC_wp (wi := wi) (vs := vs) (g := g) (te := te) (τ := τ) (S := S) (xs := xs) (fun _ S => ∃ P, Pot P ∧ S = P ++ G) (fun _ y => ∃ r : Nat, y = .int r ∧ (r : Int) < m) hw hl (fun i x S hi hI => by
    obtain ⟨P, hp, rfl⟩ := hI
    obtain ⟨τ2, h1, r, P', h2, h3, h4⟩ := hte x P (List.mem_of_getElem? hi) hp
    exact ⟨τ2, h1, wp_of h2 ⟨⟨r, rfl, h4⟩, P', h3, rfl⟩⟩) ⟨P1, hP, rfl⟩
  obtain ⟨v, S', e, ys, S2, rfl, rfl, l, p, P', hp', rfl⟩ := wp_iff.mp w
  obtain ⟨ns, rfl, l2, hwd⟩ := ints_of p fun i y h => h
  refine ⟨ns, P', ?_, hp', by rw [l2, l], hwd⟩
  rw [x_cUn, e, R.bind_ok, tup_new]
end
theorem wT_sco (k : Nat) (ns : List Int) : (wT ns).sco k = true := scoInts k ns
theorem wT_mul (a : List Int) {j : Nat} (S : Store) (h1 : 1 ≤ j) (h2 : j ≤ 1000) (h3 : a.length ≤ 1000) : opMul (wT a) (.int (j : Int)) S = .ok (wT (List.replicate j a).flatten) S := by
  unfold wT
  rw [opMul_tup S h1 h2 (by simpa using h3), List.map_flatten, List.map_replicate]
theorem wT_len (a : List Int) (S : Store) : bLen (wT a) S = .ok (.int a.length) S := by simp [wT, bLen]
theorem cat_ne {a : List Int} (ha : a ≠ []) {j : Nat} (h : 1 ≤ j) : (List.replicate j a).flatten ≠ [] := by
  obtain ⟨j, rfl⟩ : ∃ j', j = j' + 1 := ⟨j - 1, by omega⟩
  rw [List.replicate_succ, List.flatten_cons]
  exact fun e => ha (List.append_eq_nil_iff.mp e).1
section
variable {E : Env}
theorem round_ok [U_is_integer E] [U_is_natural E] [U_are_below E] [U_check_word E] [U_check_again E] [U_root_of E] [U_short_form E] [U_round_form E] {w a : List Int} (ha : a ≠ []) (hl : a.length ≤ 1000) (hw : w.length ≤ 1000) (w4 : Wd 4 w) (a4 : Wd 4 a)
    {f q : Nat} (h : SF (ew w a) f q) (k : Nat) (S : Store) : E.C (k + 5) f_round_form [wT w, wT a] S = .ok (formT (ew w a) f q) S := by
  have c1 := check_word_ok (E := E) k (wT w) 4 S (kn_word S w (by omega))
  have c2 := check_again_ok (E := E) k (wT a) 4 S (kn_word S a (by omega))
  have c3 := short_ok (E := E) ha hl hw h (k + 2) S
  rw [wd_below w4, if_pos rfl] at c1
  have e0 : emptyT (wT a) = false := by cases a with
    | nil => exact absurd rfl ha
    | cons x a => rfl
  rw [wd_below a4, e0, if_pos (by decide)] at c2
  rw [U_round_form.eq]
  simp -implicitDefEqProofs [B_round_form, c1, c2, c3]
theorem round_bad1 [U_is_integer E] [U_is_natural E] [U_are_below E] [U_check_word E] [U_round_form E] {x y : T} (k : Nat) (S : Store) (hx : Kn S x) (hb : belowT 4 x = false) : E.C (k + 5) f_round_form [x, y] S = .exc (E.ci c_InvalidWord) x S := by
  have c1 := check_word_ok (E := E) k x 4 S hx
  rw [hb, if_neg (by decide)] at c1
  rw [U_round_form.eq]
  simp -implicitDefEqProofs [B_round_form, c1, endOf]
theorem round_bad2 [U_is_integer E] [U_is_natural E] [U_are_below E] [U_check_word E] [U_check_again E] [U_round_form E] {x y : T} (k : Nat) (S : Store) (hx : Kn S x) (hb : belowT 4 x = true) (hy : Kn S y) (hc : (belowT 4 y && !emptyT y) = false) : E.C (k + 5) f_round_form [x, y] S = .exc (E.ci c_InvalidWord) y S := by
  have c1 := check_word_ok (E := E) k x 4 S hx
  have c2 := check_again_ok (E := E) k y 4 S hy
  rw [hb, if_pos rfl] at c1
  rw [hc, if_neg (by decide)] at c2
  rw [U_round_form.eq]
  simp -implicitDefEqProofs [B_round_form, c1, c2, endOf]
end
end EV
end
section
set_option linter.all false
set_option autoImplicit false
/-! endless words to the left: by what stands from the right -/
namespace EV
def rX (x : Nat → Int) (f n : Nat) : List Int := (cutX x f n).reverse
theorem rX_len (x : Nat → Int) (f n : Nat) : (rX x f n).length = n := by rw [rX, List.length_reverse, cutX_len]
theorem rX_drop (x : Nat → Int) (f n m : Nat) (h : m ≤ n) : (rX x f n).drop m = rX x f (n - m) := by
  rw [rX, List.drop_reverse, cutX_len, cutX_take _ _ _ _ (by omega)]
  rfl
theorem rX_take (x : Nat → Int) (f n m : Nat) (h : m ≤ n) : (rX x f n).take m = rX x (f + (n - m)) m := by
  rw [rX, List.take_reverse, cutX_len, cutX_drop _ _ _ _ (by omega), show n - (n - m) = m by omega]
  rfl
theorem rX_inj {x y : Nat → Int} {f g n m : Nat} : rX x f n = rX y g m ↔ cutX x f n = cutX y g m := List.reverse_inj
theorem rX_mem {x : Nat → Int} {f n : Nat} {v : Int} (h : v ∈ rX x f n) : ∃ i, i < n ∧ v = x (f + i) := cutX_mem (List.mem_reverse.mp h)
theorem rX_head (x : Nat → Int) (f n : Nat) (h : 0 < n) : (rX x f n)[0]? = some (x (f + n - 1)) := by
  rw [rX, List.getElem?_reverse (by rw [cutX_len]; exact h), cutX_len, cutX_get _ _ _ _ (by omega)]
  congr 2
  omega
/-- the letters of an end, from the right -/
def ye (a w : List Int) : Nat → Int := ew w.reverse a.reverse
theorem rev_ne {a : List Int} (h : a ≠ []) : a.reverse ≠ [] := by simpa using h
theorem ye_ep {a w : List Int} (h : a ≠ []) : EP (ye a w) w.length a.length := by
  have := ew_ep (w := w.reverse) (rev_ne h)
  rwa [List.length_reverse, List.length_reverse] at this
theorem ye_word {a w : List Int} : w = rX (ye a w) 0 w.length := by
  rw [rX, ← List.reverse_inj, List.reverse_reverse]
  exact cutX_eq (by simp) fun i hi => by rw [ew_lt (a := a.reverse) (by simpa using hi), Nat.zero_add]; rfl
theorem ye_again {a w : List Int} : a = rX (ye a w) w.length a.length := by
  rw [rX, ← List.reverse_inj, List.reverse_reverse]
  exact cutX_eq (by simp) fun i hi => by
    have := ew_ge (w := w.reverse) (a := a.reverse) i (by simpa using hi)
    rw [List.length_reverse] at this
    exact this
theorem rev_cat (a : List Int) (m : Nat) : ((List.replicate m a).flatten).reverse = (List.replicate m a.reverse).flatten := by
  rw [List.reverse_flatten, List.map_replicate, List.reverse_replicate]
theorem ye_line {a w : List Int} (ha : a ≠ []) {m n : Nat} (hn : n ≤ w.length + a.length * m) : ((List.replicate m a).flatten ++ w).drop (((List.replicate m a).flatten ++ w).length - n) = rX (ye a w) 0 n := by
  have h := ew_line (w := w.reverse) (rev_ne ha) (m := m) (n := n) (by rw [List.length_reverse, List.length_reverse]; exact hn)
  rw [rX, ye, ← h, ← rev_cat, ← List.reverse_append, List.take_reverse, List.reverse_reverse]
theorem ye_form {x : Nat → Int} {f q : Nat} (h : EP x f q) (hq : 0 < q) : ye (rX x f q) (rX x 0 f) = x := by
  unfold ye rX
  rw [List.reverse_reverse, List.reverse_reverse]
  exact ew_form h hq
theorem ye_mem {a w : List Int} (ha : a ≠ []) (i : Nat) : ye a w i ∈ w ∨ ye a w i ∈ a := (ew_mem (w := w.reverse) (rev_ne ha) i).imp List.mem_reverse.mp List.mem_reverse.mp
/-- the same end told otherwise: the words as they are told stand at the end -/
theorem ye_told {b v : List Int} {x : Nat → Int} (hb : b ≠ []) (e1 : v = rX x 0 v.length) (e2 : b = rX x v.length b.length) (h : EP x v.length b.length) : ye b v = x := by
  have := ye_form h (List.length_pos_iff.mpr hb)
  rwa [← e1, ← e2] at this
theorem rX_app (x : Nat → Int) (f n m : Nat) : rX x (f + n) m ++ rX x f n = rX x f (n + m) := by
  unfold rX
  rw [← List.reverse_append]
  congr 1
  refine cutX_eq (by simp [cutX_len]) fun i hi => ?_
  by_cases c : i < n
  · rw [List.getElem?_append_left (by rw [cutX_len]; exact c), cutX_get _ _ _ _ c]
  · rw [List.getElem?_append_right (by rw [cutX_len]; omega), cutX_len, cutX_get _ _ _ _ (by omega)]
    congr 2
    omega
theorem rX_per {x : Nat → Int} {f p : Nat} (h : EP x f p) (g n : Nat) (hg : f ≤ g) : rX x (g + p) n = rX x g n := by
  unfold rX
  congr 1
  refine cutX_eq (cutX_len _ _ _) fun i hi => ?_
  rw [cutX_get _ _ _ _ hi, show g + p + i = g + i + p by omega, h _ (by omega)]
theorem rX_mul {x : Nat → Int} {f p : Nat} (h : EP x f p) : ∀ m, (List.replicate m (rX x f p)).flatten = rX x f (p * m)
  | 0 => rfl
  | m + 1 => by
    rw [List.replicate_succ, List.flatten_cons, rX_mul h m]
    have e := rX_app x f (p * m) p
    rw [← Nat.mul_succ] at e
    rw [← e]
    congr 1
    have : ∀ j, rX x (f + p * j) p = rX x f p := fun j => by
      induction j with
      | zero => rfl
      | succ j ih => rw [Nat.mul_succ, ← Nat.add_assoc, rX_per h _ _ (by omega), ih]
    exact (this m).symm
end EV
end
section
set_option Elab.async false
set_option linter.all false
set_option maxRecDepth 100000
set_option maxHeartbeats 4000000
set_option autoImplicit false
namespace EV
/-! ### least_turn -/
noncomputable def turnL : SM := (sSeq (sIf (cGcB (tAnd (cBl (cBin opEq (cBin opMod (cUn bLen (cVar 0)) (cVar 1)) (cK (.int 0)))) (cBl (cBin opEq (cVar 0) (cBin opMul (cSl (cVar 0) oNone (oSome (cVar 1))) (cBin opDiv (cUn bLen (cVar 0)) (cVar 1))))))) (sSeq (sRet (cSl (cVar 0) oNone (oSome (cVar 1)))) sNext) sNext) sNext)
theorem turnL_hit {xs : List T} (hf : ∀ x ∈ xs, flat x = true) (hl : xs.length ≤ 1000) {d : Nat} (h1 : 1 ≤ d) (h2 : d ≤ xs.length) (h : Per xs d) (S : Store) : turnL [some (.tup xs), some (.int d)] S = .rt (.tup (xs.take d)) S := by
  have hd : (xs.length : Int) % (d : Int) = 0 := by have := h.1; omega
  have k1 : 1 ≤ xs.length / d := Nat.div_pos h2 h1
  have k2 : xs.length / d ≤ 1000 := Nat.le_trans (Nat.div_le_self _ _) hl
  have hc := (per_cat h1 h2 h.1).mpr h.2
  have a1 : opMod (.int (xs.length : Int)) (.int (d : Int)) S = .ok (.int ((xs.length : Int) % d)) S := opMod_ok S (by omega)
  have a2 : opDiv (.int (xs.length : Int)) (.int (d : Int)) S = .ok (.int ((xs.length / d : Nat) : Int)) S := opDiv_ok S (by omega) (by omega)
  generalize hK : xs.length / d = K at k1 k2 hc a2
  have a3 := opMul_tup S k1 k2 (show (xs.take d).length ≤ 1000 by rw [List.length_take]; omega)
  rw [hc] at a3
  obtain ⟨b, hb1, hb2⟩ := opEq_flat (S := S) hf hf
  rw [hb2.mpr rfl] at hb1
  simp [turnL, a1, a2, a3, hb1, hd, opSl, cut_take]
theorem turnL_miss {xs : List T} (hf : ∀ x ∈ xs, flat x = true) (hl : xs.length ≤ 1000) {d : Nat} (h1 : 1 ≤ d) (h2 : d ≤ xs.length) (h : ¬ Per xs d) (S : Store) : turnL [some (.tup xs), some (.int d)] S = .nx [some (.tup xs), some (.int d)] S := by
  have a1 : opMod (.int (xs.length : Int)) (.int (d : Int)) S = .ok (.int ((xs.length : Int) % d)) S := opMod_ok S (by omega)
  by_cases hd0 : xs.length % d = 0
  · have hd : (xs.length : Int) % (d : Int) = 0 := by omega
    have k1 : 1 ≤ xs.length / d := Nat.div_pos h2 h1
    have k2 : xs.length / d ≤ 1000 := Nat.le_trans (Nat.div_le_self _ _) hl
    have hc : (List.replicate (xs.length / d) (xs.take d)).flatten ≠ xs := fun z => h ⟨hd0, (per_cat h1 h2 hd0).mp z⟩
    have hf2 : ∀ x ∈ (List.replicate (xs.length / d) (xs.take d)).flatten, flat x = true := fun x hx => by
      obtain ⟨l, hl1, hl2⟩ := List.mem_flatten.mp hx
      rw [(List.mem_replicate.mp hl1).2] at hl2
      exact hf x (List.mem_of_mem_take hl2)
    have a2 : opDiv (.int (xs.length : Int)) (.int (d : Int)) S = .ok (.int ((xs.length / d : Nat) : Int)) S := opDiv_ok S (by omega) (by omega)
    generalize hK : xs.length / d = K at k1 k2 hc hf2 a2
    have a3 := opMul_tup S k1 k2 (show (xs.take d).length ≤ 1000 by rw [List.length_take]; omega)
    obtain ⟨b, hb1, hb2⟩ := opEq_flat (S := S) hf hf2
    have hb : b = false := by
      cases b with
      | false => rfl
      | true => exact absurd (hb2.mp rfl).symm hc
    subst hb
    simp [turnL, a1, a2, a3, hb1, hd, opSl, cut_take]
  · have hd : ¬ (xs.length : Int) % (d : Int) = 0 := by omega
    simp [turnL, a1, hd]
theorem turnL_loop {xs : List T} (hf : ∀ x ∈ xs, flat x = true) (hl : xs.length ≤ 1000) {q : Nat} (ql : q ≤ xs.length) (hq : Per xs q) (hm : ∀ r, 1 ≤ r → r < q → ¬ Per xs r) (S : Store) (all : List T) :
    ∀ (j d : Nat) (o : Option T), d + j = q → 1 ≤ d → forL .fix all (gName 1) turnL (rgT d (xs.length : Int)) [some (.tup xs), o] S = .rt (.tup (xs.take q)) S ∨ (q = xs.length ∧ ∃ o', forL .fix all (gName 1) turnL (rgT d (xs.length : Int)) [some (.tup xs), o] S = .nx [some (.tup xs), o'] S) := by
  intro j
  induction j with
  | zero =>
    intro d o e h1
    have e : d = q := by omega
    subst e
    by_cases c : d < xs.length
    · left
      rw [rgT_cons (by omega), x_for1 (x_gName _ _ _)]
      show loopK (turnL [some (.tup xs), some (.int d)] S) _ = _
      rw [turnL_hit hf hl h1 ql hq S]
      rfl
    · right
      refine ⟨by omega, o, ?_⟩
      rw [rgT_nil (by omega), x_for0]
  | succ j ih =>
    intro d o e h1
    have st : ∀ r, forL .fix all (gName 1) turnL (rgT d (xs.length : Int)) [some (.tup xs), o] S = r ↔ forL .fix all (gName 1) turnL (rgT ((d + 1 : Nat) : Int) (xs.length : Int)) [some (.tup xs), some (.int d)] S = r := fun r => by
      rw [rgT_cons (by omega), x_for1 (x_gName _ _ _)]
      have : loopK (turnL [some (.tup xs), some (.int d)] S) (forL .fix all (gName 1) turnL (rgT ((d : Int) + 1) xs.length)) = forL .fix all (gName 1) turnL (rgT ((d + 1 : Nat) : Int) (xs.length : Int)) [some (.tup xs), some (.int d)] S := by
        rw [turnL_miss hf hl h1 (by omega) (hm d h1 (by omega)) S]
        rfl
      rw [← this]
      rfl
    rcases ih (d + 1) (some (.int d)) (by omega) (by omega) with h | ⟨h1, o', h2⟩
    · exact .inl ((st _).mpr h)
    · exact .inr ⟨h1, o', (st _).mpr h2⟩
section
variable {E : Env}
theorem turn_ok [U_least_turn E] {xs : List T} (hf : ∀ x ∈ xs, flat x = true) (hl : xs.length ≤ 1000) {q : Nat} (q1 : 1 ≤ q) (ql : q ≤ xs.length) (hq : Per xs q) (hm : ∀ r, 1 ≤ r → r < q → ¬ Per xs r) (k : Nat) (S : Store) : E.C (k + 1) f_least_turn [.tup xs] S = .ok (.tup (xs.take q)) S := by
  have e : B_least_turn E k = sSeq (sFor (iRg2 (cK (.int 1)) (cUn bLen (cVar 0))) (gName 1) turnL) (sSeq (sRet (cVar 0)) sNext) := rfl
  have c1 : iRg2 (cK (.int 1)) (cUn bLen (cVar 0)) [some (.tup xs), none] S = .ok (rgT 1 (xs.length : Int), .fix) S := by
    refine iRg2_ok (S1 := S) (by simp) (by simp) (by omega) (by omega) (by omega) (by omega)
  rw [U_least_turn.eq, e]
  rcases turnL_loop hf hl ql hq hm S (rgT 1 (xs.length : Int)) (q - 1) 1 none (by omega) (by omega) with l | ⟨e, o', l⟩
  · have l' : forL .fix (rgT 1 (xs.length : Int)) (gName 1) turnL (rgT 1 (xs.length : Int)) [some (.tup xs), none] S = .rt (.tup (xs.take q)) S := l
    rw [x_sSeq, x_sFor, c1, R.bindS_ok, l', SR.seq_rt, x_endrt, gc_same]
  · have l' : forL .fix (rgT 1 (xs.length : Int)) (gName 1) turnL (rgT 1 (xs.length : Int)) [some (.tup xs), none] S = .nx [some (.tup xs), o'] S := l
    rw [x_sSeq, x_sFor, c1, R.bindS_ok, l', e, List.take_length]
    simp
theorem per_rev {a : List Int} {d : Nat} (hd : 0 < d) (h : Per a d) : Per a.reverse d := by
  obtain ⟨h1, h2⟩ := h
  refine ⟨by rw [List.length_reverse]; exact h1, fun i hi => ?_⟩
  rw [List.length_reverse] at hi
  have hm : i % d < a.length := Nat.lt_of_le_of_lt (Nat.mod_le _ _) hi
  rw [List.getElem?_reverse hi, List.getElem?_reverse hm, h2 _ (by omega), h2 (a.length - 1 - i % d) (by omega)]
  congr 1
  obtain ⟨c, hc⟩ := Nat.dvd_of_mod_eq_zero h1
  have e : a.length - 1 - i % d = a.length - 1 - i + d * (i / d) := by
    have := Nat.mod_add_div i d
    omega
  rw [e, Nat.add_mul_mod_self_left]
theorem turn_sf [U_least_turn E] {a w : List Int} (ha : a ≠ []) (hl : a.length ≤ 1000) {f q : Nat} (h : SF (ye a w) f q) (k : Nat) (S : Store) : E.C (k + 1) f_least_turn [wT a] S = .ok (wT (rX (ye a w) w.length q)) S := by
  have hp := List.length_pos_iff.mpr ha
  have hE0 := ye_ep (w := w) ha
  have hd := h.dvd hE0
  have ql : q ≤ a.length := Nat.le_of_dvd hp (Nat.dvd_of_mod_eq_zero hd)
  have hE : EP (ye a w) w.length q := hE0.back hp h.ep
  have per : ∀ s, 0 < s → a.length % s = 0 → (Per a s ↔ EP (ye a w) w.length s) := fun s s0 sd => by
    have := per_ep (w := w.reverse) (rev_ne ha) s0 (by rw [List.length_reverse]; exact sd)
    rw [List.length_reverse] at this
    rw [ye, ← this]
    exact ⟨per_rev s0, fun z => by have := per_rev s0 z; rwa [List.reverse_reverse] at this⟩
  have pq : Per a q := (per q h.pos hd).mpr hE
  have r := turn_ok (E := E) (xs := a.map T.int) (flat_ints a) (by simpa using hl) (q := q) h.pos (by simpa using ql) ((per_map (fun a b e => by cases e; rfl)).mpr pq) (fun r r1 r2 r3 => by
    have pr := (per_map (f := T.int) (fun a b e => by cases e; rfl)).mp r3
    exact h.least r r1 r2 (h.ep.back h.pos ((per r r1 pr.1).mp pr))) k S
  unfold wT
  rw [r]
  congr 2
  rw [← List.map_take]
  congr 1
  conv => lhs; rw [ye_again (a := a) (w := w)]
  rw [rX_take _ _ _ _ ql]
  obtain ⟨c, hc⟩ := Nat.dvd_of_mod_eq_zero hd
  have c0 : 0 < c := by
    rcases Nat.eq_zero_or_pos c with z | z
    · subst z; omega
    · exact z
  have : ∀ j, rX (ye a w) (w.length + q * j) q = rX (ye a w) w.length q := fun j => by
    induction j with
    | zero => rfl
    | succ j ih => rw [Nat.mul_succ, ← Nat.add_assoc, rX_per hE _ _ (by omega), ih]
  have e := this (c - 1)
  rwa [Nat.mul_sub, Nat.mul_one, ← hc] at e
end
/-! ### short_end -/
noncomputable def seC : TM := (cGcB (tAnd (cBl (cBin opNe (cVar 1) (cTup aNil))) (cBl (cBin opEq (cBin opIx (cVar 1) (cK (.int 0))) (cBin opIx (cVar 0) (cK (.int 0)))))))
noncomputable def seB : SM := (sSeq (sPar (aCons (cBin opAdd (cSl (cVar 0) (oSome (cK (.int 1))) oNone) (cSl (cVar 0) oNone (oSome (cK (.int 1))))) (aCons (cSl (cVar 1) (oSome (cK (.int 1))) oNone) aNil)) [0, 1]) sNext)
theorem rX_ix {x : Nat → Int} {f n : Nat} (S : Store) (h : 0 < n) : opIx (wT (rX x f n)) (.int 0) S = .ok (.int (x (f + n - 1))) S := by
  refine ixT_nat (i := 0) S ?_
  rw [List.getElem?_map, rX_head x f n h]
  rfl
theorem se_stop0 (a : List Int) (S : Store) : seC [some (wT a), some (wT [])] S = .ok false S := by
  have := ne_nil S []
  simp [seC, this]
theorem se_cond {x : Nat → Int} {n q : Nat} (hq : 0 < q) (S : Store) : seC [some (wT (rX x (n + 1) q)), some (wT (rX x 0 (n + 1)))] S = .ok (decide (x n = x (n + q))) S := by
  have h1 := ne_nil S (rX x 0 (n + 1))
  have h0 : rX x 0 (n + 1) ≠ [] := fun e => by have := congrArg List.length e; rw [rX_len] at this; simp at this
  have l1 := rX_ix (x := x) (f := 0) (n := n + 1) S (by omega)
  have l2 := rX_ix (x := x) (f := n + 1) (n := q) S hq
  rw [show 0 + (n + 1) - 1 = n by omega] at l1
  rw [show n + 1 + q - 1 = n + q by omega] at l2
  simp [seC, h1, h0, l1, l2]
theorem se_step {x : Nat → Int} {n q : Nat} (hq : 0 < q) (hl : q ≤ 100000) (e : x n = x (n + q)) (S : Store) :
    seB [some (wT (rX x (n + 1) q)), some (wT (rX x 0 (n + 1)))] S = .nx [some (wT (rX x n q)), some (wT (rX x 0 n))] S := by
  have s1 : opSl (wT (rX x (n + 1) q)) (some 1) none S = .ok (wT (rX x (n + 1) (q - 1))) S := by
    have := wT_sl (rX x (n + 1) q) (some ((1 : Nat) : Int)) none S
    rw [cut_drop, rX_drop _ _ _ _ (by omega)] at this
    exact this
  have s2 : opSl (wT (rX x (n + 1) q)) none (some 1) S = .ok (wT (rX x (n + q) 1)) S := by
    have := wT_sl (rX x (n + 1) q) none (some ((1 : Nat) : Int)) S
    rw [cut_take, rX_take _ _ _ _ (by omega), show n + 1 + (q - 1) = n + q by omega] at this
    exact this
  have s3 : opSl (wT (rX x 0 (n + 1))) (some 1) none S = .ok (wT (rX x 0 n)) S := by
    have := wT_sl (rX x 0 (n + 1)) (some ((1 : Nat) : Int)) none S
    rw [cut_drop, rX_drop _ _ _ _ (by omega), Nat.add_sub_cancel] at this
    exact this
  have s4 := wT_add (rX x (n + 1) (q - 1)) (rX x (n + q) 1) S (by rw [rX_len, rX_len]; omega)
  have s5 : rX x (n + 1) (q - 1) ++ rX x (n + q) 1 = rX x n q := by
    have e1 : rX x (n + q) 1 = rX x n 1 := by simp [rX, cutX, e]
    rw [e1, rX_app, show 1 + (q - 1) = q by omega]
  rw [s5] at s4
  simp [seB, s1, s2, s3, s4]
theorem se_loop {x : Nat → Int} {q f : Nat} (hq : 0 < q) (hl : q ≤ 100000) (hf : ∀ g, g < f → ¬ EP x g q) (he : EP x f q) (S : Store) : ∀ (j n m : Nat), f + j = n → whileF seC seB (m + j + 1) [some (wT (rX x n q)), some (wT (rX x 0 n))] S = .nx [some (wT (rX x f q)), some (wT (rX x 0 f))] S
  | 0, n, m, e => by
    have e : f = n := by omega
    subst e
    cases f with
    | zero => exact whileF_end (se_stop0 _ S)
    | succ f =>
      refine whileF_end ?_
      rw [se_cond hq]
      have : ¬ x f = x (f + q) := fun z => hf f (by omega) fun i hi => by
        by_cases c : i = f
        · subst c; exact z.symm
        · exact he i (by omega)
      simp [this]
  | j + 1, n, m, e => by
    obtain ⟨n, rfl⟩ : ∃ n', n = n' + 1 := ⟨n - 1, by omega⟩
    have hx : x n = x (n + q) := (he n (by omega)).symm
    have hc : seC [some (wT (rX x (n + 1) q)), some (wT (rX x 0 (n + 1)))] S = .ok true S := by rw [se_cond hq]; simp [hx]
    rw [whileF_step hc, se_step hq hl hx S]
    exact se_loop hq hl hf he S j n m (by omega)
/-- the pair of the turn and the word -/
def endT (x : Nat → Int) (f q : Nat) : T := .tup [wT (rX x f q), wT (rX x 0 f)]
section
variable {E : Env}
theorem send_ok [U_least_turn E] [U_short_end E] {w a : List Int} (ha : a ≠ []) (hl : a.length ≤ 1000) (hw : w.length ≤ 1000) {f q : Nat} (h : SF (ye a w) f q) (k : Nat) (S : Store) : E.C (k + 2) f_short_end [wT a, wT w] S = .ok (endT (ye a w) f q) S := by
  have hp := List.length_pos_iff.mpr ha
  have r := turn_sf (E := E) ha hl h k S
  have fw : f ≤ w.length := by
    rcases Nat.lt_or_ge w.length f with c | c
    · exact absurd ((ye_ep (w := w) ha).back hp h.ep) (h.first _ c)
    · exact c
  have ql : q ≤ a.length := Nat.le_of_dvd hp (Nat.dvd_of_mod_eq_zero (h.dvd (ye_ep (w := w) ha)))
  obtain ⟨m, hm⟩ := sWhile_fuel seC seB (w.length - f + 1) (by omega)
  have l := se_loop h.pos (show q ≤ 100000 by omega) h.first h.ep S (w.length - f) w.length m (by omega)
  have e : B_short_end E (k + 1) = sSeq (sAsg (cGc (cCall (E.C (k + 1) f_least_turn) (aCons (cVar 0) aNil))) (gName 0)) (sSeq (sWhile seC seB) (sSeq (sRet (cTup (aCons (cVar 0) (aCons (cVar 1) aNil)))) sNext)) := rfl
  rw [U_short_end.eq, e, hm, ← Nat.add_assoc]
  have hwT : wT w = wT (rX (ye a w) 0 w.length) := by rw [← ye_word]
  generalize wT w = W at hwT
  subst hwT
  simp -implicitDefEqProofs only [x_sSeq, x_sAsg, x_cGc, x_cCall, x_aCons, x_aNil, x_cVar, List.getElem?_cons_succ, List.getElem?_cons_zero, R.bind_ok, r, gc_same, R.bindS_ok, x_gName, List.set_cons_succ, List.set_cons_zero, SR.seq_nx, l]
  simp [endT]
theorem end_ok' [U_is_integer E] [U_is_natural E] [U_are_below E] [U_check_word E] [U_check_again E] [U_least_turn E] [U_short_end E] [U_end_form E] {w a : List Int} (ha : a ≠ []) (hl : a.length ≤ 1000) (hw : w.length ≤ 1000) (w4 : Wd 4 w) (a4 : Wd 4 a)
    {f q : Nat} (h : SF (ye a w) f q) (k : Nat) (S : Store) : E.C (k + 5) f_end_form [wT a, wT w] S = .ok (endT (ye a w) f q) S := by
  have c1 := check_word_ok (E := E) k (wT w) 4 S (kn_word S w (by omega))
  have c2 := check_again_ok (E := E) k (wT a) 4 S (kn_word S a (by omega))
  have c3 := send_ok (E := E) ha hl hw h (k + 2) S
  rw [wd_below w4, if_pos rfl] at c1
  have e0 : emptyT (wT a) = false := by cases a with
    | nil => exact absurd rfl ha
    | cons x a => rfl
  rw [wd_below a4, e0, if_pos (by decide)] at c2
  rw [U_end_form.eq]
  simp -implicitDefEqProofs [B_end_form, c1, c2, c3]
theorem end_bad1 [U_is_integer E] [U_is_natural E] [U_are_below E] [U_check_again E] [U_end_form E] {x y : T} (k : Nat) (S : Store) (hx : Kn S x) (hb : (belowT 4 x && !emptyT x) = false) : E.C (k + 5) f_end_form [x, y] S = .exc (E.ci c_InvalidWord) x S := by
  have c1 := check_again_ok (E := E) k x 4 S hx
  rw [hb, if_neg (by decide)] at c1
  rw [U_end_form.eq]
  simp -implicitDefEqProofs [B_end_form, c1, endOf]
theorem end_bad2 [U_is_integer E] [U_is_natural E] [U_are_below E] [U_check_word E] [U_check_again E] [U_end_form E] {x y : T} (k : Nat) (S : Store) (hx : Kn S x) (hb : (belowT 4 x && !emptyT x) = true) (hy : Kn S y) (hc : belowT 4 y = false) : E.C (k + 5) f_end_form [x, y] S = .exc (E.ci c_InvalidWord) y S := by
  have c1 := check_again_ok (E := E) k x 4 S hx
  have c2 := check_word_ok (E := E) k y 4 S hy
  rw [hb, if_pos rfl] at c1
  rw [hc, if_neg (by decide)] at c2
  rw [U_end_form.eq]
  simp -implicitDefEqProofs [B_end_form, c1, c2, endOf]
end
end EV
end
section
set_option Elab.async false
set_option linter.all false
set_option maxRecDepth 100000
set_option maxHeartbeats 4000000
set_option autoImplicit false
namespace EV
/-! the store in three parts: the pot, what stood, what is new -/
section
variable {n : Nat} {P P' G X : Store} (hP : Part n P)
include hP
theorem at_part (j : Nat) : (P ++ (G ++ X))[n + (G.length + j)]? = X[j]? := by
  rw [← List.append_assoc, List.getElem?_append_right (by rw [List.length_append, hP.len]; omega), List.length_append, hP.len]
  congr 1
  omega
theorem at_part0 : (P ++ (G ++ X))[n + G.length]? = X[0]? := at_part hP 0
theorem at_G (j : Nat) : (P ++ G)[n + j]? = G[j]? := by
  rw [List.getElem?_append_right (by rw [hP.len]; omega), hP.len]
  congr 1
  omega
variable (hP' : Part n P')
include hP'
theorem gcN {v : T} (hv : v.sco (n + G.length) = true) : gc (P ++ G) (P' ++ (G ++ X)) v = .ok v (P' ++ G) := by
  have := gc_part (G := G) (X := X) hP hP' hv
  rwa [List.append_assoc] at this
theorem gcBN (b : Bool) : gcB (P ++ G) (P' ++ (G ++ X)) b = .ok b (P' ++ G) := by
  have := gcB_part (G := G) (X := X) (b := b) hP hP'
  rwa [List.append_assoc] at this
theorem gcAt {j : Nat} {o : O} (hj : X[j]? = some o) (ho : o.sco (n + G.length) = true) : gc (P ++ G) (P' ++ (G ++ X)) (.loc (n + (G.length + j))) = .ok (.loc (n + G.length)) (P' ++ (G ++ [o])) := by
  have k : keeps (P ++ G) (P' ++ (G ++ X)) := by
    have := keeps_part (G := G) (X := X) hP hP'
    rwa [List.append_assoc] at this
  have l : (P ++ G).length = n + G.length := by rw [List.length_append, hP.len]
  unfold gc
  rw [if_pos k, l, if_neg (by simp [T.sco])]
  have e : (P' ++ (G ++ X))[n + (G.length + j)]? = some o := by rw [at_part hP', hj]
  have t : (P' ++ (G ++ X)).take (n + G.length) = P' ++ G := by
    rw [← l, ← List.append_assoc, take_part hP hP']
  simp only [e, ho, if_true, t, List.append_assoc]
end
@[simp] theorem x_cCallK (f : List T → Store → R T) (ps ks : List PySem.Str) (a k : AM) (τ : Loc) (S : Store) : cCallK f ps ks a k τ S = (a τ S).bind fun xs S1 => (k τ S1).bind fun ys S2 =>
  (match kwAll ks ys (ps.drop xs.length) with
  | some zs => f (xs ++ zs) S2
  | none => .stuck) := (rfl)
theorem sameD_mono : ∀ {n : Nat} {S : Store} {x y : T}, sameD n S x y → sameD (n + 1) S x y := fun {n} => by
  induction n with
  | zero => exact fun h => h.elim
  | succ n ih =>
    intro S x y h
    cases x <;> cases y <;> first | exact h | exact h.elim | skip
    · obtain ⟨h1, h2, h3⟩ := h
      exact ⟨h1, h2, fun i x y a b => ih (h3 i x y a b)⟩
    · obtain ⟨xs, ys, e1, e2, h1, h2, h3⟩ := h
      exact ⟨xs, ys, e1, e2, h1, h2, fun i x y a b => ih (h3 i x y a b)⟩
/-! trees of numbers, texts, truths, None, tuples -/
mutual
def okT : T → Bool
  | .non => true
  | .bl _ => true
  | .int _ => true
  | .str _ => true
  | .tup xs => decide (xs.length ≤ 1000000) && okTL xs
  | _ => false
def okTL : List T → Bool
  | [] => true
  | x :: xs => okT x && okTL xs
end
theorem okTL_mem : ∀ {xs : List T}, okTL xs = true → ∀ x ∈ xs, okT x = true
  | [], _, x, hx => by cases hx
  | y :: xs, h, x, hx => by
    simp only [okTL, Bool.and_eq_true] at h
    rcases List.mem_cons.mp hx with rfl | hx
    · exact h.1
    · exact okTL_mem h.2 x hx
theorem depthL_mem : ∀ {xs : List T} {x : T}, x ∈ xs → x.depth ≤ T.depthL xs
  | y :: xs, x, hx => by
    simp only [T.depthL]
    rcases List.mem_cons.mp hx with rfl | hx
    · omega
    · have := depthL_mem hx; omega
theorem kn_ok {S : Store} {x : T} (h : okT x = true) : kn S x = true := by cases x <;> first | rfl | cases h
theorem Kn_ok {S : Store} {x : T} (h : okT x = true) : Kn S x := ⟨kn_ok h, fun xs e => by
  subst e
  simp only [okT, Bool.and_eq_true, decide_eq_true_eq] at h
  exact ⟨h.1, fun y hy => kn_ok (okTL_mem h.2 y hy)⟩⟩
mutual
theorem sco_ok (k : Nat) : ∀ {x : T}, okT x = true → x.sco k = true
  | .non, _ => rfl
  | .bl _, _ => rfl
  | .int _, _ => rfl
  | .str _, _ => rfl
  | .tup xs, h => sco_okL k (xs := xs) (by simp only [okT, Bool.and_eq_true] at h; exact h.2)
theorem sco_okL (k : Nat) : ∀ {xs : List T}, okTL xs = true → T.scoL k xs = true
  | [], _ => rfl
  | x :: xs, h => by
    simp only [okTL, Bool.and_eq_true] at h
    simp only [T.scoL, Bool.and_eq_true]
    exact ⟨sco_ok k h.1, sco_okL k h.2⟩
end
theorem sameD_ok {S : Store} : ∀ (n : Nat) (x : T), okT x = true → x.depth < n → sameD n S x x
  | 0, _, _, h => by omega
  | n + 1, x, h, hd => by
    cases x with
    | tup xs =>
      simp only [okT, Bool.and_eq_true, decide_eq_true_eq] at h
      refine ⟨rfl, h.1, fun i a b e1 e2 => ?_⟩
      rw [e1] at e2
      cases e2
      have hm := List.mem_of_getElem? e1
      have := depthL_mem hm
      simp only [T.depth] at hd
      exact sameD_ok n a (okTL_mem h.2 a hm) (by omega)
    | non => exact True.intro
    | bl b => exact rfl
    | int b => exact rfl
    | str b => exact rfl
    | _ => cases h
theorem sameD_word (n : Nat) (S : Store) {ns : List Int} (h : ns.length ≤ 1000000) : sameD (n + 2) S (wT ns) (wT ns) := by
  refine ⟨rfl, by simpa using h, fun i x y h1 h2 => ?_⟩
  rw [h1] at h2
  cases h2
  obtain ⟨v, _, rfl⟩ := List.mem_map.mp (List.mem_of_getElem? h1)
  exact rfl
theorem sameD_form (n : Nat) (S : Store) {x : Nat → Int} {f q : Nat} (h1 : f ≤ 1000000) (h2 : q ≤ 1000000) : sameD (n + 3) S (formT x f q) (formT x f q) := by
  refine ⟨rfl, by simp, fun i a b e1 e2 => ?_⟩
  rw [e1] at e2
  cases e2
  match i, e1 with
  | 0, e1 => simp at e1; subst e1; exact sameD_word n S (by rw [cutX_len]; exact h1)
  | 1, e1 => simp at e1; subst e1; exact sameD_word n S (by rw [cutX_len]; exact h2)
  | i + 2, e1 => simp at e1
theorem sameD_lst {n : Nat} {S : Store} {m l : Nat} {xs ys : List T} (h1 : S[m]? = some (.lst xs)) (h2 : S[l]? = some (.lst ys)) (h : xs.length = ys.length) (h3 : xs.length ≤ 1000000) (h4 : ∀ (i : Nat) (x y : T), xs[i]? = some x → ys[i]? = some y → sameD n S x y) : sameD (n + 1) S (.loc m) (.loc l) := ⟨xs, ys, h1, h2, h, h3, h4⟩
theorem pl_form (x : Nat → Int) (f q : Nat) : pl (formT x f q) = true ∧ (formT x f q).depth ≤ 60 := by
  have a := pl_ints (cutX x 0 f)
  have b := pl_ints (cutX x f q)
  unfold formT wT
  simp [pl, plL, T.depth, T.depthL, a.1, b.1, a.2, b.2]
theorem pl_word (ns : List Int) : pl (wT ns) = true ∧ (wT ns).depth ≤ 60 := by
  have a := pl_ints ns
  unfold wT
  simp [pl, T.depth, a.1, a.2]
theorem wT_inj {a b : List Int} : wT a = wT b ↔ a = b := by
  unfold wT
  rw [T.tup.injEq]
  exact List.map_inj_right (fun x y e => by cases e; rfl)
/-- a loop over a list of the store that stays as it is -/
theorem x_forAt {n : Nat} {all : List T} {g : GM} {body : SM} {x : T} {xs : List T} {τ τ1 : Loc} {S : Store} (hs : lstN S n = some all) (h : g x τ = some τ1) : forL (.at n) all g body (x :: xs) τ S = loopK (body τ1 S) (forL (.at n) all g body xs) := by
  simp only [forL, Src.ok, hs, if_true, h]
  rfl
theorem x_forAt0 {n : Nat} {all : List T} {g : GM} {body : SM} {τ : Loc} {S : Store} (hs : lstN S n = some all) : forL (.at n) all g body [] τ S = .nx τ S := by simp only [forL, Src.ok, hs, if_true]
theorem cut_mid {α : Type} (xs : List α) {f s : Nat} (h : f + s ≤ xs.length) : cut xs (some (f : Int)) (some ((f : Int) + s)) = (xs.drop f).take s := by
  unfold cut sIx
  simp only
  rw [if_neg (by omega), if_neg (by omega)]
  congr 1
  · omega
  · congr 1
    omega
theorem ep_seen {x : Nat → Int} {n p g s : Nat} (h : EP x n p) (hp : 0 < p) (hg : g ≤ n) (hs : s ≤ p) : ((List.range (n + 3 * p - s - g)).all fun i => decide (x (g + i) = x (g + i + s))) = true ↔ EP x g s := by
  rw [List.all_eq_true]
  constructor
  · intro q i hi
    have q' : ∀ j, g ≤ j → j < n + 3 * p - s → x (j + s) = x j := fun j h1 h2 => by
      have := q (j - g) (List.mem_range.mpr (by omega))
      rw [decide_eq_true_eq, show g + (j - g) = j by omega] at this
      exact this.symm
    by_cases c : i < n + 3 * p - s
    · exact q' i hi c
    · have e := h.mul ((i - n) / p)
      have l := Nat.mod_lt (i - n) hp
      have d := Nat.mod_add_div (i - n) p
      rw [Nat.mul_comm] at d
      have e1 := e (n + (i - n) % p) (by omega)
      have e2 := e (n + (i - n) % p + s) (by omega)
      rw [show n + (i - n) % p + (i - n) / p * p = i by omega] at e1
      rw [show n + (i - n) % p + s + (i - n) / p * p = i + s by omega] at e2
      rw [e1, e2]
      exact q' _ (by omega) (by omega)
  · intro q i hi
    rw [decide_eq_true_eq]
    exact (q (g + i) (by omega)).symm
end EV
end
section
set_option Elab.async false
set_option linter.all false
set_option maxRecDepth 100000
set_option maxHeartbeats 4000000
set_option autoImplicit false
namespace K76
open EV
def topS (i : Nat) : PySem.Stmt := PySem.Challenge.pw_wholenuclei_k76_end_forms.main.body.getD i (.Pass ⟨0, 0, 0, 0⟩)
def d_is_integer : Def := ⟨"is_integer", ["value"], ["value"], topS 5⟩
def d_is_natural : Def := ⟨"is_natural", ["value"], ["value"], topS 6⟩
def d_are_below : Def := ⟨"are_below", ["value", "many"], ["value", "many", "own"], topS 7⟩
def d_check_word : Def := ⟨"check_word", ["k", "word"], ["k", "word"], topS 8⟩
def d_check_again : Def := ⟨"check_again", ["k", "again"], ["k", "again"], topS 9⟩
def d_least_turn : Def := ⟨"least_turn", ["again"], ["again", "size"], topS 11⟩
def d_short_end : Def := ⟨"short_end", ["again", "word"], ["again", "word"], topS 12⟩
def d_end_form : Def := ⟨"end_form", ["again", "word"], ["again", "word"], topS 13⟩
def d__law_new : Def := ⟨"_law_new", ["script"], ["script"], topS 15⟩
def d__law_draw : Def := ⟨"_law_draw", ["pot", "many"], ["pot", "many", "cell", "digit", "both"], topS 16⟩
def d__law_same : Def := ⟨"_law_same", ["got", "due"], ["got", "due", "at"], topS 17⟩
def d__law_word : Def := ⟨"_law_word", ["pot", "k", "most"], ["pot", "k", "most", "at"], topS 18⟩
def d__law_end : Def := ⟨"_law_end", ["again", "word"], ["again", "word", "many", "line", "size", "ahead", "turn"], topS 19⟩
def d__law_last : Def := ⟨"_law_last", ["end", "many"], ["end", "many", "again", "word", "line"], topS 20⟩
def d__law_refused : Def := ⟨"_law_refused", ["again", "word"], ["again", "word", "kept", "error"], topS 21⟩
def d_law : Def := ⟨"law", ["script"], ["script", "pot", "turn", "k", "again", "word", "due", "step", "turned", "got", "other", "more", "wrong"], topS 22⟩
def SUB0 : Nat → Bool
  | 0 => true
  | 1 => false
  | _ => false
def SUB1 : Nat → Bool
  | 0 => true
  | 1 => true
  | _ => false
def SUB : Nat → Nat → Bool
  | 0 => SUB0
  | _ => SUB1
def pr : Prog := ⟨[d_is_integer, d_is_natural, d_are_below, d_check_word, d_check_again, d_least_turn, d_short_end, d_end_form, d__law_new, d__law_draw, d__law_same, d__law_word, d__law_end, d__law_last, d__law_refused, d_law], [("is_integer", .fn 0), ("is_natural", .fn 1), ("are_below", .fn 2), ("check_word", .fn 3), ("check_again", .fn 4), ("least_turn", .fn 5), ("short_end", .fn 6), ("end_form", .fn 7), ("_law_new", .fn 8), ("_law_draw", .fn 9), ("_law_same", .fn 10), ("_law_word", .fn 11), ("_law_end", .fn 12), ("_law_last", .fn 13), ("_law_refused", .fn 14), ("MOST_LETTERS", .con (.int 4)), ("InvalidWord", .cls 1), ("len", .blt .len), ("range", .blt .range), ("isinstance", .blt .isinstance), ("int", .blt .int), ("bool", .blt .bool), ("str", .blt .str), ("list", .blt .list), ("tuple", .blt .tuple), ("dict", .blt .dict), ("all", .blt .all)], SUB, [(7, 0, ["word", "again"])]⟩
def CI : Nat → Nat
  | 0 => 0
  | 3 => 1
  | _ => 1000
def FI : Nat → Nat
  | 670 => 0
  | 678 => 1
  | 556 => 2
  | 601 => 3
  | 586 => 4
  | 837 => 5
  | 1033 => 6
  | 618 => 7
  | 282 => 8
  | 100 => 9
  | 406 => 10
  | 516 => 11
  | 109 => 12
  | 210 => 13
  | 373 => 14
  | 801 => 15
  | _ => 1000000
noncomputable def E : Env := ⟨fun k n => callF pr k (FI n), SUB, CI⟩
theorem e_is_integer (k : Nat) : denSs (callF pr k) DEEP (pr.cxt d_is_integer) (L2.defBody d_is_integer.st) = B_is_integer E k := by kernel_rfl
instance u_is_integer : U_is_integer E := ⟨fun k a0 S => run_def' (f := d_is_integer) (i := 0) (vs := [a0]) (S := S) rfl rfl (e_is_integer k)⟩
theorem e_is_natural (k : Nat) : denSs (callF pr k) DEEP (pr.cxt d_is_natural) (L2.defBody d_is_natural.st) = B_is_natural E k := by kernel_rfl
instance u_is_natural : U_is_natural E := ⟨fun k a0 S => run_def' (f := d_is_natural) (i := 1) (vs := [a0]) (S := S) rfl rfl (e_is_natural k)⟩
theorem e_are_below (k : Nat) : denSs (callF pr k) DEEP (pr.cxt d_are_below) (L2.defBody d_are_below.st) = B_are_below E k := by kernel_rfl
instance u_are_below : U_are_below E := ⟨fun k a0 b0 S => run_def' (f := d_are_below) (i := 2) (vs := [a0, b0]) (S := S) rfl rfl (e_are_below k)⟩
theorem e_check_word (k : Nat) : denSs (callF pr k) DEEP (pr.cxt d_check_word) (L2.defBody d_check_word.st) = B_check_word E k := by kernel_rfl
instance u_check_word : U_check_word E := ⟨fun k a0 b0 S => run_def' (f := d_check_word) (i := 3) (vs := [a0, b0]) (S := S) rfl rfl (e_check_word k)⟩
theorem e_check_again (k : Nat) : denSs (callF pr k) DEEP (pr.cxt d_check_again) (L2.defBody d_check_again.st) = B_check_again E k := by kernel_rfl
instance u_check_again : U_check_again E := ⟨fun k a0 b0 S => run_def' (f := d_check_again) (i := 4) (vs := [a0, b0]) (S := S) rfl rfl (e_check_again k)⟩
theorem e_least_turn (k : Nat) : denSs (callF pr k) DEEP (pr.cxt d_least_turn) (L2.defBody d_least_turn.st) = B_least_turn E k := by kernel_rfl
instance u_least_turn : U_least_turn E := ⟨fun k a0 S => run_def' (f := d_least_turn) (i := 5) (vs := [a0]) (S := S) rfl rfl (e_least_turn k)⟩
theorem e_short_end (k : Nat) : denSs (callF pr k) DEEP (pr.cxt d_short_end) (L2.defBody d_short_end.st) = B_short_end E k := by kernel_rfl
instance u_short_end : U_short_end E := ⟨fun k a0 b0 S => run_def' (f := d_short_end) (i := 6) (vs := [a0, b0]) (S := S) rfl rfl (e_short_end k)⟩
theorem e_end_form (k : Nat) : denSs (callF pr k) DEEP (pr.cxt d_end_form) (L2.defBody d_end_form.st) = B_end_form E k := by kernel_rfl
instance u_end_form : U_end_form E := ⟨fun k a0 b0 S => run_def' (f := d_end_form) (i := 7) (vs := [a0, b0]) (S := S) rfl rfl (e_end_form k)⟩
theorem e__law_new (k : Nat) : denSs (callF pr k) DEEP (pr.cxt d__law_new) (L2.defBody d__law_new.st) = B__law_new E k := by kernel_rfl
instance u__law_new : U__law_new E := ⟨fun k a0 S => run_def' (f := d__law_new) (i := 8) (vs := [a0]) (S := S) rfl rfl (e__law_new k)⟩
theorem e__law_draw (k : Nat) : denSs (callF pr k) DEEP (pr.cxt d__law_draw) (L2.defBody d__law_draw.st) = B__law_draw E k := by kernel_rfl
instance u__law_draw : U__law_draw E := ⟨fun k a0 b0 S => run_def' (f := d__law_draw) (i := 9) (vs := [a0, b0]) (S := S) rfl rfl (e__law_draw k)⟩
theorem e__law_same (k : Nat) : denSs (callF pr k) DEEP (pr.cxt d__law_same) (L2.defBody d__law_same.st) = B__law_same E k := by kernel_rfl
instance u__law_same : U__law_same E := ⟨fun k a0 b0 S => run_def' (f := d__law_same) (i := 10) (vs := [a0, b0]) (S := S) rfl rfl (e__law_same k)⟩
theorem e__law_word (k : Nat) : denSs (callF pr k) DEEP (pr.cxt d__law_word) (L2.defBody d__law_word.st) = B__law_word E k := by kernel_rfl
instance u__law_word : U__law_word E := ⟨fun k a0 b0 c0 S => run_def' (f := d__law_word) (i := 11) (vs := [a0, b0, c0]) (S := S) rfl rfl (e__law_word k)⟩
theorem e__law_end (k : Nat) : denSs (callF pr k) DEEP (pr.cxt d__law_end) (L2.defBody d__law_end.st) = B__law_end_v1 E k := by kernel_rfl
instance u__law_end : U__law_end_v1 E := ⟨fun k a0 b0 S => run_def' (f := d__law_end) (i := 12) (vs := [a0, b0]) (S := S) rfl rfl (e__law_end k)⟩
theorem e__law_last (k : Nat) : denSs (callF pr k) DEEP (pr.cxt d__law_last) (L2.defBody d__law_last.st) = B__law_last E k := by kernel_rfl
instance u__law_last : U__law_last E := ⟨fun k a0 b0 S => run_def' (f := d__law_last) (i := 13) (vs := [a0, b0]) (S := S) rfl rfl (e__law_last k)⟩
theorem e__law_refused (k : Nat) : denSs (callF pr k) DEEP (pr.cxt d__law_refused) (L2.defBody d__law_refused.st) = B__law_refused_v3 E k := by kernel_rfl
instance u__law_refused : U__law_refused_v3 E := ⟨fun k a0 b0 S => run_def' (f := d__law_refused) (i := 14) (vs := [a0, b0]) (S := S) rfl rfl (e__law_refused k)⟩
theorem e_law (k : Nat) : denSs (callF pr k) DEEP (pr.cxt d_law) (L2.defBody d_law.st) = B_law_v74 E k := by kernel_rfl
instance u_law : U_law_v74 E := ⟨fun k a0 S => run_def' (f := d_law) (i := 15) (vs := [a0]) (S := S) rfl rfl (e_law k)⟩
end K76
end
section
set_option Elab.async false
set_option linter.all false
set_option maxRecDepth 100000
set_option maxHeartbeats 4000000
set_option autoImplicit false
namespace K76
open EV
abbrev D := drawsA E
/-- a drawn word -/
theorem word_ok (k : Nat) (P G : Store) (hP : PotA P) (m most : Int) (h1 : 1 ≤ m) (h2 : m < 2 ^ 64) (h3 : 0 ≤ most) (h4 : most ≤ 1000) : ∃ ns P', E.C (k + 2) f__law_word [.loc 1, .int m, .int most] (P ++ G) = .ok (wT ns) (P' ++ G) ∧ PotA P' ∧ (ns.length : Int) ≤ most ∧ Wd m ns := by
  obtain ⟨r1, P1, d1, h1', b1⟩ := D.draw k P G (most + 1) hP (by omega) (by omega)
  have i1 : iRg1 (cCall (E.C (k + 1) f__law_draw) (aCons (cVar 0) (aCons (cBin opAdd (cVar 2) (cK (.int 1))) aNil))) [some (.loc 1), some (.int m), some (.int most), none] (P ++ G) = .ok (rgT 0 r1, .fix) (P1 ++ G) :=
    iRg1_ok (S1 := P1 ++ G) (j := r1) (by simp [d1]) (by omega) (by omega)
  obtain ⟨ns, P2, e2, hp2, l2, w4⟩ := D.word (m := m) (vs := [3]) (g := gName 3) (te := cGc (cCall (E.C (k + 1) f__law_draw) (aCons (cVar 0) (aCons (cVar 1) aNil)))) i1 h1' (by rw [rgT_len]; omega) fun x P _ hp => by
    obtain ⟨r, P', d, h, b⟩ := D.draw k P G m hp h1 h2
    refine ⟨_, rfl, r, P', ?_, h, b⟩
    simp [wipe, d, D.gc0 hp h (v := .int r) (G := G) rfl]
  rw [rgT_len] at l2
  have g2 := D.gc1 hP hp2 (v := wT ns) (G := G) (X := [.lst (ns.map T.int)]) (wT_sco _ _)
  refine ⟨ns, P2, ?_, hp2, by omega, w4⟩
  rw [U__law_word.eq]
  simp -implicitDefEqProofs [B__law_word, e2, g2, -x_cUn, -List.append_assoc]
/-- (draw,) + word -/
theorem again_ok (k : Nat) (P G : Store) (hP : PotA P) (m : Int) (h1 : 1 ≤ m) (h2 : m ≤ 4) : ∃ (v : Nat) (P1 : Store) (ns : List Int) (P2 : Store), E.C (k + 2) f__law_draw [.loc 1, .int m] (P ++ G) = .ok (.int v) (P1 ++ G) ∧ E.C (k + 2) f__law_word [.loc 1, .int m, .int 5] (P1 ++ G) = .ok (wT ns) (P2 ++ G) ∧ PotA P2 ∧
    (∀ S, opAdd (.tup [.int v]) (wT ns) S = .ok (wT ((v : Int) :: ns)) S) ∧ ns.length ≤ 5 ∧ Wd 4 ((v : Int) :: ns) := by
  obtain ⟨v, P1, d, hp1, b⟩ := D.draw (k + 1) P G m hP h1 (by omega)
  obtain ⟨ns, P2, e, hp2, l, w⟩ := word_ok k P1 G hp1 m 5 h1 (by omega) (by omega) (by omega)
  refine ⟨v, P1, ns, P2, d, e, hp2, fun S => ?_, by omega, fun z hz => ?_⟩
  · have := wT_add [(v : Int)] ns S (by simp; omega)
    exact this
  · rcases List.mem_cons.mp hz with rfl | hz
    · omega
    · exact (w.mono h2) z hz
/-! ### the law's own short form -/
noncomputable def shI : SM := (sSeq (sIf (cGcB (cBl (cBin opEq (cSl (cVar 5) oNone (oSome (cBin opSub (cUn bLen (cVar 5)) (cVar 6)))) (cSl (cVar 5) (oSome (cVar 6)) oNone)))) (sSeq (sRet (cTup (aCons (cSl (cVar 5) (oSome (cBin opSub (cUn bLen (cVar 5)) (cVar 6))) oNone) (aCons (cSl (cVar 3) (oSome (cBin opSub (cUn bLen (cVar 3)) (cVar 4))) oNone) aNil)))) sNext) sNext) sNext)
noncomputable def shO : SM := (sSeq (sAsg (cGc (cSl (cVar 3) oNone (oSome (cBin opSub (cUn bLen (cVar 3)) (cVar 4))))) (gName 5)) (sSeq (sFor (iRg2 (cK (.int 1)) (cBin opAdd (cUn bLen (cVar 0)) (cK (.int 1)))) (gName 6) shI) sNext))
section
variable {w a : List Int} (ha : a ≠ []) (hl : a.length ≤ 100) (hw : w.length ≤ 100) (S : Store)
include ha hl hw
theorem ahead_eq {x : Nat → Int} {L g s : Nat} (h : g + s ≤ L) : (rX x (g + s) (L - g - s) = rX x g (L - g - s)) ↔ ((List.range (L - s - g)).all fun i => decide (x (g + i) = x (g + i + s))) = true := by
  rw [rX_inj, List.all_eq_true]
  constructor
  · intro e i hi
    rw [List.mem_range] at hi
    have e1 := cutX_get x (g + s) (L - g - s) i (by omega)
    have e2 := cutX_get x g (L - g - s) i (by omega)
    rw [e, e2] at e1
    rw [decide_eq_true_eq, show g + i + s = g + s + i by omega]
    exact Option.some.inj e1
  · intro q
    refine cutX_eq (cutX_len _ _ _) fun i hi => ?_
    rw [cutX_get _ _ _ _ hi]
    have := q i (List.mem_range.mpr (by omega))
    rw [decide_eq_true_eq] at this
    rw [this, show g + i + s = g + s + i by omega]
/-- what is asked in a turn: whether the letters come again from g on -/
theorem ask_ok (x : Nat → Int) (L g s : Nat) (h : g + s ≤ L) (hL : L ≤ 10000) (m x3 : T) : ∃ b, cGcB (cBl (cBin opEq (cSl (cVar 5) oNone (oSome (cBin opSub (cUn bLen (cVar 5)) (cVar 6)))) (cSl (cVar 5) (oSome (cVar 6)) oNone))) [some (wT a), some (wT w), some m, some x3, some (.int g), some (wT (rX x g (L - g))), some (.int s)] S = .ok b S ∧
    (b = true ↔ ((List.range (L - s - g)).all fun i => decide (x (g + i) = x (g + i + s))) = true) := by
  have ln : ∀ S, bLen (wT (rX x g (L - g))) S = .ok (.int ((L - g : Nat) : Int)) S := fun S => by rw [wT_len, rX_len]
  have s1 : ∀ S, opSl (wT (rX x g (L - g))) none (some (((L - g : Nat) : Int) - s)) S = .ok (wT (rX x (g + s) (L - g - s))) S := fun S => by
    have := wT_sl (rX x g (L - g)) none (some ((L - g - s : Nat) : Int)) S
    rw [cut_take, rX_take _ _ _ _ (by omega), show g + (L - g - (L - g - s)) = g + s by omega] at this
    rw [show ((L - g : Nat) : Int) - s = ((L - g - s : Nat) : Int) by omega]
    exact this
  have s2 : ∀ S, opSl (wT (rX x g (L - g))) (some (s : Int)) none S = .ok (wT (rX x g (L - g - s))) S := fun S => by
    have := wT_sl (rX x g (L - g)) (some (s : Int)) none S
    rw [cut_drop, rX_drop _ _ _ _ (by omega)] at this
    exact this
  have e := opEq_pl (S := S) (pl_word (rX x (g + s) (L - g - s))).1 (pl_word (rX x g (L - g - s))).1 (pl_word _).2 (pl_word _).2
  refine ⟨T.eqv (wT (rX x (g + s) (L - g - s))) (wT (rX x g (L - g - s))), ?_, ?_⟩
  · simp -implicitDefEqProofs [ln, s1, s2, e]
  · rw [eqv_pl (pl_word _).1 (pl_word _).1, wT_inj, ahead_eq ha hl hw h]
theorem ask_ep {g s : Nat} (hg : g ≤ w.length) (hs : s ≤ a.length) (m x3 : T) : ∃ b, cGcB (cBl (cBin opEq (cSl (cVar 5) oNone (oSome (cBin opSub (cUn bLen (cVar 5)) (cVar 6)))) (cSl (cVar 5) (oSome (cVar 6)) oNone))) [some (wT a), some (wT w), some m, some x3, some (.int g), some (wT (rX (ye a w) g (w.length + 3 * a.length - g))), some (.int s)] S = .ok b S ∧
    (b = true ↔ EP (ye a w) g s) := by
  obtain ⟨b, e, hb⟩ := ask_ok ha hl hw S (ye a w) (w.length + 3 * a.length) g s (by omega) (by omega) m x3
  exact ⟨b, e, hb.trans (ep_seen (ye_ep (w := w) ha) (List.length_pos_iff.mpr ha) hg hs)⟩
theorem fq_le {f q : Nat} (h : SF (ye a w) f q) : f ≤ w.length ∧ q ≤ a.length := by
  have hp := List.length_pos_iff.mpr ha
  refine ⟨?_, Nat.le_of_dvd hp (Nat.dvd_of_mod_eq_zero (h.dvd (ye_ep (w := w) ha)))⟩
  rcases Nat.lt_or_ge w.length f with c | c
  · exact absurd ((ye_ep (w := w) ha).back hp h.ep) (h.first _ c)
  · exact c
theorem inner_hit {f q : Nat} (h : SF (ye a w) f q) (all : List T) (m : T) : ∀ (j s : Nat) (o6 : Option T), s + j = q → 1 ≤ s → forL .fix all (gName 6) shI (rgT s ((a.length : Int) + 1)) [some (wT a), some (wT w), some m, some (wT (rX (ye a w) 0 (w.length + 3 * a.length))), some (.int f), some (wT (rX (ye a w) f (w.length + 3 * a.length - f))), o6] S = .rt (endT (ye a w) f q) S := by
  obtain ⟨fw, ql⟩ := fq_le ha hl hw h
  intro j
  induction j with
  | zero =>
    intro s o6 e h1
    have e : s = q := by omega
    subst e
    rw [rgT_cons (by omega), x_for1 (x_gName _ _ _)]
    obtain ⟨b, ea, hb⟩ := ask_ep ha hl hw S fw ql m (wT (rX (ye a w) 0 (w.length + 3 * a.length)))
    rw [hb.mpr h.ep] at ea
    have l1 : ∀ S, bLen (wT (rX (ye a w) f (w.length + 3 * a.length - f))) S = .ok (.int ((w.length + 3 * a.length - f : Nat) : Int)) S := fun S => by rw [wT_len, rX_len]
    have l2 : ∀ S, bLen (wT (rX (ye a w) 0 (w.length + 3 * a.length))) S = .ok (.int ((w.length + 3 * a.length : Nat) : Int)) S := fun S => by rw [wT_len, rX_len]
    have s1 : opSl (wT (rX (ye a w) f (w.length + 3 * a.length - f))) (some (((w.length + 3 * a.length - f : Nat) : Int) - s)) none S = .ok (wT (rX (ye a w) f s)) S := by
      have := wT_sl (rX (ye a w) f (w.length + 3 * a.length - f)) (some ((w.length + 3 * a.length - f - s : Nat) : Int)) none S
      rw [cut_drop, rX_drop _ _ _ _ (by omega), show w.length + 3 * a.length - f - (w.length + 3 * a.length - f - s) = s by omega] at this
      rw [show ((w.length + 3 * a.length - f : Nat) : Int) - s = ((w.length + 3 * a.length - f - s : Nat) : Int) by omega]
      exact this
    have s2 : opSl (wT (rX (ye a w) 0 (w.length + 3 * a.length))) (some (((w.length + 3 * a.length : Nat) : Int) - f)) none S = .ok (wT (rX (ye a w) 0 f)) S := by
      have := wT_sl (rX (ye a w) 0 (w.length + 3 * a.length)) (some ((w.length + 3 * a.length - f : Nat) : Int)) none S
      rw [cut_drop, rX_drop _ _ _ _ (by omega), show w.length + 3 * a.length - (w.length + 3 * a.length - f) = f by omega] at this
      rw [show ((w.length + 3 * a.length : Nat) : Int) - f = ((w.length + 3 * a.length - f : Nat) : Int) by omega]
      exact this
    show loopK (shI [some (wT a), some (wT w), some m, some (wT (rX (ye a w) 0 (w.length + 3 * a.length))), some (.int f), some (wT (rX (ye a w) f (w.length + 3 * a.length - f))), some (.int s)] S) _ = _
    simp -implicitDefEqProofs only [shI, x_sSeq, x_sIf, ea, R.bindS_ok, if_true, x_sRet, x_cTup, x_aCons, x_aNil, x_cSl, x_cVar, x_cUn, List.getElem?_cons_succ, List.getElem?_cons_zero, x_oNone, x_oSome, R.bind_ok, x_cBin, l1, l2, x_opSubI, s1, s2, List.length_cons, List.length_nil, line_lit]
    simp [endT]
  | succ j ih =>
    intro s o6 e h1
    rw [rgT_cons (by omega), x_for1 (x_gName _ _ _)]
    obtain ⟨b, ea, hb⟩ := ask_ep ha hl hw S fw (show s ≤ a.length by omega) m (wT (rX (ye a w) 0 (w.length + 3 * a.length)))
    have nb : b = false := by
      cases b with
      | false => rfl
      | true => exact absurd (hb.mp rfl) (h.least s h1 (by omega))
    subst nb
    have e1 : shI [some (wT a), some (wT w), some m, some (wT (rX (ye a w) 0 (w.length + 3 * a.length))), some (.int f), some (wT (rX (ye a w) f (w.length + 3 * a.length - f))), some (.int s)] S = .nx [some (wT a), some (wT w), some m, some (wT (rX (ye a w) 0 (w.length + 3 * a.length))), some (.int f), some (wT (rX (ye a w) f (w.length + 3 * a.length - f))), some (.int s)] S := by
      simp -implicitDefEqProofs only [shI, x_sSeq, x_sIf, ea, R.bindS_ok, x_sNext, SR.seq_nx]
      rfl
    show loopK (shI [some (wT a), some (wT w), some m, some (wT (rX (ye a w) 0 (w.length + 3 * a.length))), some (.int f), some (wT (rX (ye a w) f (w.length + 3 * a.length - f))), some (.int s)] S) _ = _
    rw [e1, loopK_nx]
    exact ih (s + 1) _ (by omega) (by omega)
theorem inner_miss {f q g : Nat} (h : SF (ye a w) f q) (hg : g < f) (all : List T) (m : T) : ∀ (j s : Nat) (o6 : Option T), s + j = a.length + 1 → 1 ≤ s → ∃ o6', forL .fix all (gName 6) shI (rgT s ((a.length : Int) + 1)) [some (wT a), some (wT w), some m, some (wT (rX (ye a w) 0 (w.length + 3 * a.length))), some (.int g), some (wT (rX (ye a w) g (w.length + 3 * a.length - g))), o6] S =
    .nx [some (wT a), some (wT w), some m, some (wT (rX (ye a w) 0 (w.length + 3 * a.length))), some (.int g), some (wT (rX (ye a w) g (w.length + 3 * a.length - g))), o6'] S := by
  obtain ⟨fw, ql⟩ := fq_le ha hl hw h
  intro j
  induction j with
  | zero =>
    intro s o6 e h1
    rw [rgT_nil (by omega), x_for0]
    exact ⟨_, rfl⟩
  | succ j ih =>
    intro s o6 e h1
    rw [rgT_cons (by omega), x_for1 (x_gName _ _ _)]
    obtain ⟨b, ea, hb⟩ := ask_ep ha hl hw S (show g ≤ w.length by omega) (show s ≤ a.length by omega) m (wT (rX (ye a w) 0 (w.length + 3 * a.length)))
    have nb : b = false := by
      cases b with
      | false => rfl
      | true => exact absurd ((hb.mp rfl).back h1 h.ep) (h.first g hg)
    subst nb
    have e1 : shI [some (wT a), some (wT w), some m, some (wT (rX (ye a w) 0 (w.length + 3 * a.length))), some (.int g), some (wT (rX (ye a w) g (w.length + 3 * a.length - g))), some (.int s)] S = .nx [some (wT a), some (wT w), some m, some (wT (rX (ye a w) 0 (w.length + 3 * a.length))), some (.int g), some (wT (rX (ye a w) g (w.length + 3 * a.length - g))), some (.int s)] S := by
      simp -implicitDefEqProofs only [shI, x_sSeq, x_sIf, ea, R.bindS_ok, x_sNext, SR.seq_nx]
      rfl
    show ∃ o6', loopK (shI [some (wT a), some (wT w), some m, some (wT (rX (ye a w) 0 (w.length + 3 * a.length))), some (.int g), some (wT (rX (ye a w) g (w.length + 3 * a.length - g))), some (.int s)] S) _ = _
    rw [e1]
    simp only [loopK_nx]
    exact ih (s + 1) _ (by omega) (by omega)
theorem i6_ok (o4 o5 o6 : Option T) (m x3 : T) : iRg2 (cK (.int 1)) (cBin opAdd (cUn bLen (cVar 0)) (cK (.int 1))) [some (wT a), some (wT w), some m, some x3, o4, o5, o6] S = .ok (rgT 1 ((a.length : Int) + 1), .fix) S :=
  iRg2_ok (S1 := S) (by simp) (by simp [wT_len]) (by omega) (by omega) (by omega) (by omega)
theorem ahead_ok {g : Nat} (hg : g ≤ w.length) (m : T) (o5 o6 : Option T) : sAsg (cGc (cSl (cVar 3) oNone (oSome (cBin opSub (cUn bLen (cVar 3)) (cVar 4))))) (gName 5) [some (wT a), some (wT w), some m, some (wT (rX (ye a w) 0 (w.length + 3 * a.length))), some (.int g), o5, o6] S =
    .nx [some (wT a), some (wT w), some m, some (wT (rX (ye a w) 0 (w.length + 3 * a.length))), some (.int g), some (wT (rX (ye a w) g (w.length + 3 * a.length - g))), o6] S := by
  have l2 : ∀ S, bLen (wT (rX (ye a w) 0 (w.length + 3 * a.length))) S = .ok (.int ((w.length + 3 * a.length : Nat) : Int)) S := fun S => by rw [wT_len, rX_len]
  have s1 : opSl (wT (rX (ye a w) 0 (w.length + 3 * a.length))) none (some (((w.length + 3 * a.length : Nat) : Int) - g)) S = .ok (wT (rX (ye a w) g (w.length + 3 * a.length - g))) S := by
    have := wT_sl (rX (ye a w) 0 (w.length + 3 * a.length)) none (some ((w.length + 3 * a.length - g : Nat) : Int)) S
    rw [cut_take, rX_take _ _ _ _ (by omega), show 0 + (w.length + 3 * a.length - (w.length + 3 * a.length - g)) = g by omega] at this
    rw [show ((w.length + 3 * a.length : Nat) : Int) - g = ((w.length + 3 * a.length - g : Nat) : Int) by omega]
    exact this
  simp -implicitDefEqProofs only [x_sAsg, x_cGc, x_cSl, x_cVar, x_cUn, List.getElem?_cons_succ, List.getElem?_cons_zero, x_oNone, x_oSome, R.bind_ok, x_cBin, l2, x_opSubI, s1, gc_same, R.bindS_ok, x_gName, List.set_cons_succ, List.set_cons_zero]
theorem outer {f q : Nat} (h : SF (ye a w) f q) (all : List T) (m : T) : ∀ (j g : Nat) (o4 o5 o6 : Option T), g + j = f → forL .fix all (gName 4) shO (rgT g ((w.length : Int) + 1)) [some (wT a), some (wT w), some m, some (wT (rX (ye a w) 0 (w.length + 3 * a.length))), o4, o5, o6] S = .rt (endT (ye a w) f q) S := by
  obtain ⟨fw, ql⟩ := fq_le ha hl hw h
  intro j
  induction j with
  | zero =>
    intro g o4 o5 o6 e
    have e : g = f := by omega
    subst e
    rw [rgT_cons (by omega), x_for1 (x_gName _ _ _)]
    have i := inner_hit ha hl hw S h (rgT 1 ((a.length : Int) + 1)) m (q - 1) 1 o6 (by have := h.pos; omega) (by omega)
    show loopK (shO [some (wT a), some (wT w), some m, some (wT (rX (ye a w) 0 (w.length + 3 * a.length))), some (.int g), o5, o6] S) _ = _
    have i' : forL .fix (rgT 1 ((a.length : Int) + 1)) (gName 6) shI (rgT 1 ((a.length : Int) + 1)) [some (wT a), some (wT w), some m, some (wT (rX (ye a w) 0 (w.length + 3 * a.length))), some (.int g), some (wT (rX (ye a w) g (w.length + 3 * a.length - g))), o6] S = .rt (endT (ye a w) g q) S := i
    rw [shO, x_sSeq, ahead_ok ha hl hw S fw, SR.seq_nx, x_sSeq, x_sFor, i6_ok ha hl hw, R.bindS_ok, i', SR.seq_rt, loopK_rt]
  | succ j ih =>
    intro g o4 o5 o6 e
    rw [rgT_cons (by omega), x_for1 (x_gName _ _ _)]
    obtain ⟨o6', i⟩ := inner_miss ha hl hw S h (show g < f by omega) (rgT 1 ((a.length : Int) + 1)) m a.length 1 o6 (by omega) (by omega)
    show loopK (shO [some (wT a), some (wT w), some m, some (wT (rX (ye a w) 0 (w.length + 3 * a.length))), some (.int g), o5, o6] S) _ = _
    have i' : forL .fix (rgT 1 ((a.length : Int) + 1)) (gName 6) shI (rgT 1 ((a.length : Int) + 1)) [some (wT a), some (wT w), some m, some (wT (rX (ye a w) 0 (w.length + 3 * a.length))), some (.int g), some (wT (rX (ye a w) g (w.length + 3 * a.length - g))), o6] S = _ := i
    rw [shO, x_sSeq, ahead_ok ha hl hw S (show g ≤ w.length by omega), SR.seq_nx, x_sSeq, x_sFor, i6_ok ha hl hw, R.bindS_ok, i', SR.seq_nx, x_sNext, loopK_nx]
    exact ih (g + 1) _ _ o6' (by omega)
theorem line_ok {j n : Nat} (h1 : 1 ≤ j) (h2 : j ≤ 1000) (hn : n ≤ w.length + a.length * j) : ∃ A : List Int, opMul (wT a) (.int (j : Int)) S = .ok (wT A) S ∧ opAdd (wT A) (wT w) S = .ok (wT (A ++ w)) S ∧ bLen (wT (A ++ w)) S = .ok (.int (A ++ w).length) S ∧ opSl (wT (A ++ w)) (some (((A ++ w).length : Int) - n)) none S = .ok (wT (rX (ye a w) 0 n)) S := by
  have hA : ((List.replicate j a).flatten ++ w).length = a.length * j + w.length := by rw [List.length_append, cat_len]
  have q : a.length * j ≤ 100 * 1000 := Nat.mul_le_mul hl h2
  refine ⟨(List.replicate j a).flatten, wT_mul a S h1 h2 (by omega), wT_add _ _ S (by rw [cat_len]; omega), wT_len _ _, ?_⟩
  have := wT_sl ((List.replicate j a).flatten ++ w) (some ((((List.replicate j a).flatten ++ w).length - n : Nat) : Int)) none S
  rw [cut_drop, ye_line ha (by omega)] at this
  rw [show ((((List.replicate j a).flatten ++ w).length : Int) - n) = ((((List.replicate j a).flatten ++ w).length - n : Nat) : Int) by rw [hA]; omega]
  exact this
theorem end_due (k : Nat) {f q : Nat} (h : SF (ye a w) f q) : E.C (k + 1) f__law_end_v1 [wT a, wT w] S = .ok (endT (ye a w) f q) S := by
  have hp := List.length_pos_iff.mpr ha
  have e : B__law_end_v1 E k = (sSeq (sAsg (cGc (cBin opAdd (cUn bLen (cVar 1)) (cBin opMul (cK (.int 3)) (cUn bLen (cVar 0))))) (gName 2)) (sSeq (sAsg (cGc (cBin opAdd (cBin opMul (cVar 0) (cBin opAdd (cK (.int 2)) (cBin opDiv (cVar 2) (cUn bLen (cVar 0))))) (cVar 1))) (gName 3)) (sSeq (sAsg (cGc (cSl (cVar 3) (oSome (cBin opSub (cUn bLen (cVar 3)) (cVar 2))) oNone)) (gName 3)) (sSeq (sFor (iRg1 (cBin opAdd (cUn bLen (cVar 1)) (cK (.int 1)))) (gName 4) shO) (sSeq (sRet (cTup (aCons (cVar 0) (aCons (cVar 1) aNil)))) sNext))))) := rfl
  have m2 := mulR 3 a.length (by omega) (by omega) S
  have dv : opDiv (.int ((w.length : Int) + 3 * a.length)) (.int (a.length : Int)) S = .ok (.int (((w.length + 3 * a.length) / a.length : Nat) : Int)) S := by
    rw [opDiv_ok S (by omega) (by omega)]
    rfl
  have dl : (w.length + 3 * a.length) / a.length ≤ 500 := Nat.le_trans (Nat.div_le_self _ _) (by omega)
  have dm := Nat.div_add_mod (w.length + 3 * a.length) a.length
  have dlt := Nat.mod_lt (w.length + 3 * a.length) hp
  generalize hd : (w.length + 3 * a.length) / a.length = d at dv dl dm
  obtain ⟨A, l1, l2, l3, l4⟩ := line_ok ha hl hw S (j := 2 + d) (n := w.length + 3 * a.length) (by omega) (by omega) (by rw [Nat.mul_add]; omega)
  have i4 : iRg1 (cBin opAdd (cUn bLen (cVar 1)) (cK (.int 1))) [some (wT a), some (wT w), some (.int (w.length + 3 * a.length)), some (wT (rX (ye a w) 0 (w.length + 3 * a.length))), none, none, none] S = .ok (rgT 0 ((w.length : Int) + 1), .fix) S :=
    iRg1_ok (S1 := S) (by simp [wT_len]) (by omega) (by omega)
  have o := outer ha hl hw S h (rgT 0 ((w.length : Int) + 1)) (.int (w.length + 3 * a.length)) f 0 none none none (by omega)
  have o' : forL .fix (rgT 0 ((w.length : Int) + 1)) (gName 4) shO (rgT 0 ((w.length : Int) + 1)) [some (wT a), some (wT w), some (.int (w.length + 3 * a.length)), some (wT (rX (ye a w) 0 (w.length + 3 * a.length))), none, none, none] S = .rt (endT (ye a w) f q) S := o
  have c1 : (2 : Int) + (d : Int) = ((2 + d : Nat) : Int) := by omega
  have l4' : opSl (wT (A ++ w)) (some (((A ++ w).length : Int) - ((w.length : Int) + 3 * a.length))) none S = .ok (wT (rX (ye a w) 0 (w.length + 3 * a.length))) S := by
    rw [show ((w.length : Int) + 3 * a.length) = ((w.length + 3 * a.length : Nat) : Int) by omega]
    exact l4
  rw [U__law_end_v1.eq, e]
  simp -implicitDefEqProofs only [x_sSeq, x_sAsg, x_cGc, x_cBin, x_cUn, x_cVar, x_cK, List.getElem?_cons_succ, List.getElem?_cons_zero, R.bind_ok, wT_len w, wT_len a, m2, x_opAddI, gc_same, R.bindS_ok, x_gName, List.set_cons_succ, List.set_cons_zero, SR.seq_nx, dv, c1, l1, l2, x_cSl, x_oNone, x_oSome, l3, x_opSubI, l4', x_sFor, i4, o', SR.seq_rt, x_endrt]
theorem last_ok (k : Nat) : E.C (k + 1) f__law_last [.tup [wT a, wT w], .int 60] S = .ok (wT (rX (ye a w) 0 60)) S := by
  have hp := List.length_pos_iff.mpr ha
  have dv : opDiv (.int 60) (.int (a.length : Int)) S = .ok (.int ((60 / a.length : Nat) : Int)) S := by
    rw [opDiv_ok S (by omega) (by omega)]
    rfl
  have dl : 60 / a.length ≤ 60 := Nat.div_le_self _ _
  have dm := Nat.div_add_mod 60 a.length
  have dlt := Nat.mod_lt 60 hp
  generalize hd : 60 / a.length = d at dv dl dm
  obtain ⟨A, l1, l2, l3, l4⟩ := line_ok ha hl hw S (j := 1 + d) (n := 60) (by omega) (by omega) (by rw [Nat.mul_add]; omega)
  have c1 : (1 : Int) + (d : Int) = ((1 + d : Nat) : Int) := by omega
  rw [U__law_last.eq]
  generalize hz : A ++ w = z at *
  simp -implicitDefEqProofs only [B__law_last, x_sSeq, x_sAsg, x_cGc, x_cBin, x_cUn, x_cVar, x_cK, List.getElem?_cons_succ, List.getElem?_cons_zero, R.bind_ok, wT_len a, x_opAddI, gc_same, R.bindS_ok, x_gTup, x_gCons, x_gNil, Option.bind_some, x_gName, List.set_cons_succ, List.set_cons_zero, SR.seq_nx, dv, c1, l1, l2, x_sRet, x_cSl, x_oNone, x_oSome, l3, x_opSubI, SR.seq_rt, x_endrt]
  have l4' : opSl (wT z) (some ((z.length : Int) - 60)) none S = .ok (wT (rX (ye a w) 0 60)) S := l4
  simp [l4']
end
end K76
end
section
set_option Elab.async false
set_option linter.all false
set_option maxRecDepth 100000
set_option maxHeartbeats 4000000
set_option autoImplicit false
namespace EV
/-! the same end told otherwise -/
theorem ye_mul {a w : List Int} (ha : a ≠ []) {m : Nat} (hm : 1 ≤ m) : ye (List.replicate m a).flatten w = ye a w := by
  have h := ye_ep (w := w) ha
  have l : (List.replicate m a).flatten = rX (ye a w) w.length (a.length * m) := by
    conv => lhs; rw [ye_again (a := a) (w := w)]
    exact rX_mul h m
  have ll : ((List.replicate m a).flatten).length = a.length * m := cat_len a m
  refine ye_told (cat_ne ha hm) ye_word (by rw [ll]; exact l) ?_
  rw [ll, Nat.mul_comm]
  exact h.mul m
theorem ye_cut {a w : List Int} (s : Nat) (hs : s ≤ a.length) : a.drop s ++ w = rX (ye a w) 0 (w.length + (a.length - s)) := by
  have e := rX_app (ye a w) 0 w.length (a.length - s)
  rw [Nat.zero_add] at e
  rw [← e]
  congr 1
  · conv => lhs; rw [ye_again (a := a) (w := w)]
    exact rX_drop _ _ _ _ hs
  · exact ye_word
theorem ye_turn {a w : List Int} (ha : a ≠ []) {s : Nat} (hs : s ≤ a.length) : ye (a.drop s ++ a.take s) (a.drop s ++ w) = ye a w := by
  have h := ye_ep (w := w) ha
  have l1 : (a.drop s ++ w).length = w.length + (a.length - s) := by rw [List.length_append, List.length_drop]; omega
  have l2 : (a.drop s ++ a.take s).length = a.length := by rw [List.length_append, List.length_drop, List.length_take]; omega
  refine ye_told (fun e => by rw [e] at l2; exact ha (List.length_eq_zero_iff.mp (by simpa using l2.symm))) (by rw [l1]; exact ye_cut s hs) ?_ (by rw [l1, l2]; exact h.mono (by omega))
  rw [l1, l2]
  have e := rX_app (ye a w) (w.length + (a.length - s)) s (a.length - s)
  rw [show s + (a.length - s) = a.length by omega, show w.length + (a.length - s) + s = w.length + a.length by omega, rX_per h _ _ (Nat.le_refl _)] at e
  rw [← e]
  congr 1
  · conv => lhs; rw [ye_again (a := a) (w := w)]
    exact rX_drop _ _ _ _ hs
  · conv => lhs; rw [ye_again (a := a) (w := w)]
    exact rX_take _ _ _ _ hs
theorem ye_more {a w : List Int} (ha : a ≠ []) : ye a (a ++ w) = ye a w := by
  have h := ye_ep (w := w) ha
  have l1 : (a ++ w).length = w.length + a.length := by rw [List.length_append]; omega
  refine ye_told ha (by have := ye_cut (a := a) (w := w) 0 (Nat.zero_le _); rw [l1]; simpa using this) ?_ (by rw [l1]; exact h.mono (by omega))
  rw [l1, rX_per h _ _ (Nat.le_refl _)]
  exact ye_again
theorem gc_all {S S' : Store} {n : Nat} {o : O} (hn : S'[n]? = some o) (h1 : S.length ≤ n) (h2 : o.sco S.length = false) : gc S S' (.loc n) = .ok (.loc n) S' := by
  unfold gc
  split
  · rw [if_neg (by simp [T.sco]; omega)]
    simp only [hn, h2]
    rfl
  · rfl
theorem pl_end (x : Nat → Int) (f q : Nat) : pl (endT x f q) = true ∧ (endT x f q).depth ≤ 60 := by
  have a := pl_ints (rX x f q)
  have b := pl_ints (rX x 0 f)
  unfold endT wT
  simp [pl, plL, T.depth, T.depthL, a.1, b.1, a.2, b.2]
theorem sameD_end (n : Nat) (S : Store) {x : Nat → Int} {f q : Nat} (h1 : f ≤ 1000000) (h2 : q ≤ 1000000) : sameD (n + 3) S (endT x f q) (endT x f q) := by
  refine ⟨rfl, by simp, fun i a b e1 e2 => ?_⟩
  rw [e1] at e2
  cases e2
  match i, e1 with
  | 0, e1 => simp at e1; subst e1; exact sameD_word n S (by rw [rX_len]; exact h2)
  | 1, e1 => simp at e1; subst e1; exact sameD_word n S (by rw [rX_len]; exact h1)
  | i + 2, e1 => simp at e1
theorem ends_eq {x x' : Nat → Int} {f q f' q' : Nat} (h : SF x f q) (h' : SF x' f' q') : endT x' f' q' = endT x f q ↔ x' = x := by
  constructor
  · intro e
    unfold endT at e
    simp only [T.tup.injEq, List.cons.injEq, and_true, wT_inj] at e
    rw [← ye_form h'.ep h'.pos, e.1, e.2, ye_form h.ep h.pos]
  · intro e
    subst e
    obtain ⟨rfl, rfl⟩ := h.uniq h'
    rfl
/-- a value that is none of the words asked for: plain, or a list of one number that stands beside -/
def Odd (n : Nat) (G : Store) (v : T) : Prop := (okT v = true ∧ v.depth ≤ 3) ∨ ∃ j i, v = .loc (n + j) ∧ G[j]? = some (.lst [.int i])
section
variable {n : Nat} {G P X : Store} {v : T}
theorem Odd.app (h : Odd n G v) : Odd n (G ++ X) v := by
  rcases h with h | ⟨j, i, h1, h2⟩
  · exact .inl h
  · exact .inr ⟨j, i, h1, by rw [List.getElem?_append_left (List.getElem?_eq_some_iff.mp h2).1]; exact h2⟩
theorem Odd.kn (h : Odd n G v) (hP : Part n P) : Kn (P ++ G) v := by
  rcases h with h | ⟨j, i, rfl, h2⟩
  · exact Kn_ok h.1
  · exact ⟨by simp [EV.kn, kindStr, at_G hP, h2], fun xs e => by cases e⟩
theorem Odd.sco (h : Odd n G v) : v.sco (n + G.length) = true := by
  rcases h with h | ⟨j, i, rfl, h2⟩
  · exact sco_ok _ h.1
  · have := (List.getElem?_eq_some_iff.mp h2).1
    simp only [T.sco, decide_eq_true_eq]
    omega
theorem Odd.same (h : Odd n G v) (hP : Part n P) (m : Nat) : sameD (m + 4) (P ++ G) v v := by
  rcases h with h | ⟨j, i, rfl, h2⟩
  · exact sameD_ok _ _ h.1 (by omega)
  · refine sameD_lst (by rw [at_G hP, h2]) (by rw [at_G hP, h2]) rfl (by simp) fun k x y e1 e2 => ?_
    rw [e1] at e2
    cases e2
    match k, e1 with
    | 0, e1 => simp at e1; subst e1; exact rfl
    | k + 1, e1 => simp at e1
theorem pick_ok {P' : Store} {o : O} {items : List T} (hP : Part n P) (hP' : Part n P') (ho : o.sco (n + G.length) = true) (hv : v = .loc (n + G.length) ∨ okT v = true) :
    ∃ v' G', gc (P ++ G) (P' ++ (G ++ [o, .lst items])) v = .ok v' (P' ++ (G ++ G')) ∧ ((v' = .loc (n + G.length) ∧ G' = [o]) ∨ (v' = v ∧ okT v = true ∧ G' = [])) := by
  rcases hv with rfl | hv
  · exact ⟨_, [o], gcAt hP hP' (j := 0) rfl ho, .inl ⟨rfl, rfl⟩⟩
  · exact ⟨v, [], by rw [List.append_nil]; exact gcN hP hP' (sco_ok _ hv), .inr ⟨rfl, hv, rfl⟩⟩
end
end EV
namespace K76
open EV
structure End (a w : List Int) : Prop where
  a0 : a ≠ []
  al : a.length ≤ 18
  wl : w.length ≤ 40
  w4 : Wd 4 w
  a4 : Wd 4 a
section
variable {w a : List Int} (h : End a w)
include h
theorem End.sf : ∃ f q, f ≤ w.length ∧ q ≤ a.length ∧ SF (ye a w) f q := sf_ex (ye_ep h.a0) (List.length_pos_iff.mpr h.a0)
theorem End.val (i : Nat) : 0 ≤ ye a w i ∧ ye a w i < 4 := (ye_mem h.a0 i).elim (h.w4 _) (h.a4 _)
theorem wd_rX {x : Nat → Int} (h : ∀ i, 0 ≤ x i ∧ x i < 4) (f n : Nat) : Wd 4 (rX x f n) := fun v hv => by
  obtain ⟨i, _, rfl⟩ := rX_mem hv
  exact h _
theorem end_p {f q : Nat} (s : SF (ye a w) f q) (k : Nat) (S : Store) : E.C (k + 5) f_end_form [wT a, wT w] S = .ok (endT (ye a w) f q) S :=
  end_ok' h.a0 (by have := h.al; omega) (by have := h.wl; omega) h.w4 h.a4 s k S
theorem end_told {b v : List Int} (hb : End b v) (e : ye b v = ye a w) {f q : Nat} (s : SF (ye a w) f q) (k : Nat) (S : Store) : E.C (k + 5) f_end_form [wT b, wT v] S = .ok (endT (ye a w) f q) S := by
  have := end_p hb (f := f) (q := q) (by rw [e]; exact s) k S
  rwa [e] at this
theorem End.form {f q : Nat} (fl : f ≤ w.length) (ql : q ≤ a.length) (s : SF (ye a w) f q) : End (rX (ye a w) f q) (rX (ye a w) 0 f) where
  a0 := fun z => by have := congrArg List.length z; rw [rX_len] at this; simp at this; have := s.pos; omega
  al := by rw [rX_len]; have := h.al; omega
  wl := by rw [rX_len]; have := h.wl; omega
  w4 := wd_rX h h.val _ _
  a4 := wd_rX h h.val _ _
end
noncomputable def chk1 (k : Nat) : SM := (sIf (cGcB (tNot (cBl (cCall (E.C k f__law_same) (aCons (cLst (aCons (cCall (E.C k f_end_form) (aCons (cVar 4) (aCons (cVar 5) aNil))) (aCons (cCallK (E.C k f_end_form) ["again", "word"] ["word", "again"] aNil (aCons (cVar 5) (aCons (cVar 4) aNil))) (aCons (cCall (E.C k f_end_form) (aCons (cBin opIx (cVar 6) (cK (.int 0))) (aCons (cBin opIx (cVar 6) (cK (.int 1))) aNil))) (aCons (cCall (E.C k f_end_form) (aCons (cBin opMul (cVar 4) (cK (.int 2))) (aCons (cVar 5) aNil))) aNil))))) (aCons (cBin opMul (cLst (aCons (cVar 6) aNil)) (cK (.int 4))) aNil)))))) (sSeq (sRet (cK (.bl false))) sNext) sNext)
theorem chk1_ok {w a : List Int} (h : End a w) (al6 : a.length ≤ 6) {f q : Nat} (fl : f ≤ w.length) (ql : q ≤ a.length) (s : SF (ye a w) f q) (k : Nat) (S : Store) (x0 x1 x2 x3 : Option T) (r : Loc) :
    chk1 (k + 5) (x0 :: x1 :: x2 :: x3 :: some (wT a) :: some (wT w) :: some (endT (ye a w) f q) :: r) S = .nx (x0 :: x1 :: x2 :: x3 :: some (wT a) :: some (wT w) :: some (endT (ye a w) f q) :: r) S := by
  have r1 := fun S => end_p h s k S
  have r2 := fun S => end_told h (h.form fl ql s) (ye_form s.ep s.pos) s k S
  have m2 := fun S => wT_mul a (j := 2) S (by omega) (by omega) (by omega)
  have r3 := fun S => end_told h (b := (List.replicate 2 a).flatten) (v := w) ⟨cat_ne h.a0 (by omega), by rw [cat_len]; omega, h.wl, h.w4, h.a4.rep 2⟩ (ye_mul h.a0 (by omega)) s k S
  generalize (List.replicate 2 a).flatten = A at m2 r3
  have m2' : ∀ S, opMul (wT a) (.int 2) S = .ok (wT A) S := m2
  have i0 : ∀ S, opIx (endT (ye a w) f q) (.int 0) S = .ok (wT (rX (ye a w) f q)) S := fun S => ixT_nat (i := 0) S rfl
  have i1 : ∀ S, opIx (endT (ye a w) f q) (.int 1) S = .ok (wT (rX (ye a w) 0 f)) S := fun S => ixT_nat (i := 1) S rfl
  have sF := fun S => sameD_end 1 S (x := ye a w) (f := f) (q := q) (by have := h.wl; omega) (by have := h.al; omega)
  generalize endT (ye a w) f q = F at r1 r2 r3 i0 i1 sF
  let X : Store := [.lst [F, F, F, F], .lst [F], .lst [F, F, F, F]]
  have a0 : (S ++ X)[S.length]? = some (.lst [F, F, F, F]) := by simp [X]
  have a2 : (S ++ X)[S.length + 2]? = some (.lst [F, F, F, F]) := by simp [X]
  have sm : E.C (k + 5) f__law_same [.loc S.length, .loc (S.length + 2)] (S ++ X) = .ok (.bl true) (S ++ X) := by
    have := law_same_ok (E := E) (S ++ X) 5 (.loc S.length) (.loc (S.length + 2)) k (sameD_lst a0 a2 rfl (by simp) fun i x y e1 e2 => by
      have hm : ∀ z, z ∈ [F, F, F, F] → z = F := by simp
      rw [hm x (List.mem_of_getElem? e1), hm y (List.mem_of_getElem? e2)]
      exact sF _)
    exact this
  have kw : kwAll (["word", "again"] : List PySem.Str) [wT w, wT a] ["again", "word"] = some [wT a, wT w] := rfl
  have g : ∀ b, gcB S (S ++ X) b = .ok b S := fun b => gcB_app S _ b
  have om : opMul (.loc (S.length + 1)) (.int 4) (S ++ [.lst [F, F, F, F], .lst [F]]) = .ok (.loc (S.length + 2)) (S ++ X) := by
    simp [opMul, rep, List.replicate, X]
  have hX : X = [.lst [F, F, F, F], .lst [F], .lst [F, F, F, F]] := rfl
  rw [hX] at sm g om
  simp -implicitDefEqProofs [chk1, r1, r2, r3, m2', i0, i1, om, sm, kw, g]
end K76
end
section
set_option Elab.async false
set_option linter.all false
set_option maxRecDepth 100000
set_option maxHeartbeats 4000000
set_option autoImplicit false
namespace K76
open EV
/-! ### the second question -/
noncomputable def gotS (k : Nat) : SM := (sAsg (cGc (cLst (aCons (cCall (E.C k f_end_form) (aCons (cVar 8) (aCons (cBin opAdd (cSl (cVar 4) (oSome (cVar 7)) oNone) (cVar 5)) aNil))) (aCons (cCall (E.C k f_end_form) (aCons (cVar 4) (aCons (cBin opAdd (cVar 4) (cVar 5)) aNil))) (aCons (cBin opEq (cCall (E.C k f_end_form) (aCons (cBin opMul (cVar 4) (cK (.int 3))) (aCons (cBin opAdd (cSl (cVar 4) (oSome (cVar 7)) oNone) (cVar 5)) aNil))) (cVar 6)) aNil))))) (gName 9))
noncomputable def chk2 (k : Nat) : SM := (sIf (cGcB (tNot (cBl (cCall (E.C k f__law_same) (aCons (cVar 9) (aCons (cLst (aCons (cVar 6) (aCons (cVar 6) (aCons (cBin opEq (cCall (E.C k f__law_end_v1) (aCons (cVar 4) (aCons (cBin opAdd (cSl (cVar 4) (oSome (cVar 7)) oNone) (cVar 5)) aNil))) (cVar 6)) aNil)))) aNil)))))) (sSeq (sRet (cK (.bl false))) sNext) sNext)
section
variable {w a : List Int} (h : End a w) (al6 : a.length ≤ 6) (wl10 : w.length ≤ 10) {f q : Nat} (fl : f ≤ w.length) (ql : q ≤ a.length) (s : SF (ye a w) f q) (k : Nat) (S : Store) (st : Nat) (hst : st ≤ a.length) (x0 x1 x2 x3 x9 : Option T) (r : Loc)
include h al6 wl10 fl ql s hst
theorem got_ok : ∃ b, gotS (k + 5) (x0 :: x1 :: x2 :: x3 :: some (wT a) :: some (wT w) :: some (endT (ye a w) f q) :: some (.int st) :: some (wT (a.drop st ++ a.take st)) :: x9 :: r) S =
      .nx (x0 :: x1 :: x2 :: x3 :: some (wT a) :: some (wT w) :: some (endT (ye a w) f q) :: some (.int st) :: some (wT (a.drop st ++ a.take st)) :: some (.loc S.length) :: r) (S ++ [.lst [endT (ye a w) f q, endT (ye a w) f q, .bl b]]) ∧
    chk2 (k + 5) (x0 :: x1 :: x2 :: x3 :: some (wT a) :: some (wT w) :: some (endT (ye a w) f q) :: some (.int st) :: some (wT (a.drop st ++ a.take st)) :: some (.loc S.length) :: r) (S ++ [.lst [endT (ye a w) f q, endT (ye a w) f q, .bl b]]) =
      .nx (x0 :: x1 :: x2 :: x3 :: some (wT a) :: some (wT w) :: some (endT (ye a w) f q) :: some (.int st) :: some (wT (a.drop st ++ a.take st)) :: some (.loc S.length) :: r) (S ++ [.lst [endT (ye a w) f q, endT (ye a w) f q, .bl b]]) := by
  have hd : End a (a.drop st ++ w) := ⟨h.a0, h.al, by rw [List.length_append, List.length_drop]; omega, (h.a4.drop _).app h.w4, h.a4⟩
  have ht : End (a.drop st ++ a.take st) (a.drop st ++ w) := ⟨fun e => by
    have := congrArg List.length e
    rw [List.length_append, List.length_drop, List.length_take, List.length_nil] at this
    exact h.a0 (List.length_eq_zero_iff.mp (by omega)), by rw [List.length_append, List.length_drop, List.length_take]; omega, hd.wl, hd.w4, (h.a4.drop _).app (h.a4.take _)⟩
  have hm : End a (a ++ w) := ⟨h.a0, h.al, by rw [List.length_append]; omega, h.a4.app h.w4, h.a4⟩
  obtain ⟨f', q', fl', ql', s'⟩ := hd.sf
  have h3 : End (List.replicate 3 a).flatten (a.drop st ++ w) := ⟨cat_ne h.a0 (by omega), by rw [cat_len]; omega, hd.wl, hd.w4, h.a4.rep 3⟩
  have r1 := fun S => end_told h ht (ye_turn h.a0 hst) s k S
  have r2 := fun S => end_told h hm (ye_more h.a0) s k S
  have r3 := fun S => end_told hd h3 (ye_mul h.a0 (by omega)) s' k S
  have r4 := fun S => end_due h.a0 (show a.length ≤ 100 by omega) (show (a.drop st ++ w).length ≤ 100 by rw [List.length_append, List.length_drop]; omega) S (k + 4) s'
  have m3 := fun S => wT_mul a (j := 3) S (by omega) (by omega) (by omega)
  generalize (List.replicate 3 a).flatten = A3 at m3 r3
  have m3' : ∀ S, opMul (wT a) (.int 3) S = .ok (wT A3) S := m3
  have sl : ∀ S, opSl (wT a) (some (st : Int)) none S = .ok (wT (a.drop st)) S := fun S => by rw [wT_sl, cut_drop]
  have p1 := fun S => wT_add (a.drop st) w S (by rw [List.length_drop]; omega)
  have p2 := fun S => wT_add a w S (by omega)
  have ee := fun S => opEq_pl (S := S) (pl_end (ye a (a.drop st ++ w)) f' q').1 (pl_end (ye a w) f q).1 (pl_end _ _ _).2 (pl_end _ _ _).2
  have sF := fun S => sameD_end 1 S (x := ye a w) (f := f) (q := q) (by omega) (by omega)
  have scF : ∀ n, (endT (ye a w) f q).sco n = true := fun n => by simp [endT, T.sco, T.scoL, wT, scoInts]
  generalize T.eqv (endT (ye a (a.drop st ++ w)) f' q') (endT (ye a w) f q) = b at ee
  generalize endT (ye a (a.drop st ++ w)) f' q' = F' at *
  generalize endT (ye a w) f q = F at *
  generalize a.drop st ++ a.take st = tr at *
  generalize a.drop st ++ w = dw at *
  generalize a.drop st = ds at *
  generalize a ++ w = aw at *
  have g1 : gc S (S ++ [.lst [F, F, .bl b]]) (.loc S.length) = .ok (.loc S.length) (S ++ [.lst [F, F, .bl b]]) := gc_new (by simp [O.sco, T.scoL, T.sco, scF])
  refine ⟨b, ?_, ?_⟩
  · simp -implicitDefEqProofs [gotS, sl, p1, p2, m3', r1, r2, r3, ee, g1]
  · have sm : E.C (k + 5) f__law_same [.loc S.length, .loc (S.length + 1)] (S ++ [.lst [F, F, .bl b], .lst [F, F, .bl b]]) = .ok (.bl true) (S ++ [.lst [F, F, .bl b], .lst [F, F, .bl b]]) := by
      have := law_same_ok (E := E) (S ++ [.lst [F, F, .bl b], .lst [F, F, .bl b]]) 5 (.loc S.length) (.loc (S.length + 1)) k (sameD_lst (two_0 S _ _) (two_1 S _ _) rfl (by simp) fun i x y e1 e2 => by
        rw [e1] at e2
        cases e2
        match i, e1 with
        | 0, e1 => simp at e1; subst e1; exact sF _
        | 1, e1 => simp at e1; subst e1; exact sF _
        | 2, e1 => simp at e1; subst e1; exact rfl
        | i + 3, e1 => simp at e1)
      exact this
    have g : ∀ c, gcB (S ++ [.lst [F, F, .bl b]]) (S ++ [.lst [F, F, .bl b], .lst [F, F, .bl b]]) c = .ok c (S ++ [.lst [F, F, .bl b]]) := fun c => by
      have := gcB_app (S ++ [.lst [F, F, .bl b]]) [.lst [F, F, .bl b]] c
      rwa [List.append_assoc] at this
    simp -implicitDefEqProofs [chk2, sl, p1, r4, ee, sm, g]
end
/-! ### another end -/
noncomputable def chk3 (k : Nat) : SM := (sIf (cGcB (tNot (cBl (cCall (E.C k f__law_same) (aCons (cBin opEq (cCall (E.C k f_end_form) (aCons (cVar 10) (aCons (cVar 11) aNil))) (cVar 6)) (aCons (cBin opEq (cCall (E.C k f__law_last) (aCons (cTup (aCons (cVar 10) (aCons (cVar 11) aNil))) (aCons (cK (.int 60)) aNil))) (cCall (E.C k f__law_last) (aCons (cTup (aCons (cVar 4) (aCons (cVar 5) aNil))) (aCons (cK (.int 60)) aNil)))) aNil)))))) (sSeq (sRet (cK (.bl false))) sNext) sNext)
theorem rX60 {x y : Nat → Int} : rX x 0 60 = rX y 0 60 ↔ ∀ i, i < 60 → x i = y i := by
  rw [rX_inj]
  constructor
  · intro e i hi
    have a := cutX_get x 0 60 i hi
    rw [e, cutX_get y 0 60 i hi, Nat.zero_add] at a
    exact (Option.some.inj a).symm
  · intro e
    refine cutX_eq (cutX_len _ _ _) fun i hi => ?_
    rw [cutX_get x 0 60 i hi, Nat.zero_add, e i hi]
theorem chk3_ok {w a w' a' : List Int} (h : End a w) (h' : End a' w') (l1 : a.length ≤ 6) (l2 : w.length ≤ 10) (l3 : a'.length ≤ 6) (l4 : w'.length ≤ 10) {f q : Nat} (s : SF (ye a w) f q) (k : Nat) (S : Store) (x0 x1 x2 x3 x7 x8 x9 x12 : Option T) :
    chk3 (k + 5) [x0, x1, x2, x3, some (wT a), some (wT w), some (endT (ye a w) f q), x7, x8, x9, some (wT a'), some (wT w'), x12] S = .nx [x0, x1, x2, x3, some (wT a), some (wT w), some (endT (ye a w) f q), x7, x8, x9, some (wT a'), some (wT w'), x12] S := by
  obtain ⟨f', q', fl', ql', s'⟩ := h'.sf
  have r1 := fun S => end_p h' s' k S
  have e1 := opEq_pl (S := S) (pl_end (ye a' w') f' q').1 (pl_end (ye a w) f q).1 (pl_end _ _ _).2 (pl_end _ _ _).2
  have e2 := opEq_pl (S := S) (pl_word (rX (ye a' w') 0 60)).1 (pl_word (rX (ye a w) 0 60)).1 (pl_word _).2 (pl_word _).2
  have t1 := last_ok h.a0 (show a.length ≤ 100 by omega) (show w.length ≤ 100 by omega) S (k + 4)
  have t2 := last_ok h'.a0 (show a'.length ≤ 100 by omega) (show w'.length ≤ 100 by omega) S (k + 4)
  have eq : T.eqv (endT (ye a' w') f' q') (endT (ye a w) f q) = T.eqv (wT (rX (ye a' w') 0 60)) (wT (rX (ye a w) 0 60)) := by
    rw [Bool.eq_iff_iff, eqv_pl (pl_end _ _ _).1 (pl_end _ _ _).1, eqv_pl (pl_word _).1 (pl_word _).1, ends_eq s s', wT_inj, rX60]
    constructor
    · intro e i _
      rw [e]
    · intro e
      funext i
      have hp := List.length_pos_iff.mpr h.a0
      have hp' := List.length_pos_iff.mpr h'.a0
      exact ep_same ((ye_ep (w := w') h'.a0).mono (show w'.length ≤ 28 by omega)) ((ye_ep (w := w) h.a0).mono (show w.length ≤ 28 by omega)) hp' hp (n := 60) (by omega) e i
  rw [eq] at e1
  generalize T.eqv (wT (rX (ye a' w') 0 60)) (wT (rX (ye a w) 0 60)) = b at e1 e2
  have sm : E.C (k + 5) f__law_same [.bl b, .bl b] S = .ok (.bl true) S := law_same_ok (E := E) S 5 (.bl b) (.bl b) k (show b = b from rfl)
  generalize rX (ye a' w') 0 60 = l1 at *
  generalize rX (ye a w) 0 60 = l2 at *
  generalize endT (ye a w) f q = F at *
  generalize endT (ye a' w') f' q' = F' at *
  simp -implicitDefEqProofs [chk3, r1, e1, t1, t2, e2, sm]
/-! ### refusals -/
theorem refused_exc (k : Nat) (x y v : T) (S : Store) (h : E.C k f_end_form [x, y] (S ++ [.lst [.str "none"]]) = .exc (E.ci c_InvalidWord) v (S ++ [.lst [.str "none"]])) (hv : v.sco S.length = true) : E.C (k + 1) f__law_refused_v3 [x, y] S = .ok (.loc S.length) (S ++ [.lst [v]]) := by
  rw [U__law_refused_v3.eq]
  have s1 : E.sub (E.ci c_InvalidWord) (E.ci c_InvalidWord) = true := rfl
  have g0 : gc S (S ++ [.lst [.str "none"]]) (.loc S.length) = .ok (.loc S.length) (S ++ [.lst [.str "none"]]) := gc_new rfl
  have g1 : gc (S ++ [.lst [.str "none"]]) (S ++ [.lst [.str "none"], .lst [v]]) (.loc (S.length + 1)) = .ok (.loc (S.length + 1)) (S ++ [.lst [.str "none"], .lst [v]]) := by
    have := gc_new (S := S ++ [.lst [.str "none"]]) (o := .lst [v]) (by simp only [O.sco, T.scoL, Bool.and_true]; exact sco_le (m := S.length) (by simp) hv)
    simpa using this
  have g2 : gc S (S ++ [.lst [.str "none"], .lst [v]]) (.loc (S.length + 1)) = .ok (.loc S.length) (S ++ [.lst [v]]) := by
    have := gc_one (S := S) (G := [.lst [.str "none"]]) (o := .lst [v]) (by simp [O.sco, T.scoL, hv])
    simpa using this
  simp -implicitDefEqProofs [B__law_refused_v3, sTryN, g0, h, s1, goesN, bVal, g1, g2]
theorem refused_ok (k : Nat) (x y v : T) (S : Store) (h : E.C k f_end_form [x, y] (S ++ [.lst [.str "none"]]) = .ok v (S ++ [.lst [.str "none"]])) : E.C (k + 1) f__law_refused_v3 [x, y] S = .ok (.loc S.length) (S ++ [.lst [.str "none"]]) := by
  rw [U__law_refused_v3.eq]
  have g0 : gc S (S ++ [.lst [.str "none"]]) (.loc S.length) = .ok (.loc S.length) (S ++ [.lst [.str "none"]]) := gc_new rfl
  simp -implicitDefEqProofs [B__law_refused_v3, sTryN, g0, h]
noncomputable def badE (k : Nat) : EM := (cGc (cBin opIx (cLst (aCons (cTup aNil) (aCons (cTup (aCons (cK (.int 4)) aNil)) (aCons (cLst (aCons (cK (.int 0)) aNil)) (aCons (cK (.str "0")) (aCons (cK .non) (aCons (cTup (aCons (cK (.int 0)) (aCons (cUn opNeg (cK (.int 1))) aNil))) (aCons (cTup (aCons (cK (.bl true)) aNil)) (aCons (cK (.int 5)) aNil))))))))) (cCall (E.C k f__law_draw) (aCons (cVar 1) (aCons (cK (.int 8)) aNil)))))
noncomputable def orE : EM := (cIte (cBl (cBin opNe (cVar 12) (cTup aNil))) (cVar 12) (cTup (aCons (cK (.int 7)) aNil)))
/-- the wrong value, and what stands for it where () would be right -/
structure Wrong (G : Store) (v v' : T) : Prop where
  odd : Odd 2 G v
  odd' : Odd 2 G v'
  no : (belowT 4 v && !emptyT v) = false
  no' : belowT 4 v' = false
  ne : ∀ (P X : Store), Part 2 P → (opNe v (.tup []) (P ++ (G ++ X)) = .ok (.bl true) (P ++ (G ++ X)) ∧ v' = v) ∨ (opNe v (.tup []) (P ++ (G ++ X)) = .ok (.bl false) (P ++ (G ++ X)) ∧ v' = .tup [.int 7])
theorem bad_ok (k : Nat) (P G : Store) (hP : PotA P) (x0 : Option T) (r : Loc) : ∃ v v' P' X, badE (k + 1) (x0 :: some (.loc 1) :: r) (P ++ G) = .ok v (P' ++ (G ++ X)) ∧ PotA P' ∧ Wrong (G ++ X) v v' := by
  let items : List T := [.tup [], .tup [.int 4], .loc (2 + G.length), .str "0", .non, .tup [.int 0, .int (-1)], .tup [.bl true], .int 5]
  obtain ⟨n, P', d, hP', b⟩ := D.draw k P (G ++ [.lst [.int 0], .lst items]) 8 hP (by decide) (by decide)
  have hl : P.length = 2 := (D.part _ hP).len
  have hn : n < 8 := by omega
  have hi : ∃ v, items[n]? = some v ∧ (v = .loc (2 + G.length) ∨ okT v = true) ∧ (okT v = true → v.depth ≤ 3 ∧ (belowT 4 v && !emptyT v) = false ∧ ((v = .tup [] ∧ ∀ S, opNe v (.tup []) S = .ok (.bl false) S) ∨ (belowT 4 v = false ∧ ∀ S, opNe v (.tup []) S = .ok (.bl true) S))) := by
    match n, hn with
    | 0, _ => exact ⟨_, rfl, .inr rfl, fun _ => ⟨by decide, rfl, .inl ⟨rfl, fun S => ne_nil S []⟩⟩⟩
    | 1, _ => exact ⟨_, rfl, .inr rfl, fun _ => ⟨by decide, rfl, .inr ⟨rfl, fun S => ne_nil S [4]⟩⟩⟩
    | 2, _ => exact ⟨_, rfl, .inl rfl, fun h => by cases h⟩
    | 3, _ => exact ⟨_, rfl, .inr rfl, fun _ => ⟨by decide, rfl, .inr ⟨rfl, fun S => by rw [opNe_pl (by decide +kernel) rfl (by decide) (by decide)]; rfl⟩⟩⟩
    | 4, _ => exact ⟨_, rfl, .inr rfl, fun _ => ⟨by decide, rfl, .inr ⟨rfl, fun S => by rw [opNe_pl (by decide +kernel) rfl (by decide) (by decide)]; rfl⟩⟩⟩
    | 5, _ => exact ⟨_, rfl, .inr rfl, fun _ => ⟨by decide, rfl, .inr ⟨rfl, fun S => ne_nil S [0, -1]⟩⟩⟩
    | 6, _ => exact ⟨_, rfl, .inr rfl, fun _ => ⟨by decide, rfl, .inr ⟨rfl, fun S => by simp [opNe, eqA, dS, T.dat, T.datL, T.depth, T.depthL, pd, pdL, PySem.PyData.eqv, PySem.PyData.eqvAll]⟩⟩⟩
    | 7, _ => exact ⟨_, rfl, .inr rfl, fun _ => ⟨by decide, rfl, .inr ⟨rfl, fun S => by rw [opNe_pl (by decide +kernel) rfl (by decide) (by decide)]; rfl⟩⟩⟩
  obtain ⟨v, e1, e2, e3⟩ := hi
  obtain ⟨v', G', g, hv'⟩ := pick_ok (G := G) (items := items) (o := .lst [.int 0]) (D.part _ hP) (D.part _ hP') rfl e2
  have ix : opIx (.loc (2 + (G.length + 1))) (.int n) (P' ++ (G ++ [.lst [.int 0], .lst items])) = .ok v (P' ++ (G ++ [.lst [.int 0], .lst items])) := ix_at _ (atT_nat e1) (at_part (D.part _ hP') 1)
  have main : badE (k + 1) (x0 :: some (.loc 1) :: r) (P ++ G) = .ok v' (P' ++ (G ++ G')) := by
    have hi : items = [.tup [], .tup [.int 4], .loc (2 + G.length), .str "0", .non, .tup [.int 0, .int (-1)], .tup [.bl true], .int 5] := rfl
    rw [hi] at d ix g
    simp -implicitDefEqProofs [badE, hl, d, ix, g]
  rcases hv' with ⟨rfl, rfl⟩ | ⟨rfl, h, rfl⟩
  · refine ⟨_, .loc (2 + G.length), P', _, main, hP', .inr ⟨G.length, 0, rfl, by simp⟩, .inr ⟨G.length, 0, rfl, by simp⟩, rfl, rfl, fun P X pP => .inl ⟨?_, rfl⟩⟩
    have at0 : (P ++ (G ++ ([.lst [.int 0]] ++ X)))[2 + G.length]? = some (.lst [.int 0]) := at_part0 pP
    rw [List.append_assoc G]
    simp only [opNe, eqA, dS, lstN, at0]
    simp [T.dat, T.datL, T.depth, T.depthL, pd, pdL, PySem.PyData.eqv, PySem.PyData.eqvAll]
  · obtain ⟨q1, q2, q3⟩ := e3 h
    rcases q3 with ⟨z1, z2⟩ | ⟨z1, z2⟩
    · exact ⟨v', .tup [.int 7], P', [], main, hP', .inl ⟨h, q1⟩, .inl ⟨rfl, by decide⟩, q2, rfl, fun P X pP => .inr ⟨z2 _, rfl⟩⟩
    · exact ⟨v', v', P', [], main, hP', .inl ⟨h, q1⟩, .inl ⟨h, q1⟩, q2, z1, fun P X pP => .inl ⟨z2 _, rfl⟩⟩
end K76
end
section
set_option Elab.async false
set_option linter.all false
set_option maxRecDepth 100000
set_option maxHeartbeats 4000000
set_option autoImplicit false
namespace K76
open EV
noncomputable def refS (k : Nat) : SM := (sAsg (cGc (cLst (aCons (cCall (E.C k f__law_refused_v3) (aCons (cVar 12) (aCons (cVar 12) aNil))) (aCons (cCall (E.C k f__law_refused_v3) (aCons (cVar 4) (aCons orE aNil))) (aCons (cCall (E.C k f__law_refused_v3) (aCons (cVar 12) (aCons (cVar 5) aNil))) (aCons (cCall (E.C k f__law_refused_v3) (aCons (cVar 4) (aCons (cTup aNil) aNil))) aNil)))))) (gName 9))
noncomputable def chk4 (k : Nat) : SM := (sIf (cGcB (tNot (cBl (cCall (E.C k f__law_same) (aCons (cVar 9) (aCons (cLst (aCons (cLst (aCons (cVar 12) aNil)) (aCons (cLst (aCons orE aNil)) (aCons (cLst (aCons (cVar 12) aNil)) (aCons (cLst (aCons (cK (.str "none")) aNil)) aNil))))) aNil)))))) (sSeq (sRet (cK (.bl false))) sNext) sNext)
def L4 (n : Nat) (G : Store) (j : Nat) : O := .lst [.loc (n + (G.length + j)), .loc (n + (G.length + (j + 1))), .loc (n + (G.length + (j + 2))), .loc (n + (G.length + (j + 3)))]
theorem ref_ok {w a : List Int} (h : End a w) (k : Nat) (P G : Store) (hP : PotA P) {x x' : T} (hx : Wrong G x x') (x0 x1 x2 x3 x6 x7 x8 x9 x10 x11 : Option T) :
    refS (k + 6) [x0, x1, x2, x3, some (wT a), some (wT w), x6, x7, x8, x9, x10, x11, some x] (P ++ G) = .nx [x0, x1, x2, x3, some (wT a), some (wT w), x6, x7, x8, some (.loc (2 + (G.length + 4))), x10, x11, some x] (P ++ (G ++ [.lst [x], .lst [x'], .lst [x], .lst [.str "none"], L4 2 G 0])) ∧
    chk4 (k + 6) [x0, x1, x2, x3, some (wT a), some (wT w), x6, x7, x8, some (.loc (2 + (G.length + 4))), x10, x11, some x] (P ++ (G ++ [.lst [x], .lst [x'], .lst [x], .lst [.str "none"], L4 2 G 0])) =
      .nx [x0, x1, x2, x3, some (wT a), some (wT w), x6, x7, x8, some (.loc (2 + (G.length + 4))), x10, x11, some x] (P ++ (G ++ [.lst [x], .lst [x'], .lst [x], .lst [.str "none"], L4 2 G 0])) := by
  have pP := D.part _ hP
  have hl : P.length = 2 := pP.len
  have ka : ∀ S, Kn S (wT a) := fun S => kn_word S a (by have := h.al; omega)
  have kw : ∀ S, Kn S (wT w) := fun S => kn_word S w (by have := h.wl; omega)
  have ba : (belowT 4 (wT a) && !emptyT (wT a)) = true := by
    rw [wd_below h.a4]
    cases ha : a with
    | nil => exact absurd ha h.a0
    | cons z zs => rfl
  have c1 : ∀ X y, E.C (k + 6) f__law_refused_v3 [x, y] (P ++ (G ++ X)) = .ok (.loc (2 + (G.length + X.length))) (P ++ (G ++ (X ++ [.lst [x]]))) := fun X y => by
    have o : Odd 2 (G ++ X ++ [.lst [.str "none"]]) x := (hx.odd.app (X := X)).app
    have r := end_bad1 (E := E) (y := y) k (P ++ (G ++ X ++ [.lst [.str "none"]])) (o.kn pP) hx.no
    rw [← List.append_assoc P] at r
    have := refused_exc (k + 5) x y x (P ++ (G ++ X)) r (by rw [List.length_append, hl]; exact (hx.odd.app (X := X)).sco)
    rw [List.length_append, List.length_append, hl] at this
    rw [this, List.append_assoc, List.append_assoc]
  have c2 : ∀ X, E.C (k + 6) f__law_refused_v3 [wT a, x'] (P ++ (G ++ X)) = .ok (.loc (2 + (G.length + X.length))) (P ++ (G ++ (X ++ [.lst [x']]))) := fun X => by
    have o : Odd 2 (G ++ X ++ [.lst [.str "none"]]) x' := (hx.odd'.app (X := X)).app
    have r := end_bad2 (E := E) k (P ++ (G ++ X ++ [.lst [.str "none"]])) (ka _) ba (o.kn pP) hx.no'
    rw [← List.append_assoc P] at r
    have := refused_exc (k + 5) (wT a) x' x' (P ++ (G ++ X)) r (by rw [List.length_append, hl]; exact (hx.odd'.app (X := X)).sco)
    rw [List.length_append, List.length_append, hl] at this
    rw [this, List.append_assoc, List.append_assoc]
  have e0 : End a [] := ⟨h.a0, h.al, by simp, fun v hv => absurd hv List.not_mem_nil, h.a4⟩
  obtain ⟨f0, q0, _, _, s0⟩ := e0.sf
  have c4 : ∀ X, E.C (k + 6) f__law_refused_v3 [wT a, .tup []] (P ++ (G ++ X)) = .ok (.loc (2 + (G.length + X.length))) (P ++ (G ++ (X ++ [.lst [.str "none"]]))) := fun X => by
    have r := end_p e0 s0 k (P ++ (G ++ X) ++ [.lst [.str "none"]])
    have := refused_ok (k + 5) (wT a) (.tup []) _ (P ++ (G ++ X)) r
    rw [List.length_append, List.length_append, hl] at this
    rw [this, List.append_assoc, List.append_assoc]
  have ov : ∀ (y9 : Option T) X, orE [x0, x1, x2, x3, some (wT a), some (wT w), x6, x7, x8, y9, x10, x11, some x] (P ++ (G ++ X)) = .ok x' (P ++ (G ++ X)) := fun y9 X => by
    rcases hx.ne P X pP with ⟨e, rfl⟩ | ⟨e, rfl⟩
    · simp -implicitDefEqProofs [orE, e]
    · simp -implicitDefEqProofs [orE, e]
  let Y : Store := [.lst [x], .lst [x'], .lst [x], .lst [.str "none"], L4 2 G 0]
  let Z : Store := Y ++ [.lst [x], .lst [x'], .lst [x], .lst [.str "none"], L4 2 G 5]
  have hY : Y = [.lst [x], .lst [x'], .lst [x], .lst [.str "none"], L4 2 G 0] := rfl
  have hZ : Z = [.lst [x], .lst [x'], .lst [x], .lst [.str "none"], L4 2 G 0, .lst [x], .lst [x'], .lst [x], .lst [.str "none"], L4 2 G 5] := rfl
  constructor
  · have g : gc (P ++ G) (P ++ (G ++ Y)) (.loc (2 + (G.length + 4))) = .ok (.loc (2 + (G.length + 4))) (P ++ (G ++ Y)) := by
      refine gc_all (o := L4 2 G 0) (at_part pP 4) (by rw [List.length_append, hl]; omega) ?_
      rw [List.length_append, hl]
      simp [L4, O.sco, T.scoL, T.sco]
    have d1 := c1 [] x
    have d2 := c2 [.lst [x]]
    have d3 := c1 [.lst [x], .lst [x']] (wT w)
    have d4 := c4 [.lst [x], .lst [x'], .lst [x]]
    have o2 := ov x9 [.lst [x]]
    have nt : (.tup [] : T) = wT [] := rfl
    rw [hY] at g
    simp only [List.append_nil, List.length_nil, Nat.add_zero] at d1
    simp only [List.length_cons, List.length_nil, List.cons_append, List.nil_append, Nat.zero_add] at d1 d2 d3 d4
    unfold L4 at g ⊢
    simp only [Nat.add_zero, Nat.zero_add] at g ⊢
    simp -implicitDefEqProofs [refS, d1, o2, d2, d3, d4, hl, g, Nat.add_assoc]
  · have at_ := fun j => at_part (G := G) (X := Z) pP j
    have hx2 : sameD 4 (P ++ (G ++ Z)) x x := (hx.odd.app (X := Z)).same pP 0
    have hx3 : sameD 4 (P ++ (G ++ Z)) x' x' := (hx.odd'.app (X := Z)).same pP 0
    have one : ∀ z, sameD 4 (P ++ (G ++ Z)) z z → ∀ (i : Nat) (a b : T), ([z] : List T)[i]? = some a → ([z] : List T)[i]? = some b → sameD 4 (P ++ (G ++ Z)) a b := fun z hz i a b e1 e2 => by
      match i, e1, e2 with
      | 0, e1, e2 => simp at e1 e2; subst e1 e2; exact hz
      | i + 1, e1, e2 => simp at e1
    have s0 : sameD 5 (P ++ (G ++ Z)) (.loc (2 + (G.length + 0))) (.loc (2 + (G.length + 5))) := sameD_lst (at_ 0) (at_ 5) rfl (by simp) (one _ hx2)
    have s1 : sameD 5 (P ++ (G ++ Z)) (.loc (2 + (G.length + 1))) (.loc (2 + (G.length + 6))) := sameD_lst (at_ 1) (at_ 6) rfl (by simp) (one _ hx3)
    have s2 : sameD 5 (P ++ (G ++ Z)) (.loc (2 + (G.length + 2))) (.loc (2 + (G.length + 7))) := sameD_lst (at_ 2) (at_ 7) rfl (by simp) (one _ hx2)
    have s3 : sameD 5 (P ++ (G ++ Z)) (.loc (2 + (G.length + 3))) (.loc (2 + (G.length + 8))) := sameD_lst (at_ 3) (at_ 8) rfl (by simp) (one _ rfl)
    have sm : E.C (k + 6) f__law_same [.loc (2 + (G.length + 4)), .loc (2 + (G.length + 9))] (P ++ (G ++ Z)) = .ok (.bl true) (P ++ (G ++ Z)) :=
      law_same_ok (E := E) (P ++ (G ++ Z)) 6 _ _ k (sameD_lst (at_ 4) (at_ 9) rfl (by simp) fun i a b e1 e2 => by
        match i, e1, e2 with
        | 0, e1, e2 => simp at e1 e2; subst e1 e2; exact s0
        | 1, e1, e2 => simp at e1 e2; subst e1 e2; exact s1
        | 2, e1, e2 => simp at e1 e2; subst e1 e2; exact s2
        | 3, e1, e2 => simp at e1 e2; subst e1 e2; exact s3
        | i + 4, e1, e2 => simp at e1)
    have g : ∀ b, gcB (P ++ (G ++ Y)) (P ++ (G ++ Z)) b = .ok b (P ++ (G ++ Y)) := fun b => by
      have := gcBN (G := G ++ Y) (X := [.lst [x], .lst [x'], .lst [x], .lst [.str "none"], L4 2 G 5]) pP pP b
      rwa [List.append_assoc] at this
    have o2 := ov (some (.loc (2 + (G.length + 4)))) [.lst [x], .lst [x'], .lst [x], .lst [.str "none"], L4 2 G 0, .lst [x]]
    rw [hZ] at sm
    rw [hZ, hY] at g
    unfold L4 at sm g o2 ⊢
    simp only [Nat.add_zero, Nat.zero_add, Nat.reduceAdd] at sm g o2 ⊢
    simp -implicitDefEqProofs [chk4, o2, hl, sm, g, Nat.add_assoc]
noncomputable def kS (k : Nat) : SM := (sAsg (cGc (cBin opAdd (cK (.int 1)) (cCall (E.C k f__law_draw) (aCons (cVar 1) (aCons (cK (.int 4)) aNil))))) (gName 3))
noncomputable def awS (k : Nat) : SM := (sPar (aCons (cBin opAdd (cTup (aCons (cCall (E.C k f__law_draw) (aCons (cVar 1) (aCons (cVar 3) aNil))) aNil)) (cCall (E.C k f__law_word) (aCons (cVar 1) (aCons (cVar 3) (aCons (cK (.int 5)) aNil))))) (aCons (cCall (E.C k f__law_word) (aCons (cVar 1) (aCons (cVar 3) (aCons (cK (.int 10)) aNil)))) aNil)) [4, 5])
noncomputable def dueS (k : Nat) : SM := (sAsg (cGc (cCall (E.C k f__law_end_v1) (aCons (cVar 4) (aCons (cVar 5) aNil)))) (gName 6))
noncomputable def stS (k : Nat) : SM := (sAsg (cGc (cCall (E.C k f__law_draw) (aCons (cVar 1) (aCons (cBin opAdd (cUn bLen (cVar 4)) (cK (.int 1))) aNil)))) (gName 7))
noncomputable def tuS : SM := (sAsg (cGc (cBin opAdd (cSl (cVar 4) (oSome (cVar 7)) oNone) (cSl (cVar 4) oNone (oSome (cVar 7))))) (gName 8))
noncomputable def otS (k : Nat) : SM := (sAsg (cGc (cBin opAdd (cTup (aCons (cCall (E.C k f__law_draw) (aCons (cVar 1) (aCons (cVar 3) aNil))) aNil)) (cCall (E.C k f__law_word) (aCons (cVar 1) (aCons (cVar 3) (aCons (cK (.int 5)) aNil)))))) (gName 10))
noncomputable def moS (k : Nat) : SM := (sAsg (cGc (cCall (E.C k f__law_word) (aCons (cVar 1) (aCons (cVar 3) (aCons (cK (.int 10)) aNil))))) (gName 11))
noncomputable def turnS (k : Nat) : SM := sSeq (kS k) (sSeq (awS k) (sSeq (dueS k) (sSeq (chk1 k) (sSeq (stS k) (sSeq tuS (sSeq (gotS k) (sSeq (chk2 k) (sSeq (otS k) (sSeq (moS k) (sSeq (chk3 k) (sSeq (sAsg (badE k) (gName 12)) (sSeq (refS k) (sSeq (chk4 k) sNext)))))))))))))
theorem B_law (k : Nat) : B_law_v74 E k = sSeq (sAsg (cGc (cCall (E.C k f__law_new) (aCons (cVar 0) aNil))) (gName 1)) (sSeq (sFor (iRg1 (cK (.int 10))) (gName 2) (turnS k)) (sSeq (sRet (cK (.bl true))) sNext)) := rfl
def Inv (τ : Loc) (S : Store) : Prop := ∃ (P G : Store) (x0 x2 x3 x4 x5 x6 x7 x8 x9 x10 x11 x12 : Option T), PotA P ∧ S = P ++ G ∧ τ = [x0, some (.loc 1), x2, x3, x4, x5, x6, x7, x8, x9, x10, x11, x12]
theorem turn_ok (k : Nat) (τ : Loc) (S : Store) (h : Inv τ S) : ∃ τ' S', turnS (k + 6) τ S = .nx τ' S' ∧ Inv τ' S' := by
  obtain ⟨P, G, x0, x2, x3, x4, x5, x6, x7, x8, x9, x10, x11, x12, hP, rfl, rfl⟩ := h
  obtain ⟨r1, P1, d1, h1, b1⟩ := D.draw (k + 5) P G 4 hP (by decide) (by decide)
  obtain ⟨v2, P2a, ns2, P2, d2a, d2b, h2, ad2, l2, w2⟩ := again_ok (k + 4) P1 G h1 (1 + r1) (by omega) (by omega)
  obtain ⟨w, P3, d3, h3, l3, w3⟩ := word_ok (k + 4) P2 G h2 (1 + r1) 10 (by omega) (by omega) (by omega) (by omega)
  have w4 : Wd 4 w := w3.mono (by omega)
  have hE : End ((v2 : Int) :: ns2) w := ⟨by simp, by rw [List.length_cons]; omega, by omega, w4, w2⟩
  have al6 : ((v2 : Int) :: ns2).length ≤ 6 := by rw [List.length_cons]; omega
  have ap := List.length_pos_iff.mpr hE.a0
  generalize ha : (v2 : Int) :: ns2 = a at *
  obtain ⟨f, q, fl, ql, sf⟩ := hE.sf
  have e4 := fun S => end_due hE.a0 (show a.length ≤ 100 by omega) (show w.length ≤ 100 by omega) S (k + 5) sf
  have e5 := chk1_ok hE al6 fl ql sf (k + 1) (P3 ++ G) x0 (some (.loc 1)) x2 (some (.int (1 + r1))) [x7, x8, x9, x10, x11, x12]
  obtain ⟨st, P6, d6, h6, b6⟩ := D.draw (k + 5) P3 G (a.length + 1) h3 (by omega) (by omega)
  have hst : st ≤ a.length := by omega
  obtain ⟨b, e7, e8⟩ := got_ok hE al6 (by omega) fl ql sf (k + 1) (P6 ++ G) st hst x0 (some (.loc 1)) x2 (some (.int (1 + r1))) x9 [x10, x11, x12]
  obtain ⟨G1, hG1⟩ : ∃ G1, P6 ++ G ++ [.lst [endT (ye a w) f q, endT (ye a w) f q, .bl b]] = P6 ++ G1 := ⟨_, List.append_assoc _ _ _⟩
  rw [hG1] at e7 e8
  obtain ⟨v9, P9a, ns9, P9, d9a, d9b, h9, ad9, l9, w9⟩ := again_ok (k + 4) P6 G1 h6 (1 + r1) (by omega) (by omega)
  obtain ⟨w', P10, d10, h10, l10, w10⟩ := word_ok (k + 4) P9 G1 h9 (1 + r1) 10 (by omega) (by omega) (by omega) (by omega)
  have hE' : End ((v9 : Int) :: ns9) w' := ⟨by simp, by rw [List.length_cons]; omega, by omega, w10.mono (by omega), w9⟩
  have al6' : ((v9 : Int) :: ns9).length ≤ 6 := by rw [List.length_cons]; omega
  generalize ha' : (v9 : Int) :: ns9 = a' at *
  have e11 := chk3_ok hE hE' al6 (by omega) al6' (by omega) sf (k + 1) (P10 ++ G1) x0 (some (.loc 1)) x2 (some (.int (1 + r1))) (some (.int st)) (some (wT (a.drop st ++ a.take st))) (some (.loc (P6 ++ G).length)) x12
  obtain ⟨bad, bad', P12, X12, e12, h12, hw⟩ := bad_ok (k + 5) P10 G1 h10 x0 [x2, some (.int (1 + r1)), some (wT a), some (wT w), some (endT (ye a w) f q), some (.int st), some (wT (a.drop st ++ a.take st)), some (.loc (P6 ++ G).length), some (wT a'), some (wT w'), x12]
  obtain ⟨e13, e14⟩ := ref_ok hE k P12 (G1 ++ X12) h12 hw x0 (some (.loc 1)) x2 (some (.int (1 + r1))) (some (endT (ye a w) f q)) (some (.int st)) (some (wT (a.drop st ++ a.take st))) (some (.loc (P6 ++ G).length)) (some (wT a')) (some (wT w'))
  have s1 : kS (k + 6) [x0, some (.loc 1), x2, x3, x4, x5, x6, x7, x8, x9, x10, x11, x12] (P ++ G) = .nx [x0, some (.loc 1), x2, some (.int (1 + r1)), x4, x5, x6, x7, x8, x9, x10, x11, x12] (P1 ++ G) := by
    simp -implicitDefEqProofs [kS, d1, D.gc0 hP h1 (v := .int (1 + r1)) (G := G) rfl]
  have s2 : awS (k + 6) [x0, some (.loc 1), x2, some (.int (1 + r1)), x4, x5, x6, x7, x8, x9, x10, x11, x12] (P1 ++ G) = .nx [x0, some (.loc 1), x2, some (.int (1 + r1)), some (wT a), some (wT w), x6, x7, x8, x9, x10, x11, x12] (P3 ++ G) := by
    simp -implicitDefEqProofs [awS, d2a, d2b, ad2, d3]
  have s3 : dueS (k + 6) [x0, some (.loc 1), x2, some (.int (1 + r1)), some (wT a), some (wT w), x6, x7, x8, x9, x10, x11, x12] (P3 ++ G) = .nx [x0, some (.loc 1), x2, some (.int (1 + r1)), some (wT a), some (wT w), some (endT (ye a w) f q), x7, x8, x9, x10, x11, x12] (P3 ++ G) := by
    simp -implicitDefEqProofs [dueS, e4]
  have s5 : stS (k + 6) [x0, some (.loc 1), x2, some (.int (1 + r1)), some (wT a), some (wT w), some (endT (ye a w) f q), x7, x8, x9, x10, x11, x12] (P3 ++ G) = .nx [x0, some (.loc 1), x2, some (.int (1 + r1)), some (wT a), some (wT w), some (endT (ye a w) f q), some (.int st), x8, x9, x10, x11, x12] (P6 ++ G) := by
    simp -implicitDefEqProofs [stS, wT_len, d6, D.gc0 h3 h6 (v := .int st) (G := G) rfl]
  have s6 : tuS [x0, some (.loc 1), x2, some (.int (1 + r1)), some (wT a), some (wT w), some (endT (ye a w) f q), some (.int st), x8, x9, x10, x11, x12] (P6 ++ G) = .nx [x0, some (.loc 1), x2, some (.int (1 + r1)), some (wT a), some (wT w), some (endT (ye a w) f q), some (.int st), some (wT (a.drop st ++ a.take st)), x9, x10, x11, x12] (P6 ++ G) := by
    have sl1 := wT_sl a (some (st : Int)) none (P6 ++ G)
    have sl2 := wT_sl a none (some (st : Int)) (P6 ++ G)
    rw [cut_drop] at sl1
    rw [cut_take] at sl2
    have p := wT_add (a.drop st) (a.take st) (P6 ++ G) (by rw [List.length_drop, List.length_take]; omega)
    generalize a.drop st ++ a.take st = tr at *
    simp -implicitDefEqProofs [tuS, sl1, sl2, p]
  have s9 : ∀ y9, otS (k + 6) [x0, some (.loc 1), x2, some (.int (1 + r1)), some (wT a), some (wT w), some (endT (ye a w) f q), some (.int st), some (wT (a.drop st ++ a.take st)), y9, x10, x11, x12] (P6 ++ G1) = .nx [x0, some (.loc 1), x2, some (.int (1 + r1)), some (wT a), some (wT w), some (endT (ye a w) f q), some (.int st), some (wT (a.drop st ++ a.take st)), y9, some (wT a'), x11, x12] (P9 ++ G1) := fun y9 => by
    simp -implicitDefEqProofs [otS, d9a, d9b, ad9, D.gc0 h6 h9 (v := wT a') (G := G1) (wT_sco _ _)]
  have s10 : ∀ y9, moS (k + 6) [x0, some (.loc 1), x2, some (.int (1 + r1)), some (wT a), some (wT w), some (endT (ye a w) f q), some (.int st), some (wT (a.drop st ++ a.take st)), y9, some (wT a'), x11, x12] (P9 ++ G1) = .nx [x0, some (.loc 1), x2, some (.int (1 + r1)), some (wT a), some (wT w), some (endT (ye a w) f q), some (.int st), some (wT (a.drop st ++ a.take st)), y9, some (wT a'), some (wT w'), x12] (P10 ++ G1) := fun y9 => by
    simp -implicitDefEqProofs [moS, d10, D.gc0 h9 h10 (v := wT w') (G := G1) (wT_sco _ _)]
  refine ⟨_, _, ?_, P12, G1 ++ X12 ++ [.lst [bad], .lst [bad'], .lst [bad], .lst [.str "none"], L4 2 (G1 ++ X12) 0], x0, x2, some (.int (1 + r1)), some (wT a), some (wT w), some (endT (ye a w) f q), some (.int st), some (wT (a.drop st ++ a.take st)), some (.loc (2 + ((G1 ++ X12).length + 4))), some (wT a'), some (wT w'), some bad, h12, rfl, rfl⟩
  rw [turnS, x_sSeq, s1, SR.seq_nx, x_sSeq, s2, SR.seq_nx, x_sSeq, s3, SR.seq_nx, x_sSeq, e5, SR.seq_nx, x_sSeq, s5, SR.seq_nx, x_sSeq, s6, SR.seq_nx, x_sSeq, e7, SR.seq_nx, x_sSeq, e8, SR.seq_nx, x_sSeq, s9, SR.seq_nx, x_sSeq, s10, SR.seq_nx, x_sSeq, e11, SR.seq_nx, x_sSeq, x_sAsg, e12, R.bindS_ok, x_gName]
  simp only [List.set_cons_succ, List.set_cons_zero, SR.seq_nx]
  rw [x_sSeq, e13, SR.seq_nx, x_sSeq, e14, SR.seq_nx, x_sNext]
theorem new_ok (k : Nat) (ns : List Int) : E.C (k + 1) f__law_new [.frl (ns.map T.int)] [] = .ok (.loc 1) (potA ns 0 25597 0 0 []) := by
  rw [U__law_new.eq]
  have g : gc [] [.lst (ns.map T.int), .lst [.int 0, .int 25597, .int 0, .int 0, .loc 0]] (.loc 1) = .ok (.loc 1) [.lst (ns.map T.int), .lst [.int 0, .int 25597, .int 0, .int 0, .loc 0]] := gc_all rfl (Nat.zero_le _) rfl
  simp -implicitDefEqProofs [B__law_new, bList, lstAt, g, potA]
theorem res (ns : List Int) (hl : ns.length ≤ 63) : ∃ S, callF pr (6 + 40 + 1) 15 [.frl (ns.map T.int)] [] = .ok (.bl true) S := by
  have u : callF pr (6 + 40 + 1) 15 [.frl (ns.map T.int)] [] = endOf [] (B_law_v74 E (6 + 40) [some (.frl (ns.map T.int)), none, none, none, none, none, none, none, none, none, none, none, none] []) := u_law.eq (6 + 40) (.frl (ns.map T.int)) []
  rw [u, B_law]
  have g : gc [] (potA ns 0 25597 0 0 []) (.loc 1) = .ok (.loc 1) (potA ns 0 25597 0 0 []) := gc_all rfl (Nat.zero_le _) rfl
  have n := new_ok 45 ns
  have pot : (sAsg (cGc (cCall (E.C (6 + 40) f__law_new) (aCons (cVar 0) aNil))) (gName 1)) [some (.frl (ns.map T.int)), none, none, none, none, none, none, none, none, none, none, none, none] [] =
      .nx [some (.frl (ns.map T.int)), some (.loc 1), none, none, none, none, none, none, none, none, none, none, none] (potA ns 0 25597 0 0 []) := by
    have n' : E.C (6 + 40) f__law_new [.frl (ns.map T.int)] [] = .ok (.loc 1) (potA ns 0 25597 0 0 []) := n
    simp -implicitDefEqProofs only [x_sAsg, x_cGc, x_cCall, x_aCons, x_aNil, x_cVar, List.getElem?_cons_zero, R.bind_ok, n', g, R.bindS_ok, x_gName, List.set_cons_succ, List.set_cons_zero]
  have w := for_wp (g := gName 2) (body := turnS (6 + 40)) (V := fun _ _ => False) (fun _ => Inv) (rgT 0 10) (rgT 0 10) 0 [some (.frl (ns.map T.int)), some (.loc 1), none, none, none, none, none, none, none, none, none, none, none] (potA ns 0 25597 0 0 []) (fun i x τ S hi hI => by
    obtain ⟨P, G, x0, x2, x3, x4, x5, x6, x7, x8, x9, x10, x11, x12, hP, rfl, rfl⟩ := hI
    obtain ⟨τ', S', e, hI'⟩ := turn_ok 40 [x0, some (.loc 1), some x, x3, x4, x5, x6, x7, x8, x9, x10, x11, x12] (P ++ G) ⟨P, G, x0, some x, x3, x4, x5, x6, x7, x8, x9, x10, x11, x12, hP, rfl, rfl⟩
    rw [Nat.add_comm 40 6] at e
    exact ⟨_, rfl, swp_of e hI'⟩) ⟨potA ns 0 25597 0 0 [], [], _, _, _, _, _, _, _, _, _, _, _, _, ⟨ns, 0, 25597, 0, 0, by omega, by omega, by omega, by omega, by omega, hl, rfl⟩, by simp, rfl⟩
  obtain ⟨τ', S', e⟩ : ∃ τ' S', forL .fix (rgT 0 10) (gName 2) (turnS (6 + 40)) (rgT 0 10) [some (.frl (ns.map T.int)), some (.loc 1), none, none, none, none, none, none, none, none, none, none, none] (potA ns 0 25597 0 0 []) = .nx τ' S' := by
    cases hf : forL .fix (rgT 0 10) (gName 2) (turnS (6 + 40)) (rgT 0 10) [some (.frl (ns.map T.int)), some (.loc 1), none, none, none, none, none, none, none, none, none, none, none] (potA ns 0 25597 0 0 []) with
    | nx τ' S' => exact ⟨_, _, rfl⟩
    | _ => rw [hf] at w; exact w.elim
  have i8 : iRg1 (cK (.int 10)) [some (.frl (ns.map T.int)), some (.loc 1), none, none, none, none, none, none, none, none, none, none, none] (potA ns 0 25597 0 0 []) = .ok (rgT 0 10, .fix) (potA ns 0 25597 0 0 []) := iRg1_ok (S1 := potA ns 0 25597 0 0 []) rfl (by omega) (by omega)
  have gk : gc [] S' (.bl true) = .ok (.bl true) [] := gc_keep (S := []) ⟨Nat.zero_le _, fun i hi => absurd hi (Nat.not_lt_zero _)⟩ rfl
  rw [x_sSeq, pot, SR.seq_nx, x_sSeq, x_sFor, i8, R.bindS_ok, e, SR.seq_nx, x_sSeq, x_sRet, x_cK, R.bindS_ok, SR.seq_rt, x_endrt, gk]
  exact ⟨_, rfl⟩
end K76
end
section
set_option Elab.async false
set_option linter.all false
set_option maxRecDepth 100000
set_option maxHeartbeats 4000000
set_option autoImplicit false
set_option maxHeartbeats 8000000
namespace K76
open EV PySem PySem.Spec PyProof.Rows

theorem sc_is_integer : L2.FnScope d_is_integer.N d_is_integer.ps (L2.defScope d_is_integer.st) := ⟨rfl, rfl, rfl, by decide +kernel, rfl, by decide +kernel, by decide +kernel⟩
theorem sc_is_natural : L2.FnScope d_is_natural.N d_is_natural.ps (L2.defScope d_is_natural.st) := ⟨rfl, rfl, rfl, by decide +kernel, rfl, by decide +kernel, by decide +kernel⟩
theorem sc_are_below : L2.FnScope d_are_below.N d_are_below.ps (L2.defScope d_are_below.st) := ⟨rfl, rfl, rfl, by decide +kernel, rfl, by decide +kernel, by decide +kernel⟩
theorem sc_check_word : L2.FnScope d_check_word.N d_check_word.ps (L2.defScope d_check_word.st) := ⟨rfl, rfl, rfl, by decide +kernel, rfl, by decide +kernel, by decide +kernel⟩
theorem sc_check_again : L2.FnScope d_check_again.N d_check_again.ps (L2.defScope d_check_again.st) := ⟨rfl, rfl, rfl, by decide +kernel, rfl, by decide +kernel, by decide +kernel⟩
theorem sc_least_turn : L2.FnScope d_least_turn.N d_least_turn.ps (L2.defScope d_least_turn.st) := ⟨rfl, rfl, rfl, by decide +kernel, rfl, by decide +kernel, by decide +kernel⟩
theorem sc_short_end : L2.FnScope d_short_end.N d_short_end.ps (L2.defScope d_short_end.st) := ⟨rfl, rfl, rfl, by decide +kernel, rfl, by decide +kernel, by decide +kernel⟩
theorem sc_end_form : L2.FnScope d_end_form.N d_end_form.ps (L2.defScope d_end_form.st) := ⟨rfl, rfl, rfl, by decide +kernel, rfl, by decide +kernel, by decide +kernel⟩
theorem sc__law_new : L2.FnScope d__law_new.N d__law_new.ps (L2.defScope d__law_new.st) := ⟨rfl, rfl, rfl, by decide +kernel, rfl, by decide +kernel, by decide +kernel⟩
theorem sc__law_draw : L2.FnScope d__law_draw.N d__law_draw.ps (L2.defScope d__law_draw.st) := ⟨rfl, rfl, rfl, by decide +kernel, rfl, by decide +kernel, by decide +kernel⟩
theorem sc__law_same : L2.FnScope d__law_same.N d__law_same.ps (L2.defScope d__law_same.st) := ⟨rfl, rfl, rfl, by decide +kernel, rfl, by decide +kernel, by decide +kernel⟩
theorem sc__law_word : L2.FnScope d__law_word.N d__law_word.ps (L2.defScope d__law_word.st) := ⟨rfl, rfl, rfl, by decide +kernel, rfl, by decide +kernel, by decide +kernel⟩
theorem sc__law_end : L2.FnScope d__law_end.N d__law_end.ps (L2.defScope d__law_end.st) := ⟨rfl, rfl, rfl, by decide +kernel, rfl, by decide +kernel, by decide +kernel⟩
theorem sc__law_last : L2.FnScope d__law_last.N d__law_last.ps (L2.defScope d__law_last.st) := ⟨rfl, rfl, rfl, by decide +kernel, rfl, by decide +kernel, by decide +kernel⟩
theorem sc__law_refused : L2.FnScope d__law_refused.N d__law_refused.ps (L2.defScope d__law_refused.st) := ⟨rfl, rfl, rfl, by decide +kernel, rfl, by decide +kernel, by decide +kernel⟩
theorem sc_law : L2.FnScope d_law.N d_law.ps (L2.defScope d_law.st) := ⟨rfl, rfl, rfl, by decide +kernel, rfl, by decide +kernel, by decide +kernel⟩
def initS : Stmt := clsBody (topS 1) 0
theorem sc_init : L2.FnScope ["self", "value"] ["self", "value"] (L2.defScope initS) := ⟨rfl, rfl, rfl, by decide +kernel, rfl, by decide +kernel, by decide +kernel⟩
theorem kwb7 {K : PySem.W.Frag} {f : Addr} {fd : FuncData} {x qual : Str} (F : L2.Fun K x qual d_end_form.st f fd) : ∀ m ks, (7, m, ks) ∈ pr.kw → L2.KBinds K fd d_end_form.ps ks (gArg Value.none d_end_form.ps ks m) (gArg L2.V.non d_end_form.ps ks m) := by
  intro m ks h
  have h : (m = 0 ∧ ks = (["word", "again"] : List Str)) := by simpa [pr] using h
  obtain ⟨rfl, rfl⟩ := h
  · exact kb_of F (by decide) fun _ _ _ _ _ _ us ws hu hw => match us, ws, hu, hw with | [], [_, _], _, _ => rfl

theorem facts {K : PySem.W.Frag} {h : Heap} {mg : Str → Option Value} (X : K.In h) (G : h.Ns mainGlobals mg)
    {f0 : Addr} {od0 an0 : Option Addr} {sl0 : Array (Option Value)} {oc0 kV0 dc0 pm0 cd0 ct0 : Value}
    {f1 : Addr} {od1 an1 : Option Addr} {sl1 : Array (Option Value)} {oc1 kV1 dc1 pm1 cd1 ct1 : Value}
    {f2 : Addr} {od2 an2 : Option Addr} {sl2 : Array (Option Value)} {oc2 kV2 dc2 pm2 cd2 ct2 : Value}
    {f3 : Addr} {od3 an3 : Option Addr} {sl3 : Array (Option Value)} {oc3 kV3 dc3 pm3 cd3 ct3 : Value}
    {f4 : Addr} {od4 an4 : Option Addr} {sl4 : Array (Option Value)} {oc4 kV4 dc4 pm4 cd4 ct4 : Value}
    {f5 : Addr} {od5 an5 : Option Addr} {sl5 : Array (Option Value)} {oc5 kV5 dc5 pm5 cd5 ct5 : Value}
    {f6 : Addr} {od6 an6 : Option Addr} {sl6 : Array (Option Value)} {oc6 kV6 dc6 pm6 cd6 ct6 : Value}
    {f7 : Addr} {od7 an7 : Option Addr} {sl7 : Array (Option Value)} {oc7 kV7 dc7 pm7 cd7 ct7 : Value}
    {f8 : Addr} {od8 an8 : Option Addr} {sl8 : Array (Option Value)} {oc8 kV8 dc8 pm8 cd8 ct8 : Value}
    {f9 : Addr} {od9 an9 : Option Addr} {sl9 : Array (Option Value)} {oc9 kV9 dc9 pm9 cd9 ct9 : Value}
    {f10 : Addr} {od10 an10 : Option Addr} {sl10 : Array (Option Value)} {oc10 kV10 dc10 pm10 cd10 ct10 : Value}
    {f11 : Addr} {od11 an11 : Option Addr} {sl11 : Array (Option Value)} {oc11 kV11 dc11 pm11 cd11 ct11 : Value}
    {f12 : Addr} {od12 an12 : Option Addr} {sl12 : Array (Option Value)} {oc12 kV12 dc12 pm12 cd12 ct12 : Value}
    {f13 : Addr} {od13 an13 : Option Addr} {sl13 : Array (Option Value)} {oc13 kV13 dc13 pm13 cd13 ct13 : Value}
    {f14 : Addr} {od14 an14 : Option Addr} {sl14 : Array (Option Value)} {oc14 kV14 dc14 pm14 cd14 ct14 : Value}
    {f15 : Addr} {od15 an15 : Option Addr} {sl15 : Array (Option Value)} {oc15 kV15 dc15 pm15 cd15 ct15 : Value}
    {u0 : Value}
    {fI : Addr} {odI anI : Option Addr} {slI : Array (Option Value)} {ocI kVI dcI pmI cdI ctI : Value}
    {C0 N0 : Addr} {nm0 q0 : Str} {bs0 sb0 : List Value} {sn0 : List Str} {ab0 : Bool} {col0 : Option Bool} {dd0 : Option Addr} {ma0 mb0 mc0 md0 me0 : Option Value}
    {C1 N1 : Addr} {nm1 q1 : Str} {bs1 sb1 : List Value} {sn1 : List Str} {ab1 : Bool} {col1 : Option Bool} {dd1 : Option Addr} {ma1 mb1 mc1 md1 me1 : Option Value}
    (a0 : PySem.W.nsIn K mainGlobals "is_integer" = some (some (.ref f0))) (l0 : K.lookup f0 = some ⟨oc0, od0, .func (PySem.W.fnOf "is_integer" "is_integer" (L2.defArgs d_is_integer.st) (L2.defBody d_is_integer.st) (L2.defScope d_is_integer.st) .none kV0 dc0 pm0 an0 cd0 ct0), sl0⟩) (c0 : PySem.W.codeIn K cd0 "is_integer" = true) (k0 : PySem.W.keepIn K (.ref f0) = true)
    (a1 : PySem.W.nsIn K mainGlobals "is_natural" = some (some (.ref f1))) (l1 : K.lookup f1 = some ⟨oc1, od1, .func (PySem.W.fnOf "is_natural" "is_natural" (L2.defArgs d_is_natural.st) (L2.defBody d_is_natural.st) (L2.defScope d_is_natural.st) .none kV1 dc1 pm1 an1 cd1 ct1), sl1⟩) (c1 : PySem.W.codeIn K cd1 "is_natural" = true) (k1 : PySem.W.keepIn K (.ref f1) = true)
    (a2 : PySem.W.nsIn K mainGlobals "are_below" = some (some (.ref f2))) (l2 : K.lookup f2 = some ⟨oc2, od2, .func (PySem.W.fnOf "are_below" "are_below" (L2.defArgs d_are_below.st) (L2.defBody d_are_below.st) (L2.defScope d_are_below.st) .none kV2 dc2 pm2 an2 cd2 ct2), sl2⟩) (c2 : PySem.W.codeIn K cd2 "are_below" = true) (k2 : PySem.W.keepIn K (.ref f2) = true)
    (a3 : PySem.W.nsIn K mainGlobals "check_word" = some (some (.ref f3))) (l3 : K.lookup f3 = some ⟨oc3, od3, .func (PySem.W.fnOf "check_word" "check_word" (L2.defArgs d_check_word.st) (L2.defBody d_check_word.st) (L2.defScope d_check_word.st) .none kV3 dc3 pm3 an3 cd3 ct3), sl3⟩) (c3 : PySem.W.codeIn K cd3 "check_word" = true) (k3 : PySem.W.keepIn K (.ref f3) = true)
    (a4 : PySem.W.nsIn K mainGlobals "check_again" = some (some (.ref f4))) (l4 : K.lookup f4 = some ⟨oc4, od4, .func (PySem.W.fnOf "check_again" "check_again" (L2.defArgs d_check_again.st) (L2.defBody d_check_again.st) (L2.defScope d_check_again.st) .none kV4 dc4 pm4 an4 cd4 ct4), sl4⟩) (c4 : PySem.W.codeIn K cd4 "check_again" = true) (k4 : PySem.W.keepIn K (.ref f4) = true)
    (a5 : PySem.W.nsIn K mainGlobals "least_turn" = some (some (.ref f5))) (l5 : K.lookup f5 = some ⟨oc5, od5, .func (PySem.W.fnOf "least_turn" "least_turn" (L2.defArgs d_least_turn.st) (L2.defBody d_least_turn.st) (L2.defScope d_least_turn.st) .none kV5 dc5 pm5 an5 cd5 ct5), sl5⟩) (c5 : PySem.W.codeIn K cd5 "least_turn" = true) (k5 : PySem.W.keepIn K (.ref f5) = true)
    (a6 : PySem.W.nsIn K mainGlobals "short_end" = some (some (.ref f6))) (l6 : K.lookup f6 = some ⟨oc6, od6, .func (PySem.W.fnOf "short_end" "short_end" (L2.defArgs d_short_end.st) (L2.defBody d_short_end.st) (L2.defScope d_short_end.st) .none kV6 dc6 pm6 an6 cd6 ct6), sl6⟩) (c6 : PySem.W.codeIn K cd6 "short_end" = true) (k6 : PySem.W.keepIn K (.ref f6) = true)
    (a7 : PySem.W.nsIn K mainGlobals "end_form" = some (some (.ref f7))) (l7 : K.lookup f7 = some ⟨oc7, od7, .func (PySem.W.fnOf "end_form" "end_form" (L2.defArgs d_end_form.st) (L2.defBody d_end_form.st) (L2.defScope d_end_form.st) .none kV7 dc7 pm7 an7 cd7 ct7), sl7⟩) (c7 : PySem.W.codeIn K cd7 "end_form" = true) (k7 : PySem.W.keepIn K (.ref f7) = true)
    (a8 : PySem.W.nsIn K mainGlobals "_law_new" = some (some (.ref f8))) (l8 : K.lookup f8 = some ⟨oc8, od8, .func (PySem.W.fnOf "_law_new" "_law_new" (L2.defArgs d__law_new.st) (L2.defBody d__law_new.st) (L2.defScope d__law_new.st) .none kV8 dc8 pm8 an8 cd8 ct8), sl8⟩) (c8 : PySem.W.codeIn K cd8 "_law_new" = true) (k8 : PySem.W.keepIn K (.ref f8) = true)
    (a9 : PySem.W.nsIn K mainGlobals "_law_draw" = some (some (.ref f9))) (l9 : K.lookup f9 = some ⟨oc9, od9, .func (PySem.W.fnOf "_law_draw" "_law_draw" (L2.defArgs d__law_draw.st) (L2.defBody d__law_draw.st) (L2.defScope d__law_draw.st) .none kV9 dc9 pm9 an9 cd9 ct9), sl9⟩) (c9 : PySem.W.codeIn K cd9 "_law_draw" = true) (k9 : PySem.W.keepIn K (.ref f9) = true)
    (a10 : PySem.W.nsIn K mainGlobals "_law_same" = some (some (.ref f10))) (l10 : K.lookup f10 = some ⟨oc10, od10, .func (PySem.W.fnOf "_law_same" "_law_same" (L2.defArgs d__law_same.st) (L2.defBody d__law_same.st) (L2.defScope d__law_same.st) .none kV10 dc10 pm10 an10 cd10 ct10), sl10⟩) (c10 : PySem.W.codeIn K cd10 "_law_same" = true) (k10 : PySem.W.keepIn K (.ref f10) = true)
    (a11 : PySem.W.nsIn K mainGlobals "_law_word" = some (some (.ref f11))) (l11 : K.lookup f11 = some ⟨oc11, od11, .func (PySem.W.fnOf "_law_word" "_law_word" (L2.defArgs d__law_word.st) (L2.defBody d__law_word.st) (L2.defScope d__law_word.st) .none kV11 dc11 pm11 an11 cd11 ct11), sl11⟩) (c11 : PySem.W.codeIn K cd11 "_law_word" = true) (k11 : PySem.W.keepIn K (.ref f11) = true)
    (a12 : PySem.W.nsIn K mainGlobals "_law_end" = some (some (.ref f12))) (l12 : K.lookup f12 = some ⟨oc12, od12, .func (PySem.W.fnOf "_law_end" "_law_end" (L2.defArgs d__law_end.st) (L2.defBody d__law_end.st) (L2.defScope d__law_end.st) .none kV12 dc12 pm12 an12 cd12 ct12), sl12⟩) (c12 : PySem.W.codeIn K cd12 "_law_end" = true) (k12 : PySem.W.keepIn K (.ref f12) = true)
    (a13 : PySem.W.nsIn K mainGlobals "_law_last" = some (some (.ref f13))) (l13 : K.lookup f13 = some ⟨oc13, od13, .func (PySem.W.fnOf "_law_last" "_law_last" (L2.defArgs d__law_last.st) (L2.defBody d__law_last.st) (L2.defScope d__law_last.st) .none kV13 dc13 pm13 an13 cd13 ct13), sl13⟩) (c13 : PySem.W.codeIn K cd13 "_law_last" = true) (k13 : PySem.W.keepIn K (.ref f13) = true)
    (a14 : PySem.W.nsIn K mainGlobals "_law_refused" = some (some (.ref f14))) (l14 : K.lookup f14 = some ⟨oc14, od14, .func (PySem.W.fnOf "_law_refused" "_law_refused" (L2.defArgs d__law_refused.st) (L2.defBody d__law_refused.st) (L2.defScope d__law_refused.st) .none kV14 dc14 pm14 an14 cd14 ct14), sl14⟩) (c14 : PySem.W.codeIn K cd14 "_law_refused" = true) (k14 : PySem.W.keepIn K (.ref f14) = true)
    (a15 : PySem.W.nsIn K mainGlobals "law" = some (some (.ref f15))) (l15 : K.lookup f15 = some ⟨oc15, od15, .func (PySem.W.fnOf "law" "law" (L2.defArgs d_law.st) (L2.defBody d_law.st) (L2.defScope d_law.st) .none kV15 dc15 pm15 an15 cd15 ct15), sl15⟩) (c15 : PySem.W.codeIn K cd15 "law" = true) (k15 : PySem.W.keepIn K (.ref f15) = true)
    (z_len : PySem.W.nsIn K mainGlobals "len" = some none)
    (z_range : PySem.W.nsIn K mainGlobals "range" = some none)
    (z_isinstance : PySem.W.nsIn K mainGlobals "isinstance" = some none)
    (z_int : PySem.W.nsIn K mainGlobals "int" = some none)
    (z_bool : PySem.W.nsIn K mainGlobals "bool" = some none)
    (z_str : PySem.W.nsIn K mainGlobals "str" = some none)
    (z_list : PySem.W.nsIn K mainGlobals "list" = some none)
    (z_tuple : PySem.W.nsIn K mainGlobals "tuple" = some none)
    (z_dict : PySem.W.nsIn K mainGlobals "dict" = some none)
    (z_all : PySem.W.nsIn K mainGlobals "all" = some none)
    (z_ValueError : PySem.W.nsIn K mainGlobals "ValueError" = some none)
    (y0 : PySem.W.nsIn K mainGlobals "MOST_LETTERS" = some (some u0)) (v0 : L2.RelV (L2.V.int 4) u0)
    (lI : K.lookup fI = some ⟨ocI, odI, .func (PySem.W.fnOf "__init__" "NucleiError.__init__" (L2.defArgs initS) (L2.defBody initS) (L2.defScope initS) .none kVI dcI pmI anI cdI ctI), slI⟩) (cI : PySem.W.codeIn K cdI "NucleiError.__init__" = true) (kI : PySem.W.keepIn K (.ref fI) = true) (tI : PySem.W.typeIn K (.ref fI) = some (.type "function"))
    (vV : PySem.W.findCls K (.type "ValueError") (.type "type") "__init__" = some (.val (.builtin "ValueError.__init__"))) (cn : PySem.W.specialIn K (.builtin "object.__class__") "__get__" = some (some (.builtin "getset_descriptor.__get__"))) (ctk : PySem.W.takesIn K (.builtin "object.__class__") = some true)
    (aC0 : PySem.W.nsIn K mainGlobals "NucleiError" = some (some (.ref C0)))
    (xL0 : K.lookup C0 = some (excClassObj nm0 q0 C0 N0 bs0 [.type "ValueError", .type "Exception", .type "BaseException", .type "object"] true sn0 sb0 ab0 col0 dd0 ma0 mb0 mc0 md0 me0 "ValueError.__new__"))
    (sa0 : PySem.W.findIn K (.ref C0) "__setattr__" = some (some (.builtin "object.__setattr__"))) (ga0 : PySem.W.findIn K (.ref C0) "__getattribute__" = some (some (.builtin "BaseException.__getattribute__"))) (gg0 : PySem.W.findIn K (.ref C0) "__getattr__" = some none) (nv0 : PySem.W.findIn K (.ref C0) "value" = some none) (iC0 : PySem.W.findIn K (.ref C0) "__init__" = some (some (.ref fI))) (hA0 : PySem.W.findIn K (.ref C0) "__class__" = some (some (.builtin "object.__class__")))
    (kC0 : PySem.W.keepIn K (.ref C0) = true) (eC0 : PySem.W.subIn K (.ref C0) (.type "BaseException") = some true) (ve0 : PySem.W.subIn K (.ref C0) (.type "ValueError") = some true) (tC0 : PySem.W.typeIn K (.ref C0) = some (.type "type")) (hC0 : PySem.W.hasDictIn K C0 = true) (hM0 : PySem.W.mroIn K C0 (.type "object") = some true) (nN0 : PySem.W.kitOne K (.type "NoneType") (.ref C0) = some false)
    (aC1 : PySem.W.nsIn K mainGlobals "InvalidWord" = some (some (.ref C1)))
    (xL1 : K.lookup C1 = some (excClassObj nm1 q1 C1 N1 bs1 [.ref C0, .type "ValueError", .type "Exception", .type "BaseException", .type "object"] true sn1 sb1 ab1 col1 dd1 ma1 mb1 mc1 md1 me1 "ValueError.__new__"))
    (sa1 : PySem.W.findIn K (.ref C1) "__setattr__" = some (some (.builtin "object.__setattr__"))) (ga1 : PySem.W.findIn K (.ref C1) "__getattribute__" = some (some (.builtin "BaseException.__getattribute__"))) (gg1 : PySem.W.findIn K (.ref C1) "__getattr__" = some none) (nv1 : PySem.W.findIn K (.ref C1) "value" = some none) (iC1 : PySem.W.findIn K (.ref C1) "__init__" = some (some (.ref fI))) (hA1 : PySem.W.findIn K (.ref C1) "__class__" = some (some (.builtin "object.__class__")))
    (kC1 : PySem.W.keepIn K (.ref C1) = true) (eC1 : PySem.W.subIn K (.ref C1) (.type "BaseException") = some true) (ve1 : PySem.W.subIn K (.ref C1) (.type "ValueError") = some true) (tC1 : PySem.W.typeIn K (.ref C1) = some (.type "type")) (hC1 : PySem.W.hasDictIn K C1 = true) (hM1 : PySem.W.mroIn K C1 (.type "object") = some true) (nN1 : PySem.W.kitOne K (.type "NoneType") (.ref C1) = some false)
    (s0_1 : PySem.W.subIn K (.ref C0) (.ref C1) = some false)
    (s1_1 : PySem.W.subIn K (.ref C1) (.ref C1) = some true)
    : ∃ cl, Facts pr K mg cl := by
  have init : L2.Fun K "__init__" "NucleiError.__init__" initS fI _ := L2.fun_mk lI cI kI
  have ex0 : ExcK K C0 := ⟨ga0, gg0, nv0, eC0, ve0, hC0, hA0, cn, ctk, hM0⟩
  have cf0 : ClsF K C0 fI := ⟨⟨_, _, _, _, _, _, _, _, _, _, _, _, _, _, _, xL0, rfl⟩, sa0, iC0, kC0, tC0, nN0, ex0⟩
  have ex1 : ExcK K C1 := ⟨ga1, gg1, nv1, eC1, ve1, hC1, hA1, cn, ctk, hM1⟩
  have cf1 : ClsF K C1 fI := ⟨⟨_, _, _, _, _, _, _, _, _, _, _, _, _, _, _, xL1, rfl⟩, sa1, iC1, kC1, tC1, nN1, ex1⟩
  refine ⟨fun i => match i with | 0 => C0 | _ + 1 => C1, ⟨⟨?_, ?_, ?_, ?_, ?_, ?_, ?_⟩, ?_, ?_, ?_⟩⟩
  · exact gl_fn (by decide +kernel)
  · exact gl_clsP ⟨trivial, trivial, trivial, trivial, trivial, trivial, trivial, trivial, trivial, trivial, trivial, trivial, trivial, trivial, trivial, trivial, PySem.W.mg_of X G aC1, trivial, trivial, trivial, trivial, trivial, trivial, trivial, trivial, trivial, trivial, trivial⟩
  · refine gl_con ?_
    exact ⟨trivial, trivial, trivial, trivial, trivial, trivial, trivial, trivial, trivial, trivial, trivial, trivial, trivial, trivial, trivial, ⟨(L2.V.int 4), _, PySem.W.mg_of X G y0, v0, fun _ _ => Rp.int 4⟩, trivial, trivial, trivial, trivial, trivial, trivial, trivial, trivial, trivial, trivial, trivial, trivial⟩
  · refine gl_blt (by decide +kernel) ?_
    exact ⟨trivial, trivial, trivial, trivial, trivial, trivial, trivial, trivial, trivial, trivial, trivial, trivial, trivial, trivial, trivial, trivial, trivial, PySem.W.mg_none_of X G z_len, PySem.W.mg_none_of X G z_range, PySem.W.mg_none_of X G z_isinstance, PySem.W.mg_none_of X G z_int, PySem.W.mg_none_of X G z_bool, PySem.W.mg_none_of X G z_str, PySem.W.mg_none_of X G z_list, PySem.W.mg_none_of X G z_tuple, PySem.W.mg_none_of X G z_dict, PySem.W.mg_none_of X G z_all, trivial⟩
  · exact gl_clsP ⟨trivial, trivial, trivial, trivial, trivial, trivial, trivial, trivial, trivial, trivial, trivial, trivial, trivial, trivial, trivial, trivial, nN1, trivial, trivial, trivial, trivial, trivial, trivial, trivial, trivial, trivial, trivial, trivial⟩
  · exact gl_clsP ⟨trivial, trivial, trivial, trivial, trivial, trivial, trivial, trivial, trivial, trivial, trivial, trivial, trivial, trivial, trivial, trivial, (fun c => match c with | 0 => kit_of_sub ex1 tC1 s0_1 (.inr (ne_of_sub s0_1 s1_1)) | _ + 1 => kit_of_sub ex1 tC1 s1_1 (.inl rfl)), trivial, trivial, trivial, trivial, trivial, trivial, trivial, trivial, trivial, trivial, trivial⟩
  · exact fun c => match c with | 0 => ex0 | _ + 1 => ex1
  · refine all_defs ?_
    exact ⟨⟨_, _, _, PySem.W.mg_of X G a0, L2.fun_mk l0 c0 k0, (L2.fun_mk (st := d_is_integer.st) l0 c0 k0).binds (ps := d_is_integer.ps) fun _ _ _ _ _ _ us hl => match us, hl with | [_], _ => rfl, sc_is_integer, kw_no (by decide +kernel)⟩,
      ⟨_, _, _, PySem.W.mg_of X G a1, L2.fun_mk l1 c1 k1, (L2.fun_mk (st := d_is_natural.st) l1 c1 k1).binds (ps := d_is_natural.ps) fun _ _ _ _ _ _ us hl => match us, hl with | [_], _ => rfl, sc_is_natural, kw_no (by decide +kernel)⟩,
      ⟨_, _, _, PySem.W.mg_of X G a2, L2.fun_mk l2 c2 k2, (L2.fun_mk (st := d_are_below.st) l2 c2 k2).binds (ps := d_are_below.ps) fun _ _ _ _ _ _ us hl => match us, hl with | [_, _], _ => rfl, sc_are_below, kw_no (by decide +kernel)⟩,
      ⟨_, _, _, PySem.W.mg_of X G a3, L2.fun_mk l3 c3 k3, (L2.fun_mk (st := d_check_word.st) l3 c3 k3).binds (ps := d_check_word.ps) fun _ _ _ _ _ _ us hl => match us, hl with | [_, _], _ => rfl, sc_check_word, kw_no (by decide +kernel)⟩,
      ⟨_, _, _, PySem.W.mg_of X G a4, L2.fun_mk l4 c4 k4, (L2.fun_mk (st := d_check_again.st) l4 c4 k4).binds (ps := d_check_again.ps) fun _ _ _ _ _ _ us hl => match us, hl with | [_, _], _ => rfl, sc_check_again, kw_no (by decide +kernel)⟩,
      ⟨_, _, _, PySem.W.mg_of X G a5, L2.fun_mk l5 c5 k5, (L2.fun_mk (st := d_least_turn.st) l5 c5 k5).binds (ps := d_least_turn.ps) fun _ _ _ _ _ _ us hl => match us, hl with | [_], _ => rfl, sc_least_turn, kw_no (by decide +kernel)⟩,
      ⟨_, _, _, PySem.W.mg_of X G a6, L2.fun_mk l6 c6 k6, (L2.fun_mk (st := d_short_end.st) l6 c6 k6).binds (ps := d_short_end.ps) fun _ _ _ _ _ _ us hl => match us, hl with | [_, _], _ => rfl, sc_short_end, kw_no (by decide +kernel)⟩,
      ⟨_, _, _, PySem.W.mg_of X G a7, L2.fun_mk l7 c7 k7, (L2.fun_mk (st := d_end_form.st) l7 c7 k7).binds (ps := d_end_form.ps) fun _ _ _ _ _ _ us hl => match us, hl with | [_, _], _ => rfl, sc_end_form, kwb7 (L2.fun_mk l7 c7 k7)⟩,
      ⟨_, _, _, PySem.W.mg_of X G a8, L2.fun_mk l8 c8 k8, (L2.fun_mk (st := d__law_new.st) l8 c8 k8).binds (ps := d__law_new.ps) fun _ _ _ _ _ _ us hl => match us, hl with | [_], _ => rfl, sc__law_new, kw_no (by decide +kernel)⟩,
      ⟨_, _, _, PySem.W.mg_of X G a9, L2.fun_mk l9 c9 k9, (L2.fun_mk (st := d__law_draw.st) l9 c9 k9).binds (ps := d__law_draw.ps) fun _ _ _ _ _ _ us hl => match us, hl with | [_, _], _ => rfl, sc__law_draw, kw_no (by decide +kernel)⟩,
      ⟨_, _, _, PySem.W.mg_of X G a10, L2.fun_mk l10 c10 k10, (L2.fun_mk (st := d__law_same.st) l10 c10 k10).binds (ps := d__law_same.ps) fun _ _ _ _ _ _ us hl => match us, hl with | [_, _], _ => rfl, sc__law_same, kw_no (by decide +kernel)⟩,
      ⟨_, _, _, PySem.W.mg_of X G a11, L2.fun_mk l11 c11 k11, (L2.fun_mk (st := d__law_word.st) l11 c11 k11).binds (ps := d__law_word.ps) fun _ _ _ _ _ _ us hl => match us, hl with | [_, _, _], _ => rfl, sc__law_word, kw_no (by decide +kernel)⟩,
      ⟨_, _, _, PySem.W.mg_of X G a12, L2.fun_mk l12 c12 k12, (L2.fun_mk (st := d__law_end.st) l12 c12 k12).binds (ps := d__law_end.ps) fun _ _ _ _ _ _ us hl => match us, hl with | [_, _], _ => rfl, sc__law_end, kw_no (by decide +kernel)⟩,
      ⟨_, _, _, PySem.W.mg_of X G a13, L2.fun_mk l13 c13 k13, (L2.fun_mk (st := d__law_last.st) l13 c13 k13).binds (ps := d__law_last.ps) fun _ _ _ _ _ _ us hl => match us, hl with | [_, _], _ => rfl, sc__law_last, kw_no (by decide +kernel)⟩,
      ⟨_, _, _, PySem.W.mg_of X G a14, L2.fun_mk l14 c14 k14, (L2.fun_mk (st := d__law_refused.st) l14 c14 k14).binds (ps := d__law_refused.ps) fun _ _ _ _ _ _ us hl => match us, hl with | [_, _], _ => rfl, sc__law_refused, kw_no (by decide +kernel)⟩,
      ⟨_, _, _, PySem.W.mg_of X G a15, L2.fun_mk l15 c15 k15, (L2.fun_mk (st := d_law.st) l15 c15 k15).binds (ps := d_law.ps) fun _ _ _ _ _ _ us hl => match us, hl with | [_], _ => rfl, sc_law, kw_no (by decide +kernel)⟩, trivial⟩
  · exact kw_all (by decide +kernel)
  · intro _
    refine ⟨gl_clsP ⟨trivial, trivial, trivial, trivial, trivial, trivial, trivial, trivial, trivial, trivial, trivial, trivial, trivial, trivial, trivial, trivial, (fun c => match c with | 0 => exm_of ex1 tC1 s0_1 | _ + 1 => exm_of ex1 tC1 s1_1), trivial, trivial, trivial, trivial, trivial, trivial, trivial, trivial, trivial, trivial, trivial⟩, _, _, fun P w base => ok_init (k := 0) init sc_init rfl (fun env => ⟨_, rfl⟩) rfl rfl rfl (PySem.W.mg_none_of X G z_ValueError) vV, init.binds (ps := ["self", "value"]) fun _ _ _ _ _ _ us hl => match us, hl with | [_, _], _ => rfl, gl_clsP ⟨trivial, trivial, trivial, trivial, trivial, trivial, trivial, trivial, trivial, trivial, trivial, trivial, trivial, trivial, trivial, trivial, cf1.mk' tI, trivial, trivial, trivial, trivial, trivial, trivial, trivial, trivial, trivial, trivial, trivial⟩⟩
end K76
open PySem PySem.W PyProof.Rows EV
set_option maxHeartbeats 0 in
theorem PySem.Challenge.cw_wholenuclei_k76_end_forms_holds : PySem.Challenge.rw_wholenuclei_k76_end_forms.Holds := by
  w_on; o_law; k_head; (case hw => w_witness2)
  k_fill
  refine law_end (l := PySem.Challenge.rw_wholenuclei_k76_end_forms) (n := 63) (k := 46) K76.pr 15 K76.d_law rfl rfl rfl rfl (by decide) rfl ⟨rfl, by decide, by decide⟩ (fun w h Y => PySem.W.kIn_of Y) ?F (fun K a fd qual F u => by obtain ⟨oc, od, kV, doc, pm, an, cdv, ct, osl, rfl, lk, hcd⟩ := F.ex; rfl) K76.res
  case F =>
    intro w mg h KX G
    refine' K76.facts KX G ?a0 ?l0 ?c0 ?k0 ?a1 ?l1 ?c1 ?k1 ?a2 ?l2 ?c2 ?k2 ?a3 ?l3 ?c3 ?k3 ?a4 ?l4 ?c4 ?k4 ?a5 ?l5 ?c5 ?k5 ?a6 ?l6 ?c6 ?k6 ?a7 ?l7 ?c7 ?k7 ?a8 ?l8 ?c8 ?k8 ?a9 ?l9 ?c9 ?k9 ?a10 ?l10 ?c10 ?k10 ?a11 ?l11 ?c11 ?k11 ?a12 ?l12 ?c12 ?k12 ?a13 ?l13 ?c13 ?k13 ?a14 ?l14 ?c14 ?k14 ?a15 ?l15 ?c15 ?k15 ?z_len ?z_range ?z_isinstance ?z_int ?z_bool ?z_str ?z_list ?z_tuple ?z_dict ?z_all ?z_ValueError ?y0 ?v0 ?lI ?cI ?kI ?tI ?vV ?cn ?ctk ?aC0 ?xL0 ?sa0 ?ga0 ?gg0 ?nv0 ?iC0 ?hA0 ?kC0 ?eC0 ?ve0 ?tC0 ?hC0 ?hM0 ?nN0 ?aC1 ?xL1 ?sa1 ?ga1 ?gg1 ?nv1 ?iC1 ?hA1 ?kC1 ?eC1 ?ve1 ?tC1 ?hC1 ?hM1 ?nN1 ?s0_1 ?s1_1
    (case a0 => first | k_is | rfl)
    (case a1 => first | k_is | rfl)
    (case a2 => first | k_is | rfl)
    (case a3 => first | k_is | rfl)
    (case a4 => first | k_is | rfl)
    (case a5 => first | k_is | rfl)
    (case a6 => first | k_is | rfl)
    (case a7 => first | k_is | rfl)
    (case a8 => first | k_is | rfl)
    (case a9 => first | k_is | rfl)
    (case a10 => first | k_is | rfl)
    (case a11 => first | k_is | rfl)
    (case a12 => first | k_is | rfl)
    (case a13 => first | k_is | rfl)
    (case a14 => first | k_is | rfl)
    (case a15 => first | k_is | rfl)
    (case aC0 => first | k_is | rfl)
    (case aC1 => first | k_is | rfl)
    (case l0 => first | k_is | rfl)
    (case l1 => first | k_is | rfl)
    (case l2 => first | k_is | rfl)
    (case l3 => first | k_is | rfl)
    (case l4 => first | k_is | rfl)
    (case l5 => first | k_is | rfl)
    (case l6 => first | k_is | rfl)
    (case l7 => first | k_is | rfl)
    (case l8 => first | k_is | rfl)
    (case l9 => first | k_is | rfl)
    (case l10 => first | k_is | rfl)
    (case l11 => first | k_is | rfl)
    (case l12 => first | k_is | rfl)
    (case l13 => first | k_is | rfl)
    (case l14 => first | k_is | rfl)
    (case l15 => first | k_is | rfl)
    (case xL0 => first | k_is | rfl)
    (case xL1 => first | k_is | rfl)
    (case iC0 => first | k_is | rfl)
    (case lI => first | k_is | rfl)
    (case c0 => first | k_is | rfl)
    (case k0 => first | k_is | rfl)
    (case c1 => first | k_is | rfl)
    (case k1 => first | k_is | rfl)
    (case c2 => first | k_is | rfl)
    (case k2 => first | k_is | rfl)
    (case c3 => first | k_is | rfl)
    (case k3 => first | k_is | rfl)
    (case c4 => first | k_is | rfl)
    (case k4 => first | k_is | rfl)
    (case c5 => first | k_is | rfl)
    (case k5 => first | k_is | rfl)
    (case c6 => first | k_is | rfl)
    (case k6 => first | k_is | rfl)
    (case c7 => first | k_is | rfl)
    (case k7 => first | k_is | rfl)
    (case c8 => first | k_is | rfl)
    (case k8 => first | k_is | rfl)
    (case c9 => first | k_is | rfl)
    (case k9 => first | k_is | rfl)
    (case c10 => first | k_is | rfl)
    (case k10 => first | k_is | rfl)
    (case c11 => first | k_is | rfl)
    (case k11 => first | k_is | rfl)
    (case c12 => first | k_is | rfl)
    (case k12 => first | k_is | rfl)
    (case c13 => first | k_is | rfl)
    (case k13 => first | k_is | rfl)
    (case c14 => first | k_is | rfl)
    (case k14 => first | k_is | rfl)
    (case c15 => first | k_is | rfl)
    (case k15 => first | k_is | rfl)
    (case z_len => first | k_is | rfl)
    (case z_range => first | k_is | rfl)
    (case z_isinstance => first | k_is | rfl)
    (case z_int => first | k_is | rfl)
    (case z_bool => first | k_is | rfl)
    (case z_str => first | k_is | rfl)
    (case z_list => first | k_is | rfl)
    (case z_tuple => first | k_is | rfl)
    (case z_dict => first | k_is | rfl)
    (case z_all => first | k_is | rfl)
    (case z_ValueError => first | k_is | rfl)
    (case y0 => first | k_is | rfl)
    (case v0 => exact ⟨_, rfl⟩)
    (case cI => first | k_is | rfl)
    (case kI => first | k_is | rfl)
    (case tI => first | k_is | rfl)
    (case vV => first | k_is | rfl)
    (case cn => first | k_is | rfl)
    (case ctk => first | k_is | rfl)
    (case sa0 => first | k_is | rfl)
    (case ga0 => first | k_is | rfl)
    (case gg0 => first | k_is | rfl)
    (case nv0 => first | k_is | rfl)
    (case hA0 => first | k_is | rfl)
    (case kC0 => first | k_is | rfl)
    (case eC0 => first | k_is | rfl)
    (case ve0 => first | k_is | rfl)
    (case tC0 => first | k_is | rfl)
    (case hC0 => first | k_is | rfl)
    (case hM0 => first | k_is | rfl)
    (case nN0 => first | k_is | rfl)
    (case sa1 => first | k_is | rfl)
    (case ga1 => first | k_is | rfl)
    (case gg1 => first | k_is | rfl)
    (case nv1 => first | k_is | rfl)
    (case iC1 => first | k_is | rfl)
    (case hA1 => first | k_is | rfl)
    (case kC1 => first | k_is | rfl)
    (case eC1 => first | k_is | rfl)
    (case ve1 => first | k_is | rfl)
    (case tC1 => first | k_is | rfl)
    (case hC1 => first | k_is | rfl)
    (case hM1 => first | k_is | rfl)
    (case nN1 => first | k_is | rfl)
    (case s0_1 => first | k_is | rfl)
    (case s1_1 => first | k_is | rfl)
end
