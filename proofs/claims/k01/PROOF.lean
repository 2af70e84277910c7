import PyProof.Rows.All
import Wide.All
import OpenK.AllK
import Wide.FinOn
import HandS.ForMost
import HandS.ForExc
import HandS.ExcValue
import HandS.TupAny
import HandS.TupLe
import HandS.Deep
import HandS.IsInst
import HandS.TupMul
import HandS.Text
import HandS.WordsDict
import HandS.Comp
import HandS.Iter
import HandS.ExcOwn
import HandS.TryOnly
import HandS.More
import PySem.Challenge.RW_rowasks_k01_rows
set_option Elab.async false
set_option linter.all false
/-! A small language of trees and a store of changing things: its values, its texts, what they come to.
    Values are trees (lists are values); what is changed in place stands in the store, by its number. -/
namespace Z
open PySem (Str)

abbrev Tx := List Char
/-- a text of the model -/
def toS (l : Tx) : Str := ⟨(l.map Char.toNat).toArray⟩

inductive KA where
  | i (n : Int) | s (t : Tx)
  deriving DecidableEq
inductive DK where
  | a (k : KA) | t (ks : List KA)
  deriving DecidableEq

inductive PV where
  | none | bool (b : Bool) | int (i : Int) | str (s : Tx)
  | tup (xs : List PV) | lst (xs : List PV)
  | dct (t : Bool) (kvs : List (DK × PV)) | box (i : Nat) | exc (c : Nat)
  | kls (ns : List Int)

/-- what stands in the store; dct t: t tells whether keys are tuples -/
inductive PO where
  | dead | lst (xs : List PV) | dct (t : Bool) (kvs : List (DK × PV)) | inst (c : Nat) (fs : List (String × PV))

abbrev Sto := List PO
abbrev Env := List (Option PV)

inductive R (α : Type) where
  | ok (a : α) (st : Sto) | exc (c : Nat) (st : Sto) | bad

def R.bind {α β : Type} (r : R α) (f : α → Sto → R β) : R β := match r with
  | .ok a st => f a st
  | .exc c st => .exc c st
  | .bad => .bad
@[simp] theorem R.bind_ok {α β : Type} (a : α) (st : Sto) (f : α → Sto → R β) : (R.ok a st).bind f = f a st := rfl
@[simp] theorem R.bind_exc {α β : Type} (c : Nat) (st : Sto) (f : α → Sto → R β) : (R.exc c st : R α).bind f = .exc c st := rfl
@[simp] theorem R.bind_bad {α β : Type} (f : α → Sto → R β) : (R.bad : R α).bind f = .bad := rfl

/-- nothing may be raised here -/
def R.calm {α : Type} (r : R α) : R α := match r with
  | .exc _ _ => .bad
  | r => r
@[simp] theorem R.calm_ok {α : Type} (a : α) (st : Sto) : (R.ok a st).calm = .ok a st := rfl
@[simp] theorem R.calm_bad {α : Type} : (R.bad : R α).calm = .bad := rfl
@[simp] theorem R.calm_exc {α : Type} (c : Nat) (st : Sto) : (R.exc c st : R α).calm = .bad := rfl

def ofOpt {α : Type} (o : Option α) (st : Sto) : R α := match o with
  | some a => .ok a st
  | none => .bad
@[simp] theorem ofOpt_some {α : Type} (a : α) (st : Sto) : ofOpt (some a) st = .ok a st := rfl
@[simp] theorem ofOpt_none {α : Type} (st : Sto) : ofOpt (none : Option α) st = .bad := rfl

inductive BOp | add | sub | mul | mod | fdiv | pow
  deriving DecidableEq
inductive COp | eq | ne | lt | le | gt | ge | isIn | notIn | is | isNot
  deriving DecidableEq
inductive Ty | int | bool | str | tuple | list | cls (c : Nat) | valueError
  deriving DecidableEq
inductive Bi | len | listOf | tupleOf | sum | all | max1 | min1 | max2 | min2 | abs | int | str | dictOf | sorted | sortedSet | lenSet | sortedItems
  deriving DecidableEq
inductive Bm | append | extend | insert | pop | reverse | get | get2 | items | join | split | partition | upper | count | index
  deriving DecidableEq

inductive Tg where
  | name (i : Nat) | tup (l : List Tg)

mutual
inductive ME where
  | const (d : PV)
  | var (i : Nat)
  | glob (n : String) (d : PV)
  | bin (op : BOp) (bx : Bool) (a b : ME)
  | neg (a : ME) | nt (a : ME) | and (a b : ME) | or (a b : ME)
  | cmp (op : COp) (a b : ME)
  | chain (op op' : COp) (a b c : ME)
  | ite (c a b : ME)
  | tup (es : MEs) | lst (bx : Bool) (es : MEs) | dict0 (t : Bool)
  | call (f : Nat) (es : MEs) | make (c : Nat) (es : MEs) | meth (o : ME) (m : String) (es : MEs)
  | attr (o : ME) (f : String)
  | bi (b : Bi) (bx : Bool) (es : MEs)
  | bm (m : Bm) (o : ME) (es : MEs)
  | isinst (a : ME) (t : Ty)
  | idx (a i : ME)
  | slice (bx : Bool) (a : ME) (lo hi : Option ME)
  | comp (bx : Bool) (tg : Tg) (vs : List Nat) (it : MI) (cond : Option ME) (elt : ME)
inductive MEs where
  | nil | cons (e : ME) (r : MEs)
inductive MI where
  | seq (e : ME) | range1 (a : ME) | range2 (a b : ME) | enum (e : ME) | zip (a b : ME)
end

mutual
inductive MS where
  | asg (tg : Tg) (e : ME)
  | asgN (is : List Nat) (es : MEs)
  | setItem (o i v : ME) | setAttr (o : ME) (f : String) (v : ME)
  | expr (e : ME)
  | ite (c : ME) (a b : MSs)
  | whl (fuel : Nat) (c : ME) (b : MSs)
  | for_ (tg : Tg) (it : MI) (b : MSs)
  | ret (e : ME) | retN
  | raise (c : Nat)
  | tryAs (b : MSs) (c : Nat) (i : Nat) (h : MSs)
  | tryOnly (b : MSs) (c : Nat) (h : MSs)
  | pass
inductive MSs where
  | nil | cons (s : MS) (r : MSs) | frz (i : Nat) (r : MSs)
end

/-! ### values -/
mutual
def eqv : PV → PV → Bool
  | .none, .none => true
  | .bool a, .bool b => a == b
  | .bool a, .int j => (if a then 1 else 0) == j
  | .int i, .bool b => i == (if b then 1 else 0)
  | .int i, .int j => i == j
  | .str x, .str y => x == y
  | .lst xs, .lst ys => eqvL xs ys
  | .tup xs, .tup ys => eqvL xs ys
  | _, _ => false
def eqvL : List PV → List PV → Bool
  | [], [] => true
  | x :: xs, y :: ys => eqv x y && eqvL xs ys
  | _, _ => false
end
mutual
def plain : Nat → PV → Bool
  | _, .none | _, .bool _ | _, .int _ | _, .str _ => true
  | n + 1, .tup xs | n + 1, .lst xs => plainL n xs
  | _, _ => false
def plainL : Nat → List PV → Bool
  | _, [] => true
  | n, x :: xs => plain n x && plainL n xs
end

def seqOf (st : Sto) : PV → Option (List PV)
  | .lst xs => some xs
  | .tup xs => some xs
  | .kls ns => some (ns.map .int)
  | .box i => match st[i]? with
    | some (.lst xs) => some xs
    | _ => none
  | _ => none
def lstOf (st : Sto) : PV → Option (List PV)
  | .lst xs => some xs
  | .box i => match st[i]? with
    | some (.lst xs) => some xs
    | _ => none
  | _ => none
/-- what a box holds, as a tree -/
def res (st : Sto) : PV → PV
  | .box i => match st[i]? with
    | some (.lst xs) => .lst xs
    | some (.dct t kvs) => .dct t kvs
    | _ => .box i
  | .kls ns => .lst (ns.map .int)
  | v => v

abbrev sizeLine : Nat := 16777216
abbrev big : Int := 18446744073709551616

/-- a list that is made: a tree, or a new thing of the store -/
def mkLst (bx : Bool) (xs : List PV) (st : Sto) : R PV := if bx then .ok (.box st.length) (st ++ [.lst xs]) else .ok (.lst xs) st

def cut {α : Type} (xs : List α) (lo hi : Option Int) : List α := (xs.drop (HT.sIx xs.length 0 lo)).take (HT.sIx xs.length xs.length hi - HT.sIx xs.length 0 lo)
abbrev atI {α : Type} (xs : List α) (i : Int) : Option α := L2.atI xs i
abbrev ixN (n : Nat) (i : Int) : Option Nat := L2.ixN n i

def fAdd (bx : Bool) (a b : PV) (st : Sto) : R PV := match a, b with
  | .int i, .int j => .ok (.int (i + j)) st
  | .str x, .str y => if x.length + y.length ≤ sizeLine then .ok (.str (x ++ y)) st else .bad
  | .tup xs, .tup ys => if xs.length + ys.length ≤ sizeLine then .ok (.tup (xs ++ ys)) st else .bad
  | a, b => match lstOf st a, lstOf st b with
    | some xs, some ys => if xs.length + ys.length ≤ sizeLine then mkLst bx (xs ++ ys) st else .bad
    | _, _ => .bad
def fSub (a b : PV) (st : Sto) : R PV := match a, b with
  | .int i, .int j => .ok (.int (i - j)) st
  | _, _ => .bad
def fMul (bx : Bool) (a b : PV) (st : Sto) : R PV := match a, b with
  | .int i, .int j => if (-big < i ∧ i < big) ∨ (-big < j ∧ j < big) then .ok (.int (i * j)) st else .bad
  | .tup xs, .int k => if 2 ≤ k ∧ k ≤ 1000 ∧ xs.length ≤ 1000 ∧ xs.isEmpty = false then .ok (.tup (List.replicate k.toNat xs).flatten) st else .bad
  | .lst xs, .int k => if 0 ≤ k ∧ k < 1000 ∧ xs.length * k.toNat ≤ sizeLine then mkLst bx (List.replicate k.toNat xs).flatten st else .bad
  | _, _ => .bad
def fMod (a b : PV) (st : Sto) : R PV := match a, b with
  | .int i, .int j => if 0 < j then .ok (.int (i % j)) st else .bad
  | _, _ => .bad
def fDiv (a b : PV) (st : Sto) : R PV := match a, b with
  | .int i, .int j => if 0 < j ∧ j < 1073741824 then .ok (.int (i / j)) st else .bad
  | _, _ => .bad
def fPow (a b : PV) (st : Sto) : R PV := match a, b with
  | .int i, .int j => if 0 ≤ j ∧ j ≤ 1000 ∧ i.natAbs < 1000 then .ok (.int (i ^ j.toNat)) st else .bad
  | _, _ => .bad
def binop (op : BOp) (bx : Bool) : PV → PV → Sto → R PV := match op with
  | .add => fAdd bx
  | .sub => fSub
  | .mul => fMul bx
  | .mod => fMod
  | .fdiv => fDiv
  | .pow => fPow

def asBool : PV → Option Bool
  | .bool b => some b
  | _ => none

/-- a in b -/
def inD (kvs : List (DK × PV)) (a : PV) : Option Bool := match a with
  | .str x => some (kvs.any fun p => decide (p.1 = .a (.s x)))
  | .int i => some (kvs.any fun p => decide (p.1 = .a (.i i)))
  | _ => none
def inV (st : Sto) (a b : PV) : Option Bool := match b with
  | .str y => match a with
    | .str [c] => some (decide (c ∈ y))
    | _ => none
  | b => match res st b with
    | .dct t kvs => if t then none else inD kvs a
    | .lst ys => if plain 60 a ∧ plainL 59 ys then some (ys.any fun y => eqv y a) else none
    | .tup ys => if plain 60 a ∧ plainL 59 ys then some (ys.any fun y => eqv y a) else none
    | _ => none
/-- a whole number below, or not above, another -/
def ltV (a b : PV) : Option Bool := match a, b with
  | .int i, .int j => some (decide (i < j))
  | _, _ => none
def leV (a b : PV) : Option Bool := match a, b with
  | .int i, .int j => some (decide (i ≤ j))
  | _, _ => none
def isV (a b : PV) : Option Bool := match a, b with
  | .none, .none => some true
  | _, .none => some false
  | .bool x, .bool y => some (decide (x = y))
  | _, _ => none
def cmpV (op : COp) (a b : PV) (st : Sto) : Option Bool := match op with
  | .eq => if plain 60 (res st a) && plain 60 (res st b) then some (eqv (res st a) (res st b)) else none
  | .ne => if plain 60 (res st a) && plain 60 (res st b) then some (!eqv (res st a) (res st b)) else none
  | .lt => ltV a b
  | .le => leV a b
  | .gt => ltV b a
  | .ge => leV b a
  | .isIn => inV st a b
  | .notIn => (inV st a b).map (!·)
  | .is => isV a b
  | .isNot => (isV a b).map (!·)

/-! ### what texts come to -/
structure Gam where
  fn : Nat → Nat → List PV → Sto → R PV
  mt : Nat → String → Option Nat
  ini : Nat → Nat
  sub : Nat → Nat → Bool

def isTy (Γ : Gam) (st : Sto) (v : PV) (t : Ty) : Option Bool := match t, v with
  | .int, .int _ => some true
  | .int, .bool _ => some true
  | .bool, .bool _ => some true
  | .str, .str _ => some true
  | .tuple, .tup _ => some true
  | .list, .lst _ => some true
  | .list, .box i => match st[i]? with
    | some (.lst _) => some true
    | _ => none
  | .cls d, .exc c => some (Γ.sub c d)
  | .valueError, .exc _ => some true
  | .cls _, _ => none
  | .valueError, _ => none
  | _, .box _ => none
  | _, .exc _ => none
  | _, .dct _ _ => none
  | _, .kls _ => none
  | _, _ => some false

def intsOf : List PV → Option (List Int)
  | [] => some []
  | .int i :: r => (intsOf r).map (i :: ·)
  | _ :: _ => none
def boolsOf : List PV → Option (List Bool)
  | [] => some []
  | .bool i :: r => (boolsOf r).map (i :: ·)
  | _ :: _ => none
def keyOf : PV → Option DK
  | .int i => some (.a (.i i))
  | .str s => some (.a (.s s))
  | .tup xs => (atoms xs).map .t
  | _ => none
where atoms : List PV → Option (List KA)
  | [] => some []
  | .int i :: r => (atoms r).map (.i i :: ·)
  | .str s :: r => (atoms r).map (.s s :: ·)
  | _ :: _ => none
def kaV : KA → PV
  | .i n => .int n
  | .s t => .str t
def dkV : DK → PV
  | .a k => kaV k
  | .t ks => .tup (ks.map kaV)
def isT : DK → Bool
  | .t _ => true
  | .a _ => false
def dget (kvs : List (DK × PV)) (k : DK) : Option PV := (kvs.find? fun p => decide (p.1 = k)).map (·.2)
def dput : List (DK × PV) → DK → PV → List (DK × PV)
  | [], k, v => [(k, v)]
  | (k', v') :: r, k, v => if k' = k then (k, v) :: r else (k', v') :: dput r k v
def dctOf (st : Sto) : PV → Option (Bool × List (DK × PV))
  | .dct t kvs => some (t, kvs)
  | .box i => match st[i]? with
    | some (.dct t kvs) => some (t, kvs)
    | _ => none
  | _ => none
def fget (fs : List (String × PV)) (f : String) : Option PV := fs.lookup f
def fput : List (String × PV) → String → PV → List (String × PV)
  | [], f, v => [(f, v)]
  | (g, w) :: r, f, v => if g = f then (g, v) :: r else (g, w) :: fput r f v

def maxI : Int → List Int → Int
  | m, [] => m
  | m, x :: r => maxI (if x > m then x else m) r
def minI : Int → List Int → Int
  | m, [] => m
  | m, x :: r => minI (if x < m then x else m) r

def bfn (b : Bi) (bx : Bool) (xs : List PV) (st : Sto) : R PV := match b, xs with
  | .len, [.str s] => if s.length ≤ sizeLine then .ok (.int s.length) st else .bad
  | .len, [v] => match seqOf st v with
    | some ys => .ok (.int ys.length) st
    | none => match dctOf st v with
      | some (false, kvs) => .ok (.int kvs.length) st
      | _ => .bad
  | .listOf, [v] => match seqOf st v with
    | some ys => mkLst bx ys st
    | none => .bad
  | .tupleOf, [.tup ys] => .ok (.tup ys) st
  | .tupleOf, [v] => match lstOf st v with
    | some ys => .ok (.tup ys) st
    | none => .bad
  | .sum, [v] => match (lstOf st v).bind intsOf with
    | some ns => .ok (.int ns.sum) st
    | none => .bad
  | .all, [v] => match (lstOf st v).bind boolsOf with
    | some bs => .ok (.bool (bs.all id)) st
    | none => .bad
  | .max1, [v] => match (lstOf st v).bind intsOf with
    | some (n :: ns) => .ok (.int (maxI n ns)) st
    | _ => .bad
  | .min1, [v] => match (lstOf st v).bind intsOf with
    | some (n :: ns) => .ok (.int (minI n ns)) st
    | _ => .bad
  | .max2, [.int m, .int n] => .ok (.int (if n > m then n else m)) st
  | .min2, [.int m, .int n] => .ok (.int (if n < m then n else m)) st
  | .abs, [.int n] => .ok (.int (if n < 0 then -n else n)) st
  | .int, [.int n] => .ok (.int n) st
  | .int, [.bool b] => .ok (.int (if b then 1 else 0)) st
  | _, _ => .bad

/-- a write to the store -/
def wr (lo i : Nat) (o : PO) (v : PV) (st : Sto) : R PV := if lo ≤ i then .ok v (st.set i o) else .bad

def fAppend (lo : Nat) (o : PV) (xs : List PV) (st : Sto) : R PV := match o, xs with
  | .box i, [v] => match st[i]? with
    | some (.lst ys) => if ys.length < sizeLine then wr lo i (.lst (ys ++ [v])) .none st else .bad
    | _ => .bad
  | _, _ => .bad
def fExtend (lo : Nat) (o : PV) (xs : List PV) (st : Sto) : R PV := match o, xs with
  | .box i, [v] => match st[i]? with
    | some (.lst ys) => match lstOf st v with
      | some zs => if ys.length + zs.length ≤ sizeLine then wr lo i (.lst (ys ++ zs)) .none st else .bad
      | none => .bad
    | _ => .bad
  | _, _ => .bad
def fInsert (lo : Nat) (o : PV) (xs : List PV) (st : Sto) : R PV := match o, xs with
  | .box i, [.int k, v] => match st[i]? with
    | some (.lst ys) => if 0 ≤ k ∧ k ≤ ys.length ∧ ys.length < sizeLine then wr lo i (.lst (ys.take k.toNat ++ v :: ys.drop k.toNat)) .none st else .bad
    | _ => .bad
  | _, _ => .bad
def fPop (lo : Nat) (o : PV) (xs : List PV) (st : Sto) : R PV := match o, xs with
  | .box i, [] => match st[i]? with
    | some (.lst ys) => match ys.getLast? with
      | some y => wr lo i (.lst ys.dropLast) y st
      | none => .bad
    | _ => .bad
  | _, _ => .bad
def fGet (o : PV) (xs : List PV) (st : Sto) : R PV := match xs with
  | [k] => match dctOf st o with
    | some kvs => match keyOf k with
      | some k => if isT k = kvs.1 then .ok ((dget kvs.2 k).getD .none) st else .bad
      | none => .bad
    | none => .bad
  | _ => .bad
def fGet2 (o : PV) (xs : List PV) (st : Sto) : R PV := match xs with
  | [k, d] => match dctOf st o with
    | some kvs => match keyOf k with
      | some k => if isT k = kvs.1 then .ok ((dget kvs.2 k).getD d) st else .bad
      | none => .bad
    | none => .bad
  | _ => .bad
def fUpper (o : PV) (xs : List PV) (st : Sto) : R PV := match o, xs with
  | .str s, [] => if s.all (fun c => 97 ≤ c.toNat && c.toNat ≤ 122) ∧ s.length ≤ 1000000 then .ok (.str (s.map Char.toUpper)) st else .bad
  | _, _ => .bad
def bmf (m : Bm) (lo : Nat) : PV → List PV → Sto → R PV := match m with
  | .append => fAppend lo
  | .extend => fExtend lo
  | .insert => fInsert lo
  | .pop => fPop lo
  | .get => fGet
  | .get2 => fGet2
  | .upper => fUpper
  | _ => fun _ _ _ => .bad

/-- what a method's receiver has to be -/
def bmTy (m : Bm) (st : Sto) (x : PV) : Bool := match m, x with
  | .append, .box _ | .extend, .box _ | .insert, .box _ | .pop, .box _ => (lstOf st x).isSome
  | .reverse, _ | .count, _ | .index, _ => (lstOf st x).isSome
  | .get, _ | .get2, _ | .items, _ => (dctOf st x).isSome
  | .join, .str _ | .split, .str _ | .partition, .str _ | .upper, .str _ => true
  | _, _ => false
def idxf (a i : PV) (st : Sto) : R PV := match a with
  | .str s => match i with
    | .int k => if s.length ≤ sizeLine then (match atI s k with
      | some c => .ok (.str [c]) st
      | none => .bad) else .bad
    | _ => .bad
  | a => match dctOf st a with
    | some kvs => match keyOf i with
      | some k => if isT k = kvs.1 then ofOpt (dget kvs.2 k) st else .bad
      | none => .bad
    | none => match seqOf st a with
      | some xs => match i with
        | .int k => ofOpt (atI xs k) st
        | _ => .bad
      | none => .bad
def partI : PV → Option (Option Int)
  | .int i => some (some i)
  | _ => none
def slicef (bx : Bool) (a : PV) (lo hi : Option Int) (st : Sto) : R PV := match a with
  | .str s => if s.length ≤ sizeLine then .ok (.str (cut s lo hi)) st else .bad
  | .tup xs => .ok (.tup (cut xs lo hi)) st
  | a => match lstOf st a with
    | some xs => mkLst bx (cut xs lo hi) st
    | none => .bad

inductive Src where
  | fix (xs : List PV) | live (i : Nat) | liveE (i : Nat)

def assign : Tg → PV → Env → Option Env
  | .name i, v, ρ => some (ρ.set i (some v))
  | .tup l, .tup xs, ρ => go l xs ρ
  | .tup l, .lst xs, ρ => go l xs ρ
  | _, _, _ => none
where go : List Tg → List PV → Env → Option Env
  | [], [], ρ => some ρ
  | t :: r, x :: xs, ρ => (assign t x ρ).bind fun ρ' => go r xs ρ'
  | _, _, _ => none

def wipe (ρ : Env) : List Nat → Env
  | [] => ρ
  | i :: r => (wipe ρ r).set i none

def compFix (f : PV → Sto → R (Option PV)) : List PV → Sto → R (List PV)
  | [], st => .ok [] st
  | x :: r, st => (f x st).bind fun o st1 => (compFix f r st1).bind fun ys st2 => .ok (match o with | some y => y :: ys | none => ys) st2
/-- over a list that may change -/
def compLive (i : Nat) (f : PV → Sto → R (Option PV)) : Nat → Nat → Sto → R (List PV)
  | 0, _, _ => .bad
  | n + 1, k, st => match st[i]? with
    | some (.lst xs) => match xs[k]? with
      | some x => (f x st).bind fun o st1 => (compLive i f n (k + 1) st1).bind fun ys st2 => .ok (match o with | some y => y :: ys | none => ys) st2
      | none => .ok [] st
    | _ => .bad

def pairs (k : Nat) : List PV → List PV
  | [] => []
  | x :: r => .tup [.int k, x] :: pairs (k + 1) r
def zipV : List PV → List PV → List PV
  | x :: r, y :: s => .tup [x, y] :: zipV r s
  | _, _ => []

def srcOf (v : PV) (st : Sto) : R Src := match v with
  | .lst xs => .ok (.fix xs) st
  | .tup xs => .ok (.fix xs) st
  | .str s => .ok (.fix (s.map fun c => .str [c])) st
  | .box i => match st[i]? with
    | some (.lst _) => .ok (.live i) st
    | _ => .bad
  | _ => .bad

mutual
def eval (Γ : Gam) (lo : Nat) : ME → Env → Sto → R PV
  | .const d, _, st => .ok d st
  | .var i, ρ, st => match ρ[i]? with
    | some (some d) => .ok d st
    | _ => .bad
  | .glob _ d, _, st => .ok d st
  | .bin op bx a b, ρ, st => (eval Γ lo a ρ st).bind fun x st1 => (eval Γ lo b ρ st1).bind fun y st2 => binop op bx x y st2
  | .neg a, ρ, st => (eval Γ lo a ρ st).bind fun x st1 => match x with
    | .int i => .ok (.int (-i)) st1
    | _ => .bad
  | .nt a, ρ, st => (eval Γ lo a ρ st).bind fun x st1 => match x with
    | .bool b => .ok (.bool (!b)) st1
    | _ => .bad
  | .and a b, ρ, st => (eval Γ lo a ρ st).bind fun x st1 => match x with
    | .bool true => eval Γ lo b ρ st1
    | .bool false => .ok (.bool false) st1
    | _ => .bad
  | .or a b, ρ, st => (eval Γ lo a ρ st).bind fun x st1 => match x with
    | .bool false => eval Γ lo b ρ st1
    | .bool true => .ok (.bool true) st1
    | _ => .bad
  | .cmp op a b, ρ, st => (eval Γ lo a ρ st).bind fun x st1 => (eval Γ lo b ρ st1).bind fun y st2 => ofOpt ((cmpV op x y st2).map .bool) st2
  | .chain op op' a b c, ρ, st => (eval Γ lo a ρ st).bind fun x st1 => (eval Γ lo b ρ st1).bind fun y st2 => match cmpV op x y st2 with
    | some true => (eval Γ lo c ρ st2).bind fun z st3 => ofOpt ((cmpV op' y z st3).map .bool) st3
    | some false => .ok (.bool false) st2
    | none => .bad
  | .ite c a b, ρ, st => (eval Γ lo c ρ st).bind fun x st1 => match x with
    | .bool true => eval Γ lo a ρ st1
    | .bool false => eval Γ lo b ρ st1
    | _ => .bad
  | .tup es, ρ, st => (evals Γ lo es ρ st).bind fun xs st1 => if xs.length ≤ sizeLine then .ok (.tup xs) st1 else .bad
  | .lst bx es, ρ, st => (evals Γ lo es ρ st).bind fun xs st1 => if xs.length ≤ sizeLine then mkLst bx xs st1 else .bad
  | .dict0 t, _, st => .ok (.box st.length) (st ++ [.dct t []])
  | .call f es, ρ, st => (evals Γ lo es ρ st).bind fun xs st1 => Γ.fn f lo xs st1
  | .make c es, ρ, st => (evals Γ lo es ρ st).bind fun xs st1 => (Γ.fn (Γ.ini c) lo (.box st1.length :: xs) (st1 ++ [.inst c []])).bind fun _ st2 => .ok (.box st1.length) st2
  | .meth o m es, ρ, st => (eval Γ lo o ρ st).bind fun x st1 => match x with
    | .box i => match st1[i]? with
      | some (.inst c _) => match Γ.mt c m with
        | some f => (evals Γ lo es ρ st1).bind fun xs st2 => Γ.fn f lo (.box i :: xs) st2
        | none => .bad
      | _ => .bad
    | _ => .bad
  | .attr o f, ρ, st => (eval Γ lo o ρ st).bind fun x st1 => match x with
    | .box i => match st1[i]? with
      | some (.inst _ fs) => ofOpt (fget fs f) st1
      | _ => .bad
    | _ => .bad
  | .bi b bx es, ρ, st => (evals Γ lo es ρ st).bind fun xs st1 => bfn b bx xs st1
  | .bm m o es, ρ, st => (eval Γ lo o ρ st).bind fun x st1 => if bmTy m st1 x then (evals Γ lo es ρ st1).bind fun xs st2 => bmf m lo x xs st2 else .bad
  | .isinst a t, ρ, st => (eval Γ lo a ρ st).bind fun x st1 => ofOpt ((isTy Γ st1 x t).map .bool) st1
  | .idx a i, ρ, st => (eval Γ lo a ρ st).bind fun x st1 => (eval Γ lo i ρ st1).bind fun y st2 => idxf x y st2
  | .slice bx a lo' hi, ρ, st => (eval Γ lo a ρ st).bind fun x st1 => (evalO Γ lo lo' ρ st1).bind fun l st2 => (evalO Γ lo hi ρ st2).bind fun h st3 => slicef bx x l h st3
  | .comp bx tg vs it cond elt, ρ, st => (source Γ lo it ρ st).bind fun s st1 =>
    let f : PV → Sto → R (Option PV) := fun x st2 => match assign tg x (wipe ρ vs) with
      | some ρ' => (match cond with
        | some c => (eval Γ lo c ρ' st2).calm.bind fun b st3 => match b with
          | .bool true => (eval Γ lo elt ρ' st3).calm.bind fun y st4 => .ok (some y) st4
          | .bool false => .ok none st3
          | _ => .bad
        | none => (eval Γ lo elt ρ' st2).calm.bind fun y st4 => .ok (some y) st4)
      | none => .bad
    (match s with
      | .fix xs => compFix f xs st1
      | .live i => compLive i f (match st1[i]? with | some (.lst xs) => xs.length + 1 | _ => 0) 0 st1
      | .liveE _ => .bad).bind fun ys st2 => if ys.length ≤ sizeLine then mkLst bx ys st2 else .bad
def evals (Γ : Gam) (lo : Nat) : MEs → Env → Sto → R (List PV)
  | .nil, _, st => .ok [] st
  | .cons e r, ρ, st => (eval Γ lo e ρ st).bind fun x st1 => (evals Γ lo r ρ st1).bind fun xs st2 => .ok (x :: xs) st2
def evalO (Γ : Gam) (lo : Nat) : Option ME → Env → Sto → R (Option Int)
  | none, _, st => .ok none st
  | some e, ρ, st => (eval Γ lo e ρ st).bind fun x st1 => ofOpt (partI x) st1
def source (Γ : Gam) (lo : Nat) : MI → Env → Sto → R Src
  | .seq e, ρ, st => (eval Γ lo e ρ st).bind srcOf
  | .range1 a, ρ, st => (eval Γ lo a ρ st).bind fun x st1 => match x with
    | .int n => if n < 1000000000 && -1000000000 < n then .ok (.fix ((List.range n.toNat).map fun (k : Nat) => .int k)) st1 else .bad
    | _ => .bad
  | .range2 a b, ρ, st => (eval Γ lo a ρ st).bind fun x st1 => (eval Γ lo b ρ st1).bind fun y st2 => match x, y with
    | .int m, .int n => if n < 1000000000 && -1000000000 < n && m < 1000000000 && -1000000000 < m then .ok (.fix ((List.range (n - m).toNat).map fun (k : Nat) => .int (m + k))) st2 else .bad
    | _, _ => .bad
  | .enum e, ρ, st => (eval Γ lo e ρ st).bind fun x st1 => match x with
    | .lst xs => .ok (.fix (pairs 0 xs)) st1
    | _ => .bad
  | .zip a b, ρ, st => (eval Γ lo a ρ st).bind fun x st1 => (eval Γ lo b ρ st1).bind fun y st2 => match x, y with
    | .lst xs, .lst ys => .ok (.fix (zipV xs ys)) st2
    | _, _ => .bad
end

inductive RS where
  | nx (ρ : Env) (st : Sto) | ret (v : PV) (st : Sto) | exc (c : Nat) (ρ : Env) (st : Sto) | bad

def R.then {α : Type} (r : R α) (ρ : Env) (f : α → Sto → RS) : RS := match r with
  | .ok a st => f a st
  | .exc c st => .exc c ρ st
  | .bad => .bad
@[simp] theorem R.then_ok {α : Type} (a : α) (st : Sto) (ρ : Env) (f : α → Sto → RS) : (R.ok a st).then ρ f = f a st := rfl
@[simp] theorem R.then_exc {α : Type} (c : Nat) (st : Sto) (ρ : Env) (f : α → Sto → RS) : (R.exc c st : R α).then ρ f = .exc c ρ st := rfl
@[simp] theorem R.then_bad {α : Type} (ρ : Env) (f : α → Sto → RS) : (R.bad : R α).then ρ f = .bad := rfl
def RS.next (r : RS) (f : Env → Sto → RS) : RS := match r with
  | .nx ρ st => f ρ st
  | r => r
@[simp] theorem RS.next_nx (ρ : Env) (st : Sto) (f : Env → Sto → RS) : (RS.nx ρ st).next f = f ρ st := rfl
@[simp] theorem RS.next_ret (v : PV) (st : Sto) (f : Env → Sto → RS) : (RS.ret v st).next f = .ret v st := rfl
@[simp] theorem RS.next_exc (c : Nat) (ρ : Env) (st : Sto) (f : Env → Sto → RS) : (RS.exc c ρ st).next f = .exc c ρ st := rfl
@[simp] theorem RS.next_bad (f : Env → Sto → RS) : RS.bad.next f = .bad := rfl

def forFix (body : PV → Env → Sto → RS) : List PV → Env → Sto → RS
  | [], ρ, st => .nx ρ st
  | x :: r, ρ, st => (body x ρ st).next fun ρ' st' => forFix body r ρ' st'
def forLive (i : Nat) (body : PV → Env → Sto → RS) : Nat → Nat → Env → Sto → RS
  | 0, _, _, _ => .bad
  | n + 1, k, ρ, st => match st[i]? with
    | some (.lst xs) => match xs[k]? with
      | some x => (body x ρ st).next fun ρ' st' => forLive i body n (k + 1) ρ' st'
      | none => .nx ρ st
    | _ => .bad
def whlF (c : Env → Sto → R PV) (body : Env → Sto → RS) : Nat → Env → Sto → RS
  | 0, _, _ => .bad
  | n + 1, ρ, st => (c ρ st).then ρ fun x st1 => match x with
    | .bool true => (body ρ st1).next fun ρ' st' => whlF c body n ρ' st'
    | .bool false => .nx ρ st1
    | _ => .bad
def setIdx (lo : Nat) (o i v : PV) (st : Sto) : R PV := match o with
  | .box j => match st[j]? with
    | some (.lst xs) => match i with
      | .int k => match ixN xs.length k with
        | some n => wr lo j (.lst (xs.set n v)) .none st
        | none => .bad
      | _ => .bad
    | some (.dct t kvs) => match keyOf i with
      | some k => if isT k = t ∧ kvs.length < sizeLine then wr lo j (.dct t (dput kvs k v)) .none st else .bad
      | none => .bad
    | _ => .bad
  | _ => .bad
def setFld (lo : Nat) (o : PV) (f : String) (v : PV) (st : Sto) : R PV := match o with
  | .box j => match st[j]? with
    | some (.inst c fs) => if fs.length < 1000 then wr lo j (.inst c (fput fs f v)) .none st else .bad
    | _ => .bad
  | _ => .bad
def assignN : List Nat → List PV → Env → Option Env
  | [], [], ρ => some ρ
  | i :: r, x :: xs, ρ => assignN r xs (ρ.set i (some x))
  | _, _, _ => none

/-- a thing of the store becomes a tree -/
def frzf (lo i : Nat) (ρ : Env) (st : Sto) : RS := match ρ[i]? with
  | some (some (.box j)) => match st[j]? with
    | some (.lst xs) => if lo ≤ j then .nx (ρ.set i (some (.lst xs))) (st.set j .dead) else .bad
    | some (.dct t kvs) => if lo ≤ j then .nx (ρ.set i (some (.dct t kvs))) (st.set j .dead) else .bad
    | _ => .bad
  | some (some _) => .nx ρ st
  | _ => .bad

mutual
def exec (Γ : Gam) (lo : Nat) : MS → Env → Sto → RS
  | .asg tg e, ρ, st => (eval Γ lo e ρ st).then ρ fun v st1 => match assign tg v ρ with
    | some ρ' => .nx ρ' st1
    | none => .bad
  | .asgN is es, ρ, st => (evals Γ lo es ρ st).then ρ fun vs st1 => match assignN is vs ρ with
    | some ρ' => .nx ρ' st1
    | none => .bad
  | .setItem o i v, ρ, st => (eval Γ lo v ρ st).then ρ fun x st1 => (eval Γ lo o ρ st1).then ρ fun y st2 => (eval Γ lo i ρ st2).then ρ fun z st3 => (setIdx lo y z x st3).then ρ fun _ st4 => .nx ρ st4
  | .setAttr o f v, ρ, st => (eval Γ lo v ρ st).then ρ fun x st1 => (eval Γ lo o ρ st1).then ρ fun y st2 => (setFld lo y f x st2).then ρ fun _ st3 => .nx ρ st3
  | .expr e, ρ, st => (eval Γ lo e ρ st).then ρ fun _ st1 => .nx ρ st1
  | .ite c a b, ρ, st => (eval Γ lo c ρ st).then ρ fun x st1 => match x with
    | .bool true => execs Γ lo a ρ st1
    | .bool false => execs Γ lo b ρ st1
    | _ => .bad
  | .whl n c b, ρ, st => whlF (eval Γ lo c) (execs Γ lo b) n ρ st
  | .for_ tg it b, ρ, st => (source Γ lo it ρ st).then ρ fun s st1 =>
    let body : PV → Env → Sto → RS := fun x ρ1 st2 => match assign tg x ρ1 with
      | some ρ2 => execs Γ lo b ρ2 st2
      | none => .bad
    match s with
    | .fix xs => forFix body xs ρ st1
    | .live i => forLive i body (match st1[i]? with | some (.lst xs) => xs.length + 1 | _ => 0) 0 ρ st1
    | .liveE _ => .bad
  | .ret e, ρ, st => (eval Γ lo e ρ st).then ρ fun v st1 => .ret v st1
  | .retN, _, st => .ret .none st
  | .raise c, ρ, st => .exc c ρ st
  | .tryAs b c i h, ρ, st => match execs Γ lo b ρ st with
    | .exc d ρ1 st1 => if Γ.sub d c then (execs Γ lo h (ρ1.set i (some (.exc d))) st1).next (fun ρ2 st2 => .nx (ρ2.set i none) st2) else .exc d ρ1 st1
    | r => r
  | .tryOnly b c h, ρ, st => match execs Γ lo b ρ st with
    | .exc d ρ1 st1 => if Γ.sub d c then execs Γ lo h ρ1 st1 else .exc d ρ1 st1
    | r => r
  | .pass, ρ, st => .nx ρ st
def execs (Γ : Gam) (lo : Nat) : MSs → Env → Sto → RS
  | .nil, ρ, st => .nx ρ st
  | .cons s r, ρ, st => (exec Γ lo s ρ st).next fun ρ' st' => execs Γ lo r ρ' st'
  | .frz i r, ρ, st => (frzf lo i ρ st).next fun ρ' st' => execs Γ lo r ρ' st'
end

mutual
/-- all boxes are below n -/
def boxLt (n : Nat) : PV → Bool
  | .box i => decide (i < n)
  | .tup xs => boxLtL n xs
  | .lst xs => boxLtL n xs
  | .dct _ kvs => boxLtD n kvs
  | _ => true
def boxLtL (n : Nat) : List PV → Bool
  | [] => true
  | x :: xs => boxLt n x && boxLtL n xs
def boxLtD (n : Nat) : List (DK × PV) → Bool
  | [] => true
  | (_, x) :: xs => boxLt n x && boxLtD n xs
end

/-- a def: pure ones leave the store as it was -/
structure MD where
  pure : Bool
  slots : Nat
  args : Nat
  body : MSs

def fin (pure : Bool) (v : PV) (st st' : Sto) : R PV := if pure then (if boxLt st.length v then .ok v st else .bad) else .ok v st'
def runFn (Γ : Gam) (d : MD) (lo : Nat) (xs : List PV) (st : Sto) : R PV :=
  if xs.length = d.args then
    match execs Γ (if d.pure then st.length else lo) d.body (xs.map some ++ List.replicate (d.slots - d.args) none) st with
    | .ret v st' => fin d.pure v st st'
    | .nx _ st' => fin d.pure .none st st'
    | .exc c _ st' => .exc c (if d.pure then st else st')
    | .bad => .bad
  else .bad

end Z

/-! How trees and the store lie in the heap of the hand layer. -/
namespace Z
open PySem PySem.Spec PyProof.Rows
open L2 (V HO Hp SqL SqT Rd upd upd_same upd_ne ne_of ne_of_none)

structure Ctx where
  K : PySem.W.Frag
  ca : Nat → Addr
  rsv : List Addr

def keyR : KA → L2.Key
  | .i n => .inl n
  | .s t => .inr (toS t)

def alive (st : Sto) (i : Nat) : Prop := ∃ o, st[i]? = some o ∧ o ≠ .dead
/-- not changed by anybody: no thing of the store, not one that is being made -/
def Free (rs : List Addr) (ms : List Addr) (st : Sto) (a : Addr) : Prop := a ∉ rs ∧ ∀ i, alive st i → ms[i]? ≠ some a

/-- a tuple, a list that stays: nobody changes it -/
def FT (K : PySem.W.Frag) (H : Hp) (a : Addr) (vs : List V) : Prop := H a = some (.tup vs)
def FL (rs : List Addr) (ms : List Addr) (st : Sto) (H : Hp) (a : Addr) (vs : List V) : Prop := Rd H a (.lst vs) ∧ Free rs ms st a

/-- a list of ints: one that nobody changes, or the module's own -/
def KL (K : PySem.W.Frag) (a : Addr) (vs : List V) : Prop := ∃ (o : Obj) (its : Array Value) (n : Nat), K.lookup a = some o ∧ o.cls = .type "list" ∧ o.dict = none ∧ o.data = .seq its n ∧ its.size ≤ PySem.sizeLine ∧ L2.Vals vs its.toList
def KS (K : PySem.W.Frag) (rs : List Addr) (ms : List Addr) (st : Sto) (H : Hp) (a : Addr) (vs : List V) : Prop := FL rs ms st H a vs ∨ KL K a vs
section
variable (G : Ctx) (ms : List Addr) (st : Sto) (H : Hp)
mutual
def Rep : PV → V → Prop
  | .none, v => v = .non
  | .bool b, v => v = .bl b
  | .int i, v => v = .int i
  | .str s, v => v = .str (toS s)
  | .tup ds, v => ∃ a vs, v = .ref a ∧ FT G.K H a vs ∧ RepL ds vs
  | .lst ds, v => ∃ a vs, v = .ref a ∧ FL G.rsv ms st H a vs ∧ RepL ds vs
  | .dct false kvs, v => ∃ a l, v = .ref a ∧ Free G.rsv ms st a ∧ Rd H a (.dK l) ∧ RepK kvs l
  | .dct true kvs, v => ∃ a l, v = .ref a ∧ Free G.rsv ms st a ∧ Rd H a (.dT l) ∧ RepT kvs l
  | .box i, v => ∃ a, v = .ref a ∧ ms[i]? = some a
  | .exc c, v => ∃ a, v = .ref a ∧ Rd H a (L2.ExO (.ref (G.ca c)) a) ∧ Free G.rsv ms st a
  | .kls ns, v => ∃ a, v = .ref a ∧ KS G.K G.rsv ms st H a (ns.map V.int)
def RepL : List PV → List V → Prop
  | [], vs => vs = []
  | d :: ds, vs => ∃ v r, vs = v :: r ∧ Rep d v ∧ RepL ds r
def RepK : List (DK × PV) → List (L2.Key × V) → Prop
  | [], l => l = []
  | (k, d) :: r, l => ∃ ka v l', k = .a ka ∧ l = (keyR ka, v) :: l' ∧ Rep d v ∧ RepK r l'
def RepT : List (DK × PV) → List (List L2.Key × V) → Prop
  | [], l => l = []
  | (k, d) :: r, l => ∃ ks v l', k = .t ks ∧ l = (ks.map keyR, v) :: l' ∧ Rep d v ∧ RepT r l'
end
def RepF : List (String × PV) → List (Str × V) → Prop
  | [], l => l = []
  | (f, d) :: r, l => ∃ v l', l = (Str.ofString f, v) :: l' ∧ Rep G ms st H d v ∧ RepF r l'

def ObjR : PO → Addr → Prop
  | .dead, _ => True
  | .lst xs, a => ∃ vs, H a = some (.lst vs) ∧ RepL G ms st H xs vs
  | .dct false kvs, a => ∃ l, H a = some (.dK l) ∧ RepK G ms st H kvs l
  | .dct true kvs, a => ∃ l, H a = some (.dT l) ∧ RepT G ms st H kvs l
  | .inst c fs, a => ∃ dx l, H a = some (.ins (G.ca c) dx l) ∧ RepF G ms st H fs l

structure SOk : Prop where
  len : ms.length = st.length
  inj : ∀ (i j : Nat) (a : Addr), alive st i → alive st j → ms[i]? = some a → ms[j]? = some a → i = j
  obj : ∀ (i : Nat) (o : PO) (a : Addr), st[i]? = some o → ms[i]? = some a → ObjR G ms st H o a
  out : ∀ (i : Nat) (a : Addr), alive st i → ms[i]? = some a → a ∉ G.rsv
  rsv : ∀ a ∈ G.rsv, H a ≠ none

def EOk : Env → List (Option V) → Prop
  | [], σ => σ = []
  | o :: ρ, σ => ∃ v σ', σ = v :: σ' ∧ (∀ d, o = some d → ∃ u, v = some u ∧ Rep G ms st H d u) ∧ EOk ρ σ'
end

structure Ext (rs : List Addr) (lo : Nat) (ms : List Addr) (st : Sto) (H : Hp) (ms' : List Addr) (st' : Sto) (H' : Hp) : Prop where
  pre : ms <+: ms'
  keep : ∀ a u, Rd H a u → Free rs ms st a → Rd H' a u
  tup : ∀ a vs, H a = some (.tup vs) → H' a = some (.tup vs)
  dom : ∀ a, H a ≠ none → H' a ≠ none
  alv : ∀ i, i < ms.length → alive st' i → alive st i
  new : ∀ i a, ms.length ≤ i → ms'[i]? = some a → H a = none
  low : ∀ i, i < lo → st'[i]? = st[i]?
  rsv : ∀ a ∈ rs, H a ≠ none → H' a = H a

section
variable {G : Ctx} {rs : List Addr} {lo : Nat} {ms ms' ms1 ms2 : List Addr} {st st' st1 st2 : Sto} {H H' H1 H2 : Hp}

theorem Ext.refl : Ext rs lo ms st H ms st H where
  pre := List.prefix_refl _
  keep := fun _ _ r _ => r
  tup := fun _ _ h => h
  dom := fun _ h => h
  alv := fun _ _ h => h
  new := fun i a h e => by
    have := (List.getElem?_eq_some_iff.mp e).1
    omega
  low := fun _ _ => rfl
  rsv := fun _ _ _ => rfl

theorem pre_get {i : Nat} {a : Addr} (p : ms <+: ms') (e : ms[i]? = some a) : ms'[i]? = some a := by
  obtain ⟨t, rfl⟩ := p
  rw [List.getElem?_append_left (List.getElem?_eq_some_iff.mp e).1]
  exact e
theorem pre_back {i : Nat} {a : Addr} (p : ms <+: ms') (h : i < ms.length) (e : ms'[i]? = some a) : ms[i]? = some a := by
  obtain ⟨t, rfl⟩ := p
  rw [List.getElem?_append_left h] at e
  exact e
theorem Rd.ne_none {a : Addr} {u : HO} (r : Rd H a u) : H a ≠ none := by
  rcases r with r | ⟨o, r⟩ <;> rw [r] <;> simp
theorem Ext.free {a : Addr} (e : Ext rs lo ms st H ms' st' H') (f : Free rs ms st a) (h : H a ≠ none) : Free rs ms' st' a := ⟨f.1, fun i al q => by
  by_cases hi : i < ms.length
  · exact f.2 i (e.alv i hi al) (pre_back e.pre hi q)
  · exact h (e.new i a (by omega) q)⟩
theorem Ext.trans (a : Ext rs lo ms st H ms1 st1 H1) (b : Ext rs lo ms1 st1 H1 ms2 st2 H2) : Ext rs lo ms st H ms2 st2 H2 where
  pre := a.pre.trans b.pre
  keep := fun x u r f => b.keep x u (a.keep x u r f) (a.free f (Rd.ne_none r))
  tup := fun x vs h => b.tup x vs (a.tup x vs h)
  dom := fun x h => b.dom x (a.dom x h)
  alv := fun i h al => a.alv i h (b.alv i (Nat.lt_of_lt_of_le h a.pre.length_le) al)
  new := fun i x h e => by
    by_cases hi : i < ms1.length
    · exact a.new i x h (pre_back b.pre hi e)
    · have := b.new i x (by omega) e
      cases q : H x with
      | none => rfl
      | some o => exact absurd this (a.dom x (by rw [q]; simp))
  low := fun i h => (b.low i h).trans (a.low i h)
  rsv := fun x hx h => (b.rsv x hx (a.dom x h)).trans (a.rsv x hx h)
theorem Ext.mono {lo' : Nat} (a : Ext rs lo ms st H ms1 st1 H1) (h : lo' ≤ lo) : Ext rs lo' ms st H ms1 st1 H1 := ⟨a.pre, a.keep, a.tup, a.dom, a.alv, a.new, fun i hi => a.low i (by omega), a.rsv⟩

theorem FT.sq {K : PySem.W.Frag} {a : Addr} {vs : List V} (h : FT K H a vs) : SqT K H a vs := .inl (.inl h)
theorem FL.sq {K : PySem.W.Frag} {a : Addr} {vs : List V} (h : FL rs ms st H a vs) : SqL K H a vs := .inl h.1
theorem KS.sq {K : PySem.W.Frag} {a : Addr} {vs : List V} (h : KS K rs ms st H a vs) : SqL K H a vs := h.elim (fun h => .inl h.1) .inr
theorem FT.ext {K : PySem.W.Frag} {a : Addr} {vs : List V} (h : FT K H a vs) (e : Ext rs lo ms st H ms' st' H') : FT K H' a vs := e.tup _ _ h
theorem FL.ext {a : Addr} {vs : List V} (h : FL rs ms st H a vs) (e : Ext rs lo ms st H ms' st' H') : FL rs ms' st' H' a vs := ⟨e.keep _ _ h.1 h.2, e.free h.2 (Rd.ne_none h.1)⟩

mutual
theorem Rep.ext (e : Ext G.rsv lo ms st H ms' st' H') : ∀ (d : PV) (v : V), Rep G ms st H d v → Rep G ms' st' H' d v
  | .none, v, h => by simpa only [Rep] using h
  | .bool b, v, h => by simpa only [Rep] using h
  | .int i, v, h => by simpa only [Rep] using h
  | .str s, v, h => by simpa only [Rep] using h
  | .tup ds, v, h => by
    simp only [Rep] at h ⊢
    obtain ⟨a, vs, e1, e2, e3⟩ := h
    exact ⟨a, vs, e1, e2.ext e, RepL.ext e ds vs e3⟩
  | .lst ds, v, h => by
    simp only [Rep] at h ⊢
    obtain ⟨a, vs, e1, e2, e3⟩ := h
    exact ⟨a, vs, e1, e2.ext e, RepL.ext e ds vs e3⟩
  | .dct false kvs, v, h => by
    simp only [Rep] at h ⊢
    obtain ⟨a, l, e1, f, r, h⟩ := h
    exact ⟨a, l, e1, e.free f (Rd.ne_none r), e.keep _ _ r f, RepK.ext e kvs l h⟩
  | .dct true kvs, v, h => by
    simp only [Rep] at h ⊢
    obtain ⟨a, l, e1, f, r, h⟩ := h
    exact ⟨a, l, e1, e.free f (Rd.ne_none r), e.keep _ _ r f, RepT.ext e kvs l h⟩
  | .box i, v, h => by
    simp only [Rep] at h ⊢
    obtain ⟨a, e1, e2⟩ := h
    exact ⟨a, e1, pre_get e.pre e2⟩
  | .exc c, v, h => by
    simp only [Rep] at h ⊢
    obtain ⟨a, e1, e2, f⟩ := h
    exact ⟨a, e1, e.keep _ _ e2 f, e.free f (Rd.ne_none e2)⟩
  | .kls ns, v, h => by
    simp only [Rep] at h ⊢
    obtain ⟨a, e1, e2⟩ := h
    exact ⟨a, e1, e2.imp (fun e2 => e2.ext e) id⟩
theorem RepL.ext (e : Ext G.rsv lo ms st H ms' st' H') : ∀ (ds : List PV) (vs : List V), RepL G ms st H ds vs → RepL G ms' st' H' ds vs
  | [], vs, h => by simpa only [RepL] using h
  | d :: ds, vs, h => by
    simp only [RepL] at h ⊢
    obtain ⟨v, r, e1, e2, e3⟩ := h
    exact ⟨v, r, e1, Rep.ext e d v e2, RepL.ext e ds r e3⟩
theorem RepK.ext (e : Ext G.rsv lo ms st H ms' st' H') : ∀ (ds : List (DK × PV)) (vs : List (L2.Key × V)), RepK G ms st H ds vs → RepK G ms' st' H' ds vs
  | [], vs, h => by simpa only [RepK] using h
  | (k, d) :: ds, vs, h => by
    simp only [RepK] at h ⊢
    obtain ⟨ka, v, l', e1, e2, e3, e4⟩ := h
    exact ⟨ka, v, l', e1, e2, Rep.ext e d v e3, RepK.ext e ds l' e4⟩
theorem RepT.ext (e : Ext G.rsv lo ms st H ms' st' H') : ∀ (ds : List (DK × PV)) (vs : List (List L2.Key × V)), RepT G ms st H ds vs → RepT G ms' st' H' ds vs
  | [], vs, h => by simpa only [RepT] using h
  | (k, d) :: ds, vs, h => by
    simp only [RepT] at h ⊢
    obtain ⟨ka, v, l', e1, e2, e3, e4⟩ := h
    exact ⟨ka, v, l', e1, e2, Rep.ext e d v e3, RepT.ext e ds l' e4⟩
end
theorem RepF.ext (e : Ext G.rsv lo ms st H ms' st' H') : ∀ (ds : List (String × PV)) (vs : List (Str × V)), RepF G ms st H ds vs → RepF G ms' st' H' ds vs
  | [], vs, h => by simpa only [RepF] using h
  | (k, d) :: ds, vs, h => by
    simp only [RepF] at h ⊢
    obtain ⟨v, l', e2, e3, e4⟩ := h
    exact ⟨v, l', e2, Rep.ext e d v e3, RepF.ext e ds l' e4⟩
theorem EOk.ext (e : Ext G.rsv lo ms st H ms' st' H') : ∀ (ρ : Env) (σ : List (Option V)), EOk G ms st H ρ σ → EOk G ms' st' H' ρ σ
  | [], σ, h => by simpa only [EOk] using h
  | o :: ρ, σ, h => by
    simp only [EOk] at h ⊢
    obtain ⟨v, σ', e1, e2, e3⟩ := h
    exact ⟨v, σ', e1, fun d hd => let ⟨u, q, r⟩ := e2 d hd; ⟨u, q, Rep.ext e d u r⟩, EOk.ext e ρ σ' e3⟩

/-! ### what expressions come to -/
/-- r leads to Q, or to E -/
def Res {α β : Type} (G : Ctx) (rep : List Addr → Sto → Hp → α → β → Prop) (lo : Nat) (ms : List Addr) (st : Sto) (H : Hp) (r : R α) (Q : β → Hp → Prop) (E : Nat → Hp → Prop) : Prop := match r with
  | .ok v st' => ∀ ms' H' u, Ext G.rsv lo ms st H ms' st' H' → SOk G ms' st' H' → rep ms' st' H' v u → Q u H'
  | .exc c st' => ∀ ms' H', Ext G.rsv lo ms st H ms' st' H' → SOk G ms' st' H' → E c H'
  | .bad => False
theorem Res.after {α β : Type} {rep : List Addr → Sto → Hp → α → β → Prop} {r : R α} {Q : β → Hp → Prop} {E : Nat → Hp → Prop} (h : Res G rep lo ms st H r Q E) (e : Ext G.rsv lo ms st H ms1 st1 H1) : Res G rep lo ms1 st1 H1 r Q E := by
  cases r with
  | ok v st' => exact fun ms' H' u e' => h ms' H' u (e.trans e')
  | exc c st' => exact fun ms' H' e' => h ms' H' (e.trans e')
  | bad => exact h
theorem Res.bind1 {α β α' β' : Type} {rep : List Addr → Sto → Hp → α → β → Prop} {rep' : List Addr → Sto → Hp → α' → β' → Prop} {r : R α} {f : α → Sto → R α'} {Q : β' → Hp → Prop} {Q1 : β → Hp → Prop} {E : Nat → Hp → Prop}
    (h : Res G rep' lo ms st H (r.bind f) Q E)
    (k : ∀ x st1 ms1 H1 u, Ext G.rsv lo ms st H ms1 st1 H1 → SOk G ms1 st1 H1 → rep ms1 st1 H1 x u → Res G rep' lo ms1 st1 H1 (f x st1) Q E → Q1 u H1) : Res G rep lo ms st H r Q1 E := by
  cases r with
  | ok v st' => exact fun ms' H' u e o r => k v st' ms' H' u e o r (Res.after (rep := rep') h e)
  | exc c st' => exact h
  | bad => exact h
theorem Res.mono {α β : Type} {rep : List Addr → Sto → Hp → α → β → Prop} {r : R α} {Q Q' : β → Hp → Prop} {E E' : Nat → Hp → Prop} (h : Res G rep lo ms st H r Q E) (q : ∀ u H, Q u H → Q' u H) (e : ∀ c H, E c H → E' c H) : Res G rep lo ms st H r Q' E' := by
  cases r with
  | ok v st' => exact fun ms' H' u e o r => q _ _ (h ms' H' u e o r)
  | exc c st' => exact fun ms' H' e' o => e _ _ (h ms' H' e' o)
  | bad => exact h
/-- a value is there -/
theorem Res.done {α β : Type} {rep : List Addr → Sto → Hp → α → β → Prop} {v : α} {u : β} {Q : β → Hp → Prop} {E : Nat → Hp → Prop} (h : Res G rep lo ms st H (.ok v st) Q E) (o : SOk G ms st H) (r : rep ms st H v u) : Q u H := h ms H u Ext.refl o r
end

/-- what an expression of a def comes to, as a reading of the hand layer -/
def tE (G : Ctx) (lo : Nat) (W : L2.WX) (d : Env → Sto → R PV) : L2.TE := fun σ H Q => ∃ ms ρ st, lo ≤ st.length ∧ SOk G ms st H ∧ EOk G ms st H ρ σ ∧ Res G (Rep G) lo ms st H (d ρ st) Q fun c H' => W (.ref (G.ca c)) none σ H'
def tEs (G : Ctx) (lo : Nat) (W : L2.WX) (d : Env → Sto → R (List PV)) : L2.TA := fun σ H Q => ∃ ms ρ st, lo ≤ st.length ∧ SOk G ms st H ∧ EOk G ms st H ρ σ ∧ Res G (RepL G) lo ms st H (d ρ st) Q fun c H' => W (.ref (G.ca c)) none σ H'
end Z

/-! What a tree leans on, carried over. -/
namespace Z
open PySem PySem.Spec PyProof.Rows
open L2 (V HO Hp SqL SqT Rd upd upd_same upd_ne ne_of ne_of_none)

section
variable {G : Ctx}
/-- all that a tree leans on is carried over -/
structure Carry (G G' : Ctx) (ms : List Addr) (st : Sto) (H : Hp) (ms' : List Addr) (st' : Sto) (H' : Hp) : Prop where
  K : G'.K = G.K
  ca : G'.ca = G.ca
  rd : ∀ a u, Rd H a u → Free G.rsv ms st a → Rd H' a u ∧ Free G'.rsv ms' st' a
  tp : ∀ a vs, H a = some (.tup vs) → H' a = some (.tup vs)
  bx : ∀ (i : Nat) (a : Addr), ms[i]? = some a → ms'[i]? = some a
section
variable {G' : Ctx} {ms ms' : List Addr} {st st' : Sto} {H H' : Hp}
mutual
theorem Rep.carry (c : Carry G G' ms st H ms' st' H') : ∀ (d : PV) (v : V), Rep G ms st H d v → Rep G' ms' st' H' d v
  | .none, v, h => by simpa only [Rep] using h
  | .bool b, v, h => by simpa only [Rep] using h
  | .int i, v, h => by simpa only [Rep] using h
  | .str s, v, h => by simpa only [Rep] using h
  | .tup ds, v, h => by
    simp only [Rep] at h ⊢
    obtain ⟨a, vs, e1, e2, e3⟩ := h
    exact ⟨a, vs, e1, c.tp _ _ e2, RepL.carry c ds vs e3⟩
  | .lst ds, v, h => by
    simp only [Rep] at h ⊢
    obtain ⟨a, vs, e1, e2, e3⟩ := h
    exact ⟨a, vs, e1, c.rd _ _ e2.1 e2.2, RepL.carry c ds vs e3⟩
  | .dct false kvs, v, h => by
    simp only [Rep] at h ⊢
    obtain ⟨a, l, e1, f, r, h⟩ := h
    exact ⟨a, l, e1, (c.rd _ _ r f).2, (c.rd _ _ r f).1, RepK.carry c kvs l h⟩
  | .dct true kvs, v, h => by
    simp only [Rep] at h ⊢
    obtain ⟨a, l, e1, f, r, h⟩ := h
    exact ⟨a, l, e1, (c.rd _ _ r f).2, (c.rd _ _ r f).1, RepT.carry c kvs l h⟩
  | .box i, v, h => by
    simp only [Rep] at h ⊢
    obtain ⟨a, e1, e2⟩ := h
    exact ⟨a, e1, c.bx _ _ e2⟩
  | .exc k, v, h => by
    simp only [Rep] at h ⊢
    obtain ⟨a, e1, e2, f⟩ := h
    rw [c.ca]
    exact ⟨a, e1, (c.rd _ _ e2 f).1, (c.rd _ _ e2 f).2⟩
  | .kls ns, v, h => by
    simp only [Rep] at h ⊢
    obtain ⟨a, e1, e2⟩ := h
    rw [c.K]
    exact ⟨a, e1, e2.imp (fun e2 => c.rd _ _ e2.1 e2.2) id⟩
theorem RepL.carry (c : Carry G G' ms st H ms' st' H') : ∀ (ds : List PV) (vs : List V), RepL G ms st H ds vs → RepL G' ms' st' H' ds vs
  | [], vs, h => by simpa only [RepL] using h
  | d :: ds, vs, h => by
    simp only [RepL] at h ⊢
    obtain ⟨v, r, e1, e2, e3⟩ := h
    exact ⟨v, r, e1, Rep.carry c d v e2, RepL.carry c ds r e3⟩
theorem RepK.carry (c : Carry G G' ms st H ms' st' H') : ∀ (ds : List (DK × PV)) (vs : List (L2.Key × V)), RepK G ms st H ds vs → RepK G' ms' st' H' ds vs
  | [], vs, h => by simpa only [RepK] using h
  | (k, d) :: ds, vs, h => by
    simp only [RepK] at h ⊢
    obtain ⟨ka, v, l', e1, e2, e3, e4⟩ := h
    exact ⟨ka, v, l', e1, e2, Rep.carry c d v e3, RepK.carry c ds l' e4⟩
theorem RepT.carry (c : Carry G G' ms st H ms' st' H') : ∀ (ds : List (DK × PV)) (vs : List (List L2.Key × V)), RepT G ms st H ds vs → RepT G' ms' st' H' ds vs
  | [], vs, h => by simpa only [RepT] using h
  | (k, d) :: ds, vs, h => by
    simp only [RepT] at h ⊢
    obtain ⟨ka, v, l', e1, e2, e3, e4⟩ := h
    exact ⟨ka, v, l', e1, e2, Rep.carry c d v e3, RepT.carry c ds l' e4⟩
end
theorem RepF.carry (c : Carry G G' ms st H ms' st' H') : ∀ (ds : List (String × PV)) (vs : List (Str × V)), RepF G ms st H ds vs → RepF G' ms' st' H' ds vs
  | [], vs, h => by simpa only [RepF] using h
  | (k, d) :: ds, vs, h => by
    simp only [RepF] at h ⊢
    obtain ⟨v, l', e2, e3, e4⟩ := h
    exact ⟨v, l', e2, Rep.carry c d v e3, RepF.carry c ds l' e4⟩
theorem ObjR.carry (c : Carry G G' ms st H ms' st' H') {o : PO} {a : Addr} (h : ObjR G ms st H o a) (q : ∀ u, H a = some u → H' a = some u) : ObjR G' ms' st' H' o a := by
  cases o with
  | dead => trivial
  | lst xs => obtain ⟨vs, h1, h2⟩ := h; exact ⟨vs, q _ h1, RepL.carry c _ _ h2⟩
  | dct t kvs => cases t <;> (obtain ⟨vs, h1, h2⟩ := h; first | exact ⟨vs, q _ h1, RepK.carry c _ _ h2⟩ | exact ⟨vs, q _ h1, RepT.carry c _ _ h2⟩)
  | inst k fs => obtain ⟨dx, vs, h1, h2⟩ := h; exact ⟨dx, vs, c.ca ▸ q _ h1, RepF.carry c _ _ h2⟩
end

theorem Ext.carry {lo : Nat} {ms ms' : List Addr} {st st' : Sto} {H H' : Hp} (e : Ext G.rsv lo ms st H ms' st' H') : Carry G G ms st H ms' st' H' :=
  ⟨rfl, rfl, fun a u r f => ⟨e.keep a u r f, e.free f (Rd.ne_none r)⟩, e.tup, fun _ _ h => pre_get e.pre h⟩
theorem Carry.trans {G' G'' : Ctx} {ms ms' ms'' : List Addr} {st st' st'' : Sto} {H H' H'' : Hp} (a : Carry G G' ms st H ms' st' H') (b : Carry G' G'' ms' st' H' ms'' st'' H'') : Carry G G'' ms st H ms'' st'' H'' :=
  ⟨b.K.trans a.K, b.ca.trans a.ca, fun x u r f => b.rd x u (a.rd x u r f).1 (a.rd x u r f).2, fun x vs h => b.tp x vs (a.tp x vs h), fun i x h => b.bx i x (a.bx i x h)⟩
theorem Carry.refl {ms : List Addr} {st : Sto} {H : Hp} : Carry G G ms st H ms st H := ⟨rfl, rfl, fun _ _ r f => ⟨r, f⟩, fun _ _ h => h, fun _ _ h => h⟩
end
end Z

/-! Operators: what the small language's values come to, against the hand layer's rules. -/
namespace Z
open PySem PySem.Spec PyProof.Rows
open L2 (V HO Hp SqL SqT Rd upd upd_same upd_ne ne_of ne_of_none Cx PE PT PS PSs PA PG PI Inv St VK TE TA TS TT RelV Vals)

section
variable {G : Ctx} {lo : Nat} {ms : List Addr} {st : Sto} {H H' : Hp}

theorem ObjR.keep {ms' : List Addr} {st' : Sto} {o : PO} {a : Addr} (e : Ext G.rsv lo ms st H ms' st' H') (h : ObjR G ms st H o a) (q : H a ≠ none → H' a = H a) : ObjR G ms' st' H' o a := by
  cases o with
  | dead => trivial
  | lst xs =>
    obtain ⟨vs, h1, h2⟩ := h
    exact ⟨vs, (q (by rw [h1]; simp)).trans h1, RepL.ext e _ _ h2⟩
  | dct t kvs =>
    cases t with
    | false =>
      obtain ⟨vs, h1, h2⟩ := h
      exact ⟨vs, (q (by rw [h1]; simp)).trans h1, RepK.ext e _ _ h2⟩
    | true =>
      obtain ⟨vs, h1, h2⟩ := h
      exact ⟨vs, (q (by rw [h1]; simp)).trans h1, RepT.ext e _ _ h2⟩
  | inst c fs =>
    obtain ⟨dx, vs, h1, h2⟩ := h
    exact ⟨dx, vs, (q (by rw [h1]; simp)).trans h1, RepF.ext e _ _ h2⟩
theorem ObjR.there {o : PO} {a : Addr} (h : ObjR G ms st H o a) (n : o ≠ .dead) : H a ≠ none := by
  cases o with
  | dead => exact absurd rfl n
  | lst xs => obtain ⟨vs, h1, _⟩ := h; rw [h1]; simp
  | dct t kvs => cases t <;> (obtain ⟨vs, h1, _⟩ := h; rw [h1]; simp)
  | inst c fs => obtain ⟨dx, vs, h1, _⟩ := h; rw [h1]; simp
/-- more is there: nothing else has changed -/
theorem Ext.grow {rs : List Addr} (q : ∀ a, H a ≠ none → H' a = H a) : Ext rs lo ms st H ms st H' where
  pre := List.prefix_refl _
  keep := fun a u r _ => by
    have e := q a (Rd.ne_none r)
    rcases r with r | ⟨o, r⟩
    · exact .inl (e.trans r)
    · exact .inr ⟨o, e.trans r⟩
  tup := fun a vs h => (q a (by rw [h]; simp)).trans h
  dom := fun a h => by rw [q a h]; exact h
  alv := fun _ _ h => h
  new := fun i a h e => by
    have := (List.getElem?_eq_some_iff.mp e).1
    omega
  low := fun _ _ => rfl
  rsv := fun a _ h => q a h
theorem SOk.grow (S : SOk G ms st H) (q : ∀ a, H a ≠ none → H' a = H a) : SOk G ms st H' :=
  ⟨S.len, S.inj, fun i o a h1 h2 => (S.obj i o a h1 h2).keep (Ext.grow (lo := 0) q) (q a), S.out, fun a ha => by rw [q a (S.rsv a ha)]; exact S.rsv a ha⟩
theorem upd_grow {p : Addr} {o : HO} (hp : H p = none) : ∀ a, H a ≠ none → upd H p o a = H a := fun a h => upd_ne fun z => by subst z; exact h hp
theorem free_new (S : SOk G ms st H) {p : Addr} (hp : H p = none) : Free G.rsv ms st p := ⟨fun h => S.rsv p h hp, fun i ⟨o, h1, h2⟩ e => (S.obj i o p h1 e).there h2 hp⟩
theorem alive_append {o : PO} {i : Nat} (h : alive (st ++ [o]) i) (hi : i < st.length) : alive st i := by
  obtain ⟨q, h1, h2⟩ := h
  rw [List.getElem?_append_left hi] at h1
  exact ⟨q, h1, h2⟩
/-- a new thing of the store, laid at p -/
theorem Ext.newBox (S : SOk G ms st H) {p : Addr} {o : PO} {w : HO} (hp : H p = none) (hlo : lo ≤ st.length) : Ext G.rsv lo ms st H (ms ++ [p]) (st ++ [o]) (upd H p w) where
  pre := List.prefix_append _ _
  keep := fun a u r _ => by
    have e : upd H p w a = H a := upd_grow hp a (Rd.ne_none r)
    rcases r with r | ⟨o, r⟩
    · exact .inl (e.trans r)
    · exact .inr ⟨o, e.trans r⟩
  tup := fun a vs h => (upd_grow hp a (by rw [h]; simp)).trans h
  dom := fun a h => by rw [upd_grow hp a h]; exact h
  alv := fun i hi h => alive_append h (by rw [← S.len]; exact hi)
  new := fun i a h e => by
    have hi := (List.getElem?_eq_some_iff.mp e).1
    rw [List.length_append, List.length_singleton] at hi
    obtain rfl : i = ms.length := by omega
    rw [List.getElem?_append_right (Nat.le_refl _), Nat.sub_self] at e
    obtain rfl : p = a := by simpa using e
    exact hp
  low := fun i hi => List.getElem?_append_left (Nat.lt_of_lt_of_le hi hlo)
  rsv := fun a _ h => upd_grow hp a h
theorem SOk.newBox (S : SOk G ms st H) {p : Addr} {o : PO} {u : HO} (hp : H p = none) (ho : ObjR G (ms ++ [p]) (st ++ [o]) (upd H p u) o p) : SOk G (ms ++ [p]) (st ++ [o]) (upd H p u) := by
  have e : Ext G.rsv 0 ms st H (ms ++ [p]) (st ++ [o]) (upd H p u) := Ext.newBox S hp (Nat.zero_le _)
  have old : ∀ {i : Nat} {a : Addr}, i < st.length → (ms ++ [p])[i]? = some a → ms[i]? = some a := fun hi h => by
    rw [List.getElem?_append_left (by rw [S.len]; exact hi)] at h
    exact h
  have last : ∀ {i : Nat} {a : Addr}, ¬ i < st.length → (ms ++ [p])[i]? = some a → i = st.length ∧ a = p := fun {i a} hi h => by
    have h2 := (List.getElem?_eq_some_iff.mp h).1
    rw [List.length_append, List.length_singleton, S.len] at h2
    obtain rfl : i = st.length := by omega
    rw [← S.len, List.getElem?_append_right (Nat.le_refl _), Nat.sub_self] at h
    exact ⟨rfl, by simpa using h.symm⟩
  refine ⟨by simp [S.len], fun i j a ai aj hi hj => ?_, fun i q a h1 h2 => ?_, fun i a ai hi => ?_, fun a ha => by rw [upd_grow hp a (S.rsv a ha)]; exact S.rsv a ha⟩
  · by_cases ci : i < st.length
    · by_cases cj : j < st.length
      · exact S.inj i j a (alive_append ai ci) (alive_append aj cj) (old ci hi) (old cj hj)
      · obtain ⟨rfl, rfl⟩ := last cj hj
        exact absurd (old ci hi) ((free_new S hp).2 i (alive_append ai ci))
    · obtain ⟨rfl, rfl⟩ := last ci hi
      by_cases cj : j < st.length
      · exact absurd (old cj hj) ((free_new S hp).2 j (alive_append aj cj))
      · exact (last cj hj).1.symm
  · by_cases ci : i < st.length
    · rw [List.getElem?_append_left ci] at h1
      exact (S.obj i q a h1 (old ci h2)).keep e (upd_grow hp a)
    · obtain ⟨rfl, rfl⟩ := last ci h2
      rw [List.getElem?_append_right (Nat.le_refl _), Nat.sub_self] at h1
      obtain rfl : o = q := by simpa using h1
      exact ho
  · by_cases ci : i < st.length
    · exact S.out i a (alive_append ai ci) (old ci hi)
    · obtain ⟨rfl, rfl⟩ := last ci hi
      exact (free_new S hp).1

/-- a list is made: a tree or a new thing of the store -/
theorem mkLst_ok {bx : Bool} {xs : List PV} {vs : List V} {Q : VK} {E : Nat → Hp → Prop} (S : SOk G ms st H) (hlo : lo ≤ st.length) (r : RepL G ms st H xs vs) (h : Res G (Rep G) lo ms st H (mkLst bx xs st) Q E) :
    ∀ p, H p = none → Q (.ref p) (upd H p (.lst vs)) := fun p hp => by
  cases bx with
  | false =>
    refine h ms _ (.ref p) (Ext.grow (upd_grow hp)) (S.grow (upd_grow hp)) ?_
    simp only [Rep]
    exact ⟨p, vs, rfl, ⟨.inl upd_same, free_new S hp⟩, RepL.ext (Ext.grow (lo := 0) (upd_grow hp)) _ _ r⟩
  | true =>
    have e : Ext G.rsv lo ms st H (ms ++ [p]) (st ++ [.lst xs]) (upd H p (.lst vs)) := Ext.newBox S hp hlo
    refine h (ms ++ [p]) _ (.ref p) e (S.newBox hp ⟨vs, upd_same, RepL.ext e _ _ r⟩) ?_
    show Rep G (ms ++ [p]) (st ++ [.lst xs]) (upd H p (.lst vs)) (.box st.length) (.ref p)
    simp only [Rep]
    exact ⟨p, rfl, by rw [← S.len]; simp⟩
/-- a tuple is made -/
theorem tup_ok {xs : List PV} {vs : List V} {Q : VK} {E : Nat → Hp → Prop} (S : SOk G ms st H) (r : RepL G ms st H xs vs) (h : Res G (Rep G) lo ms st H (.ok (.tup xs) st) Q E) :
    ∀ p, H p = none → Q (.ref p) (upd H p (.tup vs)) := fun p hp => by
  refine h ms _ (.ref p) (Ext.grow (upd_grow hp)) (S.grow (upd_grow hp)) ?_
  simp only [Rep]
  exact ⟨p, vs, rfl, upd_same, RepL.ext (Ext.grow (lo := 0) (upd_grow hp)) _ _ r⟩

theorem RepL.length : ∀ (xs : List PV) (vs : List V), RepL G ms st H xs vs → vs.length = xs.length
  | [], vs, h => by simp only [RepL] at h; subst h; rfl
  | d :: ds, vs, h => by
    simp only [RepL] at h
    obtain ⟨v, r, rfl, _, h⟩ := h
    rw [List.length_cons, List.length_cons, RepL.length ds r h]
theorem RepL.append : ∀ (xs ys : List PV) (vs ws : List V), RepL G ms st H xs vs → RepL G ms st H ys ws → RepL G ms st H (xs ++ ys) (vs ++ ws)
  | [], ys, vs, ws, h, q => by simp only [RepL] at h; subst h; exact q
  | d :: ds, ys, vs, ws, h, q => by
    simp only [RepL, List.cons_append] at h ⊢
    obtain ⟨v, r, rfl, h1, h2⟩ := h
    exact ⟨v, r ++ ws, rfl, h1, RepL.append ds ys r ws h2 q⟩
theorem RepL.drop : ∀ (n : Nat) (xs : List PV) (vs : List V), RepL G ms st H xs vs → RepL G ms st H (xs.drop n) (vs.drop n)
  | 0, xs, vs, h => by simpa using h
  | n + 1, [], vs, h => by simp only [RepL] at h; subst h; simp [RepL]
  | n + 1, d :: ds, vs, h => by
    simp only [RepL] at h
    obtain ⟨v, r, rfl, _, h⟩ := h
    simpa using RepL.drop n ds r h
theorem RepL.take : ∀ (n : Nat) (xs : List PV) (vs : List V), RepL G ms st H xs vs → RepL G ms st H (xs.take n) (vs.take n)
  | 0, xs, vs, h => by simp [RepL]
  | n + 1, [], vs, h => by simp only [RepL] at h; subst h; simp [RepL]
  | n + 1, d :: ds, vs, h => by
    simp only [RepL] at h
    obtain ⟨v, r, rfl, h1, h⟩ := h
    simp only [List.take_succ_cons, RepL]
    exact ⟨v, _, rfl, h1, RepL.take n ds r h⟩
theorem RepL.get : ∀ (xs : List PV) (vs : List V) (i : Nat) (x : PV), RepL G ms st H xs vs → xs[i]? = some x → ∃ v, vs[i]? = some v ∧ Rep G ms st H x v
  | [], vs, i, x, h, e => by simp at e
  | d :: ds, vs, 0, x, h, e => by
    simp only [RepL] at h
    obtain ⟨v, r, rfl, h1, h⟩ := h
    simp at e
    subst e
    exact ⟨v, rfl, h1⟩
  | d :: ds, vs, i + 1, x, h, e => by
    simp only [RepL] at h
    obtain ⟨v, r, rfl, h1, h⟩ := h
    simpa using RepL.get ds r i x h (by simpa using e)
theorem RepL.rep (xs : List PV) (vs : List V) (h : RepL G ms st H xs vs) : ∀ n : Nat, RepL G ms st H (List.replicate n xs).flatten (List.replicate n vs).flatten
  | 0 => by simp [RepL]
  | n + 1 => by
    rw [List.replicate_succ, List.replicate_succ, List.flatten_cons, List.flatten_cons]
    exact RepL.append _ _ _ _ h (RepL.rep xs vs h n)
theorem RepL.set : ∀ (xs : List PV) (vs : List V) (i : Nat) (x : PV) (v : V), RepL G ms st H xs vs → Rep G ms st H x v → RepL G ms st H (xs.set i x) (vs.set i v)
  | [], vs, i, x, v, h, q => by simp only [RepL] at h; subst h; simp [RepL]
  | d :: ds, vs, 0, x, v, h, q => by
    simp only [RepL] at h
    obtain ⟨w, r, rfl, h1, h⟩ := h
    simp only [List.set_cons_zero, RepL]
    exact ⟨v, r, rfl, q, h⟩
  | d :: ds, vs, i + 1, x, v, h, q => by
    simp only [RepL] at h
    obtain ⟨w, r, rfl, h1, h⟩ := h
    simp only [List.set_cons_succ, RepL]
    exact ⟨w, _, rfl, h1, RepL.set ds r i x v h q⟩
theorem RepL.mem : ∀ (xs : List PV) (vs : List V), RepL G ms st H xs vs → ∀ x ∈ xs, ∃ v ∈ vs, Rep G ms st H x v
  | [], vs, h, x, hx => by simp at hx
  | d :: ds, vs, h, x, hx => by
    simp only [RepL] at h
    obtain ⟨v, r, rfl, h1, h⟩ := h
    rcases List.mem_cons.mp hx with rfl | hx
    · exact ⟨v, List.mem_cons_self, h1⟩
    · obtain ⟨w, hw, q⟩ := RepL.mem ds r h x hx
      exact ⟨w, List.mem_cons_of_mem _ hw, q⟩

/-- the list that a value is -/
theorem lstOf_ok (S : SOk G ms st H) {d : PV} {v : V} {xs : List PV} (r : Rep G ms st H d v) (h : lstOf st d = some xs) : ∃ a vs, v = .ref a ∧ Rd H a (.lst vs) ∧ RepL G ms st H xs vs := by
  cases d with
  | lst ys =>
    simp only [lstOf, Option.some.injEq] at h
    subst h
    simp only [Rep] at r
    obtain ⟨a, vs, e1, e2, e3⟩ := r
    exact ⟨a, vs, e1, e2.1, e3⟩
  | box i =>
    simp only [Rep] at r
    obtain ⟨a, e1, e2⟩ := r
    simp only [lstOf] at h
    split at h
    · rename_i ys hi
      cases h
      obtain ⟨vs, e3, e4⟩ := S.obj i _ a hi e2
      exact ⟨a, vs, e1, .inl e3, e4⟩
    · cases h
  | _ => simp [lstOf] at h
theorem RepL.ints : ∀ (ns : List Int), RepL G ms st H (ns.map .int) (ns.map V.int)
  | [] => by simp [RepL]
  | n :: ns => by
    simp only [List.map_cons, RepL]
    exact ⟨.int n, _, rfl, by simp only [Rep], RepL.ints ns⟩
/-- the list or tuple that a value is -/
theorem seqOf_ok (S : SOk G ms st H) {d : PV} {v : V} {xs : List PV} (r : Rep G ms st H d v) (h : seqOf st d = some xs) : ∃ a vs, v = .ref a ∧ (SqL G.K H a vs ∨ SqT G.K H a vs) ∧ RepL G ms st H xs vs := by
  cases d with
  | tup ys =>
    simp only [seqOf, Option.some.injEq] at h
    subst h
    simp only [Rep] at r
    obtain ⟨a, vs, e1, e2, e3⟩ := r
    exact ⟨a, vs, e1, .inr e2.sq, e3⟩
  | kls ns =>
    simp only [seqOf, Option.some.injEq] at h
    subst h
    simp only [Rep] at r
    obtain ⟨a, e1, e2⟩ := r
    exact ⟨a, _, e1, .inl e2.sq, RepL.ints ns⟩
  | lst ys =>
    obtain ⟨a, vs, e1, e2, e3⟩ := lstOf_ok S r (xs := xs) (by simpa [lstOf, seqOf] using h)
    exact ⟨a, vs, e1, .inl (.inl e2), e3⟩
  | box i =>
    obtain ⟨a, vs, e1, e2, e3⟩ := lstOf_ok S r (xs := xs) (by simpa only [lstOf, seqOf] using h)
    exact ⟨a, vs, e1, .inl (.inl e2), e3⟩
  | _ => simp [seqOf] at h
end
end Z

set_option maxHeartbeats 1000000
/-! Operators, comparisons, places, slices. -/
namespace Z
open PySem PySem.Spec PyProof.Rows
open L2 (V HO Hp SqL SqT Rd upd upd_same upd_ne ne_of ne_of_none Cx PE PT PS PSs PA PG PI Inv VK TE TA TS TT RelV Vals Dp DpAll)

theorem line_eq : (sizeLine : Nat) = PySem.sizeLine := by rw [PySem.sizeLine_eq]
theorem toS_len (s : Tx) : (toS s).length = s.length := by simp [toS, Str.length]
theorem toS_cps (s : Tx) : (toS s).cps.toList = s.map Char.toNat := by simp [toS]
theorem toS_append (a b : Tx) : toS (a ++ b) = toS a ++ toS b := by
  apply Str.ext'
  show _ = (toS a).cps ++ (toS b).cps
  simp [toS]
theorem char_inj {a b : Char} (h : a.toNat = b.toNat) : a = b := Char.ext (UInt32.toNat_inj.mp h)
theorem toS_inj {a b : Tx} (h : toS a = toS b) : a = b := by
  have e : (toS a).cps.toList = (toS b).cps.toList := by rw [h]
  rw [toS_cps, toS_cps] at e
  exact (List.map_inj_right fun x y q => char_inj q).mp e
theorem toS_eq (a b : Tx) : (toS a == toS b) = (a == b) := by
  by_cases h : a = b
  · subst h; simp
  · have : toS a ≠ toS b := fun q => h (toS_inj q)
    rw [beq_eq_false_iff_ne.mpr this, beq_eq_false_iff_ne.mpr h]

section
variable {G : Ctx} {lo : Nat} {ms : List Addr} {st : Sto} {H H' : Hp}

/-! ### data -/
mutual
def toPD : PV → PyData
  | .bool b => .bool b
  | .int i => .int i
  | .str s => .str (toS s)
  | .tup xs => .tuple (toPDs xs)
  | .lst xs => .list (toPDs xs)
  | _ => .none
def toPDs : List PV → List PyData
  | [] => []
  | x :: xs => toPD x :: toPDs xs
end
mutual
theorem dp_of (S : SOk G ms st H) : ∀ (n : Nat) (d : PV) (v : V), plain n d = true → Rep G ms st H d v → Dp G.K H v (toPD d)
  | _, .none, v, _, r => by simp only [Rep] at r; subst r; simp only [toPD]; exact .non
  | _, .bool b, v, _, r => by simp only [Rep] at r; subst r; simp only [toPD]; exact .bl b
  | _, .int i, v, _, r => by simp only [Rep] at r; subst r; simp only [toPD]; exact .int i
  | _, .str s, v, _, r => by simp only [Rep] at r; subst r; simp only [toPD]; exact .str _
  | n + 1, .tup xs, v, p, r => by
    simp only [Rep] at r
    obtain ⟨a, vs, rfl, e2, e3⟩ := r
    simp only [plain] at p
    simp only [toPD]
    exact .tup e2.sq (dps_of S n xs vs p e3)
  | n + 1, .lst xs, v, p, r => by
    simp only [Rep] at r
    obtain ⟨a, vs, rfl, e2, e3⟩ := r
    simp only [plain] at p
    simp only [toPD]
    exact .lst e2.sq (dps_of S n xs vs p e3)
  | 0, .tup xs, v, p, r => by simp [plain] at p
  | 0, .lst xs, v, p, r => by simp [plain] at p
  | _, .dct t kvs, v, p, r => by simp [plain] at p
  | _, .box i, v, p, r => by simp [plain] at p
  | _, .exc i, v, p, r => by simp [plain] at p
  | _, .kls i, v, p, r => by simp [plain] at p
theorem dps_of (S : SOk G ms st H) : ∀ (n : Nat) (d : List PV) (v : List V), plainL n d = true → RepL G ms st H d v → DpAll G.K H v (toPDs d)
  | _, [], v, _, r => by simp only [RepL] at r; subst r; simp only [toPDs]; exact .nil
  | n, d :: ds, v, p, r => by
    simp only [RepL] at r
    obtain ⟨w, r', rfl, h1, h2⟩ := r
    simp only [plainL, Bool.and_eq_true] at p
    simp only [toPDs]
    exact .cons (dp_of S n d w p.1 h1) (dps_of S n ds r' p.2 h2)
end
theorem strOk_toS (s : Tx) : PyData.strOk (toS s) = true := by
  unfold PyData.strOk
  rw [← Array.all_toList, toS_cps, List.all_map, List.all_eq_true]
  intro c _
  have : c.toNat < 0x110000 := by
    have := c.valid
    rcases this with h | h
    · show c.val.toNat < _
      have : c.val.toNat < 0xd800 := h
      omega
    · exact h.2
  simpa using this
mutual
theorem lay_of : ∀ (n : Nat) (d : PV), plain n d = true → (toPD d).canLay0 = true ∧ (toPD d).depth ≤ n
  | _, .none, _ => by simp [toPD, PyData.canLay0, PyData.depth]
  | _, .bool b, _ => by simp [toPD, PyData.canLay0, PyData.depth]
  | _, .int i, _ => by simp [toPD, PyData.canLay0, PyData.depth]
  | _, .str s, _ => by simp [toPD, PyData.canLay0, PyData.depth, strOk_toS]
  | n + 1, .tup xs, p => by
    simp only [plain] at p
    have := lays_of n xs p
    simp only [toPD, PyData.canLay0, PyData.depth]
    exact ⟨this.1, by omega⟩
  | n + 1, .lst xs, p => by
    simp only [plain] at p
    have := lays_of n xs p
    simp only [toPD, PyData.canLay0, PyData.depth]
    exact ⟨this.1, by omega⟩
  | 0, .tup xs, p => by simp [plain] at p
  | 0, .lst xs, p => by simp [plain] at p
  | _, .dct t kvs, p => by simp [plain] at p
  | _, .box i, p => by simp [plain] at p
  | _, .exc i, p => by simp [plain] at p
  | _, .kls i, p => by simp [plain] at p
theorem lays_of : ∀ (n : Nat) (d : List PV), plainL n d = true → PyData.canLayAll0 (toPDs d) = true ∧ PyData.depthAll (toPDs d) ≤ n
  | _, [], _ => by simp [toPDs, PyData.canLayAll0, PyData.depthAll]
  | n, d :: ds, p => by
    simp only [plainL, Bool.and_eq_true] at p
    have h1 := lay_of n d p.1
    have h2 := lays_of n ds p.2
    simp only [toPDs, PyData.canLayAll0, PyData.depthAll, h1.1, h2.1, Bool.and_self, true_and]
    omega
end
theorem shaped_of {d : PV} (h : plain 60 d = true) : SeqAt.shaped (toPD d) = true := by
  have := lay_of 60 d h
  unfold SeqAt.shaped
  rw [this.1, Bool.true_and]
  exact decide_eq_true (by omega)
mutual
theorem eqv_pd : ∀ (n m : Nat) (a b : PV), plain n a = true → plain m b = true → PyData.eqv (toPD a) (toPD b) = eqv a b
  | n, m, .none, b, p, q => by cases b <;> simp [toPD, eqv, PyData.eqv, plain] at q ⊢
  | n, m, .bool x, b, p, q => by cases b <;> simp [toPD, eqv, PyData.eqv, plain] at q ⊢
  | n, m, .int x, b, p, q => by cases b <;> simp [toPD, eqv, PyData.eqv, plain] at q ⊢
  | n, m, .str x, b, p, q => by
    cases b <;> simp [toPD, eqv, PyData.eqv, plain] at q ⊢
    exact toS_eq _ _
  | n + 1, m, .tup xs, b, p, q => by
    cases b with
    | tup ys =>
      cases m with
      | zero => simp [plain] at q
      | succ m =>
        simp only [plain] at p q
        simp only [toPD, eqv, PyData.eqv]
        exact eqvs_pd n m xs ys p q
    | _ => simp [toPD, eqv, PyData.eqv, plain] at q ⊢
  | n + 1, m, .lst xs, b, p, q => by
    cases b with
    | lst ys =>
      cases m with
      | zero => simp [plain] at q
      | succ m =>
        simp only [plain] at p q
        simp only [toPD, eqv, PyData.eqv]
        exact eqvs_pd n m xs ys p q
    | _ => simp [toPD, eqv, PyData.eqv, plain] at q ⊢
  | 0, _, .tup xs, _, p, _ => by simp [plain] at p
  | 0, _, .lst xs, _, p, _ => by simp [plain] at p
  | _, _, .dct t kvs, _, p, _ => by simp [plain] at p
  | _, _, .box i, _, p, _ => by simp [plain] at p
  | _, _, .exc i, _, p, _ => by simp [plain] at p
  | _, _, .kls i, _, p, _ => by simp [plain] at p
theorem eqvs_pd : ∀ (n m : Nat) (a b : List PV), plainL n a = true → plainL m b = true → PyData.eqvAll (toPDs a) (toPDs b) = eqvL a b
  | n, m, [], b, p, q => by cases b <;> simp [toPDs, eqvL, PyData.eqvAll]
  | n, m, x :: xs, b, p, q => by
    cases b with
    | nil => simp [toPDs, eqvL, PyData.eqvAll]
    | cons y ys =>
      simp only [plainL, Bool.and_eq_true] at p q
      simp only [toPDs, eqvL, PyData.eqvAll]
      rw [eqv_pd n m x y p.1 q.1, eqvs_pd n m xs ys p.2 q.2]
end
/-- what a box holds, read as a tree -/
theorem dp_res (S : SOk G ms st H) {d : PV} {v : V} (r : Rep G ms st H d v) (p : plain 60 (res st d) = true) : Dp G.K H v (toPD (res st d)) := by
  cases d with
  | kls ns =>
    simp only [Rep] at r
    obtain ⟨a, rfl, e2⟩ := r
    simp only [res, plain] at p ⊢
    simp only [toPD]
    exact .lst e2.sq (dps_of S 59 _ _ p (RepL.ints ns))
  | box i =>
    simp only [Rep] at r
    obtain ⟨a, rfl, e2⟩ := r
    simp only [res] at p ⊢
    split at p
    · rename_i xs hi
      obtain ⟨vs, e3, e4⟩ := S.obj i _ a hi e2
      simp only [plain] at p
      simp only [toPD]
      exact .lst (.inl (.inl e3)) (dps_of S 59 xs vs p e4)
    · simp [plain] at p
    · simp [plain] at p
  | _ => exact dp_of S 60 _ v p r

/-! ### an operator by its values -/
def OpF (G : Ctx) (lo : Nat) (f : PV → PV → Sto → R PV) (r : L2.R2) : Prop := ∀ (ms : List Addr) (st : Sto) (H : Hp) (x y : PV) (u w : V) (Q : VK) (E : Nat → Hp → Prop),
  lo ≤ st.length → SOk G ms st H → Rep G ms st H x u → Rep G ms st H y w → Res G (Rep G) lo ms st H (f x y st) Q E → r u w H Q
theorem Res.mono_lo {α β : Type} {rep : List Addr → Sto → Hp → α → β → Prop} {r : R α} {Q : β → Hp → Prop} {E : Nat → Hp → Prop} (h : Res G rep lo ms st H r Q E) : Res G rep lo ms st H r Q E := h

def rAdd (K : PySem.W.Frag) : L2.R2 := fun x y H Q => (∃ i j, x = .int i ∧ y = .int j ∧ Q (.int (i + j)) H) ∨ (∃ i j, x = .str i ∧ y = .str j ∧ i.length + j.length ≤ PySem.sizeLine ∧ Q (.str (i ++ j)) H) ∨ L2.rCatA K x y H Q ∨
  ∃ l b xs zs, x = .ref l ∧ y = .ref b ∧ Rd H l (.lst xs) ∧ Rd H b (.lst zs) ∧ xs.length + zs.length ≤ PySem.sizeLine ∧ ∀ p, H p = none → Q (.ref p) (upd H p (.lst (xs ++ zs)))
theorem lstRd {X : Cx} {pins : List (Addr × Obj)} {σ : L2.St} {s : Shared} {l : Addr} {xs : List V} (I : Inv X pins σ H s) (hH : Rd H l (.lst xs)) : xs.length ≤ PySem.sizeLine ∧ ∃ (its : List Value) (n : Nat), Vals xs its ∧ xs.length = its.length ∧ s.heap.get? l = some { cls := .type "list", data := .seq its.toArray n } := by
  obtain ⟨z, its, n, r, e⟩ := hH.ok I.hok
  exact ⟨z, its, n, r, r.length, e⟩
theorem op_catR {X : Cx} : L2.OpR X (binaryOp .Add) (fun x y H Q => ∃ l b xs zs, x = .ref l ∧ y = .ref b ∧ Rd H l (.lst xs) ∧ Rd H b (.lst zs) ∧ xs.length + zs.length ≤ PySem.sizeLine ∧ ∀ p, H p = none → Q (.ref p) (upd H p (.lst (xs ++ zs)))) := by
  intro pins s σ H x y v u Q I rx ry h
  obtain ⟨l, b, xs, zs, rfl, rfl, hH, hB, hz, q⟩ := h
  cases rx
  cases ry
  obtain ⟨z, its, n, r, hl, e⟩ := lstRd I hH
  obtain ⟨z2, its2, n2, r2, hl2, e2⟩ := lstRd I hB
  refine PySem.P.add_list e e2 ?_ (by rw [List.size_toArray, List.size_toArray]; omega)
  have ea : its.toArray ++ its2.toArray = (its ++ its2).toArray := by simp
  rw [ea]
  exact ⟨.ref _, _, I.lnew (t' := s.toks) (r.append r2) (by rw [List.length_append]; omega), rfl, q _ I.fresh⟩
theorem op_add {X : Cx} : L2.OpR X (binaryOp .Add) (rAdd X.K) := L2.OpR.or L2.op_add (L2.OpR.or L2.op_add_str (L2.OpR.or L2.op_catA op_catR))
theorem add_ok {bx : Bool} : OpF G lo (fAdd bx) (rAdd G.K) := by
  intro ms st H x y u w Q E hlo S rx ry h
  have lists : ∀ {xs ys : List PV}, lstOf st x = some xs → lstOf st y = some ys → Res G (Rep G) lo ms st H (if xs.length + ys.length ≤ sizeLine then mkLst bx (xs ++ ys) st else .bad) Q E → rAdd G.K u w H Q := fun {xs ys} hx hy h => by
    obtain ⟨a, vs, rfl, ra, la⟩ := lstOf_ok S rx hx
    obtain ⟨b, ws, rfl, rb, lb⟩ := lstOf_ok S ry hy
    have e1 := RepL.length _ _ la
    have e2 := RepL.length _ _ lb
    by_cases hz : xs.length + ys.length ≤ sizeLine
    · rw [if_pos hz] at h
      refine .inr (.inr (.inr ⟨a, b, vs, ws, rfl, rfl, ra, rb, by rw [e1, e2, ← line_eq]; exact hz, mkLst_ok S hlo (RepL.append _ _ _ _ la lb) h⟩))
    · rw [if_neg hz] at h
      exact h.elim
  unfold fAdd at h
  split at h
  · simp only [Rep] at rx ry
    subst rx; subst ry
    exact .inl ⟨_, _, rfl, rfl, h.done S (by simp only [Rep])⟩
  · simp only [Rep] at rx ry
    subst rx; subst ry
    rename_i a b
    by_cases hz : a.length + b.length ≤ sizeLine
    · rw [if_pos hz] at h
      refine .inr (.inl ⟨_, _, rfl, rfl, by rw [toS_len, toS_len, ← line_eq]; exact hz, ?_⟩)
      rw [← toS_append]
      exact h.done S (by simp only [Rep])
    · rw [if_neg hz] at h
      exact h.elim
  · rename_i xs ys
    by_cases hz : xs.length + ys.length ≤ sizeLine
    · rw [if_pos hz] at h
      simp only [Rep] at rx ry
      obtain ⟨a, vs, rfl, ra, la⟩ := rx
      obtain ⟨b, ws, rfl, rb, lb⟩ := ry
      have e1 := RepL.length _ _ la
      have e2 := RepL.length _ _ lb
      refine .inr (.inr (.inl ⟨a, b, vs, ws, rfl, rfl, ra.sq, rb.sq, by rw [e1, e2, ← line_eq]; exact hz, fun q => ?_, fun q1 q2 => ?_, fun _ _ => tup_ok S (RepL.append _ _ _ _ la lb) h⟩))
      · subst q
        cases xs with
        | nil => exact h.done S (by simp only [Rep, List.nil_append]; exact ⟨b, ws, rfl, rb, lb⟩)
        | cons _ _ => simp at e1
      · subst q2
        cases ys with
        | nil => exact h.done S (by simp only [Rep, List.append_nil]; exact ⟨a, vs, rfl, ra, la⟩)
        | cons _ _ => simp at e2
    · rw [if_neg hz] at h
      exact h.elim
  · split at h
    · rename_i hx hy
      exact lists hx hy h
    · exact h.elim
theorem sub_ok : OpF G lo fSub (L2.rI0 fun i j => .int (i - j)) := by
  intro ms st H x y u w Q E hlo S rx ry h
  unfold fSub at h
  split at h
  · simp only [Rep] at rx ry
    subst rx; subst ry
    exact ⟨_, _, rfl, rfl, h.done S (by simp only [Rep])⟩
  · exact h.elim
theorem mod_ok : OpF G lo fMod (L2.rI (fun _ j => 0 < j) fun i j => .int (i % j)) := by
  intro ms st H x y u w Q E hlo S rx ry h
  unfold fMod at h
  split at h
  · simp only [Rep] at rx ry
    subst rx; subst ry
    split at h
    · rename_i hj
      exact ⟨_, _, rfl, rfl, hj, h.done S (by simp only [Rep])⟩
    · exact h.elim
  · exact h.elim
theorem div_ok : OpF G lo fDiv (L2.rI L2.CDiv fun i j => .int (i / j)) := by
  intro ms st H x y u w Q E hlo S rx ry h
  unfold fDiv at h
  split at h
  · simp only [Rep] at rx ry
    subst rx; subst ry
    split at h
    · rename_i hj
      exact ⟨_, _, rfl, rfl, hj, h.done S (by simp only [Rep])⟩
    · exact h.elim
  · exact h.elim
theorem pow_ok : OpF G lo fPow (L2.rI L2.CPow fun i j => .int (i ^ j.toNat)) := by
  intro ms st H x y u w Q E hlo S rx ry h
  unfold fPow at h
  split at h
  · simp only [Rep] at rx ry
    subst rx; subst ry
    split at h
    · rename_i hj
      exact ⟨_, _, rfl, rfl, ⟨hj.1, by omega, by omega⟩, h.done S (by simp only [Rep])⟩
    · exact h.elim
  · exact h.elim
end
end Z

set_option maxHeartbeats 1000000
/-! Products, comparisons, in, places, slices. -/
namespace Z
open PySem PySem.Spec PyProof.Rows
open L2 (V HO Hp SqL SqT Rd upd upd_same upd_ne ne_of ne_of_none Cx PE PT PS PSs PA PG PI Inv VK TE TA TS TT RelV Vals Dp DpAll)

section
variable {G : Ctx} {lo : Nat} {ms : List Addr} {st : Sto} {H H' : Hp} {X : Cx}

/-! ### products -/
def rRepR : L2.R2 := fun x y H Q => ∃ l k xs, x = .ref l ∧ y = .int k ∧ Rd H l (.lst xs) ∧ -(2 ^ 63) ≤ k ∧ k < 2 ^ 63 ∧ xs.length * k.toNat ≤ PySem.sizeLine ∧
  ∀ p, H p = none → Q (.ref p) (upd H p (.lst (List.replicate k.toNat xs).flatten))
open L2 in
theorem op_repR : L2.OpR X (binaryOp .Mult) rRepR := by
  intro pins s σ H x y v u Q I rx ry h
  obtain ⟨l, k, xs, rfl, rfl, hH, h1, h2, hz, q⟩ := h
  cases rx
  obtain ⟨t, rfl⟩ := ry
  obtain ⟨z, its, n, r, hl, e⟩ := lstRd I hH
  have hlen : its.toArray.size * k.toNat ≤ PySem.sizeLine := by rw [List.size_toArray, ← hl]; exact hz
  have hcap : ¬ its.toArray.size * k.toNat > (2 ^ 63 - 1) / 8 := by
    have : (PySem.sizeLine : Nat) ≤ (2 ^ 63 - 1) / 8 := by decide
    omega
  have hfit : ¬ (!Builtin.List.listFitsIndex k) = true := by
    rw [fitsIndex_both h1 h2]
    exact Bool.false_ne_true
  have hlong : ¬ Builtin.List.listTooLong (its.toArray.size * k.toNat) = true := by
    rw [notLongL hlen]
    exact Bool.false_ne_true
  have hnew : List.foldl (fun x1 x2 => x1 ++ x2) #[] (List.replicate (if its.toArray.isEmpty = true then 0 else k.toNat) its.toArray) = (List.replicate k.toNat its).flatten.toArray := by
    have f0 : ∀ m : Nat, List.foldl (fun x1 x2 => x1 ++ x2) #[] (List.replicate m its.toArray) = (List.replicate m its).flatten.toArray := fun m => by
      have := foldl_rep its m []
      rw [List.nil_append] at this
      exact this
    rw [f0]
    cases its with
    | nil => simp
    | cons a r' => rw [if_neg (by simp)]
  refine wpAny_binaryOp_repeat_ref (T := "list") (U := "int") (by decide) ⟨_, e, rfl⟩ (fun s' => typeIs_int s' k t) noFill_list_mul F.fills_int_mul F.slot_int_rmul repeat_list F.slot_int_index.lookup
    (call_meets F.slot_int_rmul (typeIs_int s k t) F.entry_int_rmul (F.args_int_rmul_2 _ _) (int___rmul___int_list k t l its.toArray n)
      ⟨e, rfl, ⟨_, e, rfl⟩, call_meets F.slot_list_mul ⟨_, e, rfl⟩ F.entry_list_mul (F.args_list_mul_2 _ _) (AutoListH.list___mul___list_int_3 l its.toArray n k t hfit hcap hlong) ⟨e, ?_⟩⟩)
  rw [hnew]
  exact ⟨.ref _, _, I.lnew (t' := s.toks) (r.rep k.toNat) (by rw [PyProof.Rows.lm_len_rep_flat, Nat.mul_comm]; exact hz), rfl, q _ I.fresh⟩

def rMul (K : PySem.W.Frag) : L2.R2 := fun x y H Q => L2.rI L2.CMul (fun i j => .int (i * j)) x y H Q ∨ L2.rRepT K x y H Q ∨ rRepR x y H Q
theorem op_mul : L2.OpR X (binaryOp .Mult) (rMul X.K) := L2.OpR.or L2.op_mul (L2.OpR.or L2.op_repT op_repR)
theorem mul_ok {bx : Bool} : OpF G lo (fMul bx) (rMul G.K) := by
  intro ms st H x y u w Q E hlo S rx ry h
  unfold fMul at h
  split at h
  · simp only [Rep] at rx ry
    subst rx; subst ry
    split at h
    · rename_i hj
      exact .inl ⟨_, _, rfl, rfl, hj, h.done S (by simp only [Rep])⟩
    · exact h.elim
  · simp only [Rep] at rx ry
    subst ry
    obtain ⟨a, vs, rfl, ra, la⟩ := rx
    have e1 := RepL.length _ _ la
    split at h
    · rename_i hj
      refine .inr (.inl ⟨a, _, vs, rfl, rfl, ra.sq, fun z => ?_, hj.1, hj.2.1, by omega, tup_ok S (RepL.rep _ _ la _) h⟩)
      subst z
      rename_i xs k
      cases xs with
      | nil => simp at hj
      | cons _ _ => simp at e1
    · exact h.elim
  · simp only [Rep] at rx ry
    subst ry
    obtain ⟨a, vs, rfl, ra, la⟩ := rx
    have e1 := RepL.length _ _ la
    split at h
    · rename_i hj
      exact .inr (.inr ⟨a, _, vs, rfl, rfl, ra.1, by omega, by omega, by rw [e1, ← line_eq]; exact hj.2.2, mkLst_ok S hlo (RepL.rep _ _ la _) h⟩)
    · exact h.elim
  · exact h.elim

/-! ### comparisons -/
/-- a comparison that comes to a truth -/
def CmF (G : Ctx) (f : PV → PV → Sto → Option Bool) (r : L2.R2) : Prop := ∀ (ms : List Addr) (st : Sto) (H : Hp) (x y : PV) (u w : V) (b : Bool) (Q : VK),
  SOk G ms st H → Rep G ms st H x u → Rep G ms st H y w → f x y st = some b → Q (.bl b) H → r u w H Q
theorem eq_okc : CmF G (cmpV .eq) (L2.rEqD G.K) := by
  intro ms st H x y u w b Q S rx ry h q
  simp only [cmpV] at h
  split at h
  · rename_i hp
    simp only [Bool.and_eq_true] at hp
    cases h
    refine ⟨_, _, dp_res S rx hp.1, dp_res S ry hp.2, shaped_of hp.1, shaped_of hp.2, ?_⟩
    rw [eqv_pd 60 60 _ _ hp.1 hp.2]
    exact q
  · cases h
theorem ne_okc : CmF G (cmpV .ne) (L2.rNeD G.K) := by
  intro ms st H x y u w b Q S rx ry h q
  simp only [cmpV] at h
  split at h
  · rename_i hp
    simp only [Bool.and_eq_true] at hp
    cases h
    refine ⟨_, _, dp_res S rx hp.1, dp_res S ry hp.2, shaped_of hp.1, shaped_of hp.2, ?_⟩
    rw [eqv_pd 60 60 _ _ hp.1 hp.2]
    exact q
  · cases h
theorem ltV_int {x y : PV} {b : Bool} (h : ltV x y = some b) : ∃ i j, x = .int i ∧ y = .int j ∧ b = decide (i < j) := by
  unfold ltV at h
  split at h
  · cases h; exact ⟨_, _, rfl, rfl, rfl⟩
  · cases h
theorem leV_int {x y : PV} {b : Bool} (h : leV x y = some b) : ∃ i j, x = .int i ∧ y = .int j ∧ b = decide (i ≤ j) := by
  unfold leV at h
  split at h
  · cases h; exact ⟨_, _, rfl, rfl, rfl⟩
  · cases h
theorem lt_okc : CmF G (cmpV .lt) (L2.rI0 fun i j => .bl (decide (i < j))) := by
  intro ms st H x y u w b Q S rx ry h q
  obtain ⟨i, j, rfl, rfl, rfl⟩ := ltV_int h
  simp only [Rep] at rx ry
  subst rx; subst ry
  exact ⟨_, _, rfl, rfl, q⟩
theorem le_okc : CmF G (cmpV .le) (L2.rI0 fun i j => .bl (decide (i ≤ j))) := by
  intro ms st H x y u w b Q S rx ry h q
  obtain ⟨i, j, rfl, rfl, rfl⟩ := leV_int h
  simp only [Rep] at rx ry
  subst rx; subst ry
  exact ⟨_, _, rfl, rfl, q⟩
theorem gt_okc : CmF G (cmpV .gt) (L2.rI0 fun i j => .bl (decide (j < i))) := by
  intro ms st H x y u w b Q S rx ry h q
  obtain ⟨i, j, rfl, rfl, rfl⟩ := ltV_int h
  simp only [Rep] at rx ry
  subst rx; subst ry
  exact ⟨_, _, rfl, rfl, q⟩
theorem ge_okc : CmF G (cmpV .ge) (L2.rI0 fun i j => .bl (decide (j ≤ i))) := by
  intro ms st H x y u w b Q S rx ry h q
  obtain ⟨i, j, rfl, rfl, rfl⟩ := leV_int h
  simp only [Rep] at rx ry
  subst rx; subst ry
  exact ⟨_, _, rfl, rfl, q⟩

theorem rep_non {v : PV} {u : V} (S : SOk G ms st H) (r : Rep G ms st H v u) : decide (u = .non) = (match v with | .none => true | _ => false) := by
  cases v with
  | none => simp only [Rep] at r; subst r; rfl
  | bool b => simp only [Rep] at r; subst r; rfl
  | int i => simp only [Rep] at r; subst r; rfl
  | str s => simp only [Rep] at r; subst r; rfl
  | tup xs => simp only [Rep] at r; obtain ⟨a, _, rfl, _⟩ := r; rfl
  | lst xs => simp only [Rep] at r; obtain ⟨a, _, rfl, _⟩ := r; rfl
  | dct t xs => cases t <;> (simp only [Rep] at r; obtain ⟨a, _, rfl, _⟩ := r; rfl)
  | box xs => simp only [Rep] at r; obtain ⟨a, rfl, _⟩ := r; rfl
  | exc xs => simp only [Rep] at r; obtain ⟨a, rfl, _⟩ := r; rfl
  | kls xs => simp only [Rep] at r; obtain ⟨a, rfl, _⟩ := r; rfl
def rIs : L2.R2 := fun x y H Q => (y = .non ∧ Q (.bl (decide (x = .non))) H) ∨ (∃ a b, x = .bl a ∧ y = .bl b ∧ Q (.bl (decide (a = b))) H)
def rIsNot : L2.R2 := fun x y H Q => (y = .non ∧ Q (.bl (!decide (x = .non))) H) ∨ (∃ a b, x = .bl a ∧ y = .bl b ∧ Q (.bl (!decide (a = b))) H)
theorem op_is : L2.OpR X (compareOp .Is) rIs := L2.OpR.or L2.op_isN L2.op_is_bl
theorem op_isNot : L2.OpR X (compareOp .IsNot) rIsNot := L2.OpR.or L2.op_notN L2.op_isnot_bl
theorem is_okc : CmF G (cmpV .is) rIs := by
  intro ms st H x y u w b Q S rx ry h q
  simp only [cmpV, isV] at h
  split at h
  · simp only [Rep] at rx ry
    subst rx; subst ry
    cases h
    exact .inl ⟨rfl, q⟩
  · rename_i hx
    simp only [Rep] at ry
    subst ry
    cases h
    refine .inl ⟨rfl, ?_⟩
    rw [rep_non S rx]
    cases x <;> first | exact q | exact absurd rfl hx
  · simp only [Rep] at rx ry
    subst rx; subst ry
    cases h
    exact .inr ⟨_, _, rfl, rfl, q⟩
  · cases h
theorem isNot_okc : CmF G (cmpV .isNot) rIsNot := by
  intro ms st H x y u w b Q S rx ry h q
  simp only [cmpV, isV] at h
  split at h
  · simp only [Rep] at rx ry
    subst rx; subst ry
    cases h
    exact .inl ⟨rfl, q⟩
  · rename_i hx
    simp only [Rep] at ry
    subst ry
    cases h
    refine .inl ⟨rfl, ?_⟩
    rw [rep_non S rx]
    cases x <;> first | exact q | exact absurd rfl hx
  · simp only [Rep] at rx ry
    subst rx; subst ry
    cases h
    exact .inr ⟨_, _, rfl, rfl, q⟩
  · cases h

/-! ### in -/
def rInDat (K : PySem.W.Frag) (neg : Bool) : L2.R2 := fun x y H Q => ∃ d ds, Dp K H x d ∧ (Dp K H y (.list ds) ∨ Dp K H y (.tuple ds)) ∧ SeqAt.shaped d = true ∧ SeqAt.shaped (.list ds) = true ∧ Q (.bl (if neg then !(ds.any fun z => PyData.eqv z d) else ds.any fun z => PyData.eqv z d)) H
theorem op_inDat (hu : X.A.units + 65 < cLine) : L2.OpR X (compareOp .In) (rInDat X.K false) := by
  intro pins s σ H x y v u Q I rx ry h
  obtain ⟨d, ds, hd, he, sd, se, q⟩ := h
  obtain ⟨as, r1⟩ := Dp.reads I d x v hd rx
  rcases he with he | he
  · obtain ⟨bs, r2⟩ := Dp.reads I (.list ds) y u he ry
    exact SeqAt.in_list_reads r2 r1 (SeqAt.canLay_of_shaped se) (SeqAt.canLay_of_shaped sd) (room_in_shaped sd hu) ⟨.bl _, H, I, rfl, q⟩
  · obtain ⟨bs, r2⟩ := Dp.reads I (.tuple ds) y u he ry
    exact SeqAt.in_tuple_reads r2 r1 (SeqAt.canLay_of_shaped se) (SeqAt.canLay_of_shaped sd) (room_in_shaped sd hu) ⟨.bl _, H, I, rfl, q⟩
theorem op_notInDat (hu : X.A.units + 65 < cLine) : L2.OpR X (compareOp .NotIn) (rInDat X.K true) := by
  intro pins s σ H x y v u Q I rx ry h
  obtain ⟨d, ds, hd, he, sd, se, q⟩ := h
  obtain ⟨as, r1⟩ := Dp.reads I d x v hd rx
  rcases he with he | he
  · obtain ⟨bs, r2⟩ := Dp.reads I (.list ds) y u he ry
    exact SeqAt.notIn_list_reads r2 r1 (SeqAt.canLay_of_shaped se) (SeqAt.canLay_of_shaped sd) (room_in_shaped sd hu) ⟨.bl _, H, I, rfl, q⟩
  · obtain ⟨bs, r2⟩ := Dp.reads I (.tuple ds) y u he ry
    exact SeqAt.notIn_tuple_reads r2 r1 (SeqAt.canLay_of_shaped se) (SeqAt.canLay_of_shaped sd) (room_in_shaped sd hu) ⟨.bl _, H, I, rfl, q⟩
def rInDct (neg : Bool) : L2.R2 := fun y x H Q => ∃ a o, x = .ref a ∧ L2.DGet H a y o ∧ Q (.bl (if neg then !o.isSome else o.isSome)) H
theorem op_inDct (hu : X.A.units + 1 < cLine) : L2.OpR X (compareOp .In) (rInDct false) := by
  intro pins s σ H y x iv u Q I ry rx h
  obtain ⟨a, o, rfl, g, q⟩ := h
  cases rx
  exact L2.d_in hu I g ry fun s' I' => ⟨.bl o.isSome, H, I', rfl, q⟩
def rInChr (neg : Bool) : L2.R2 := fun x y H Q => ∃ (c : Nat) (z : Str), x = .str ⟨#[c]⟩ ∧ y = .str z ∧ Q (.bl (if neg then !decide (c ∈ z.cps.toList) else decide (c ∈ z.cps.toList))) H
def rIn (K : PySem.W.Frag) (neg : Bool) : L2.R2 := fun x y H Q => rInChr neg x y H Q ∨ rInDct neg x y H Q ∨ rInDat K neg x y H Q
end
end Z

set_option maxHeartbeats 1000000
/-! Dicts, in, places, slices. -/
namespace Z
open PySem PySem.Spec PyProof.Rows
open L2 (V HO Hp SqL SqT Rd upd upd_same upd_ne ne_of ne_of_none Cx PE PT PS PSs PA PG PI Inv VK TE TA TS TT RelV Vals Dp DpAll)

section
variable {G : Ctx} {lo : Nat} {ms : List Addr} {st : Sto} {H H' : Hp} {X : Cx}

theorem keyR_inj {a b : KA} (h : keyR a = keyR b) : a = b := by
  cases a <;> cases b <;> simp only [keyR, Sum.inl.injEq, Sum.inr.injEq, reduceCtorEq] at h
  · rw [h]
  · rw [toS_inj h]
theorem keysR_inj : ∀ {a b : List KA}, a.map keyR = b.map keyR → a = b := fun h => (List.map_inj_right fun _ _ q => keyR_inj q).mp h
theorem kV_keyR (k : KA) : L2.kV (keyR k) = (match k with | .i n => V.int n | .s t => V.str (toS t)) := by cases k <;> rfl
theorem valV_cons {κ : Type} [DecidableEq κ] (k' k : κ) (v : V) (r : List (κ × V)) : L2.valV ((k', v) :: r) k = if k' = k then some v else L2.valV r k := by
  unfold L2.valV
  by_cases h : k' = k
  · simp [h]
  · simp [List.find?_cons, h]
theorem dget_cons (k' k : DK) (v : PV) (r : List (DK × PV)) : dget ((k', v) :: r) k = if k' = k then some v else dget r k := by
  unfold dget
  by_cases h : k' = k
  · simp [h]
  · simp [List.find?_cons, h]
def RelP (G : Ctx) (ms : List Addr) (st : Sto) (H : Hp) (o : Option PV) (v : Option V) : Prop := match o, v with
  | some d, some u => Rep G ms st H d u
  | none, none => True
  | _, _ => False
theorem RelP.isSome {o : Option PV} {v : Option V} (h : RelP G ms st H o v) : v.isSome = o.isSome := by
  cases o <;> cases v <;> simp_all [RelP]
theorem getK (k : KA) : ∀ (kvs : List (DK × PV)) (l : List (L2.Key × V)), RepK G ms st H kvs l → RelP G ms st H (dget kvs (.a k)) (L2.valV l (keyR k))
  | [], l, h => by simp only [RepK] at h; subst h; trivial
  | (k', d) :: r, l, h => by
    simp only [RepK] at h
    obtain ⟨ka, v, l', rfl, rfl, h1, h2⟩ := h
    rw [dget_cons, valV_cons]
    by_cases e : ka = k
    · subst e; rw [if_pos rfl, if_pos rfl]; exact h1
    · rw [if_neg (fun q => e (DK.a.inj q)), if_neg (fun q => e (keyR_inj q))]
      exact getK k r l' h2
theorem getT (k : List KA) : ∀ (kvs : List (DK × PV)) (l : List (List L2.Key × V)), RepT G ms st H kvs l → RelP G ms st H (dget kvs (.t k)) (L2.valV l (k.map keyR))
  | [], l, h => by simp only [RepT] at h; subst h; trivial
  | (k', d) :: r, l, h => by
    simp only [RepT] at h
    obtain ⟨ka, v, l', rfl, rfl, h1, h2⟩ := h
    rw [dget_cons, valV_cons]
    by_cases e : ka = k
    · subst e; rw [if_pos rfl, if_pos rfl]; exact h1
    · rw [if_neg (fun q => e (DK.t.inj q)), if_neg (fun q => e (keysR_inj q))]
      exact getT k r l' h2
theorem getK_t (k : List KA) : ∀ (kvs : List (DK × PV)) (l : List (L2.Key × V)), RepK G ms st H kvs l → dget kvs (.t k) = none
  | [], l, h => rfl
  | (k', d) :: r, l, h => by
    simp only [RepK] at h
    obtain ⟨ka, v, l', rfl, rfl, h1, h2⟩ := h
    rw [dget_cons, if_neg (by simp)]
    exact getK_t k r l' h2
theorem getT_a (k : KA) : ∀ (kvs : List (DK × PV)) (l : List (List L2.Key × V)), RepT G ms st H kvs l → dget kvs (.a k) = none
  | [], l, h => rfl
  | (k', d) :: r, l, h => by
    simp only [RepT] at h
    obtain ⟨ka, v, l', rfl, rfl, h1, h2⟩ := h
    rw [dget_cons, if_neg (by simp)]
    exact getT_a k r l' h2
theorem any_dget (k : DK) : ∀ kvs : List (DK × PV), (kvs.any fun p => decide (p.1 = k)) = (dget kvs k).isSome
  | [] => rfl
  | (k', d) :: r => by
    rw [List.any_cons, any_dget k r, dget_cons]
    by_cases h : k' = k <;> simp [h]

/-- what stands as a dict -/
def DAt (G : Ctx) (ms : List Addr) (st : Sto) (H : Hp) (a : Addr) (t : Bool) (kvs : List (DK × PV)) : Prop := match t with
  | false => ∃ l, Rd H a (.dK l) ∧ RepK G ms st H kvs l
  | true => ∃ l, Rd H a (.dT l) ∧ RepT G ms st H kvs l
theorem dctOf_ok (S : SOk G ms st H) {d : PV} {v : V} {t : Bool} {kvs : List (DK × PV)} (r : Rep G ms st H d v) (h : dctOf st d = some (t, kvs)) : ∃ a, v = .ref a ∧ DAt G ms st H a t kvs := by
  cases d with
  | dct t' ys =>
    simp only [dctOf, Option.some.injEq, Prod.mk.injEq] at h
    obtain ⟨rfl, rfl⟩ := h
    cases t' <;> (simp only [Rep] at r; obtain ⟨a, l, e1, e2, e3, e4⟩ := r; exact ⟨a, e1, l, e3, e4⟩)
  | box i =>
    simp only [Rep] at r
    obtain ⟨a, e1, e2⟩ := r
    simp only [dctOf] at h
    split at h
    · rename_i t' ys hi
      simp only [Option.some.injEq, Prod.mk.injEq] at h
      obtain ⟨rfl, rfl⟩ := h
      have q := S.obj i _ a hi e2
      cases t' <;> (obtain ⟨l, e3, e4⟩ := q; exact ⟨a, e1, l, .inl e3, e4⟩)
    · cases h
  | _ => simp [dctOf] at h
theorem atoms_ok : ∀ (xs : List PV) (ks : List KA) (vs : List V), keyOf.atoms xs = some ks → RepL G ms st H xs vs → vs = (ks.map keyR).map L2.kV
  | [], ks, vs, h, r => by
    simp only [keyOf.atoms, Option.some.injEq] at h
    simp only [RepL] at r
    subst h; subst r; rfl
  | x :: xs, ks, vs, h, r => by
    simp only [RepL] at r
    obtain ⟨v, r', rfl, h1, h2⟩ := r
    cases x with
    | int i =>
      simp only [keyOf.atoms, Option.map_eq_some_iff] at h
      obtain ⟨ks', e, rfl⟩ := h
      simp only [Rep] at h1
      subst h1
      rw [atoms_ok xs ks' r' e h2]
      rfl
    | str s =>
      simp only [keyOf.atoms, Option.map_eq_some_iff] at h
      obtain ⟨ks', e, rfl⟩ := h
      simp only [Rep] at h1
      subst h1
      rw [atoms_ok xs ks' r' e h2]
      rfl
    | _ => simp [keyOf.atoms] at h
/-- a key that a tuple is stands in the heap, or is the module's -/
theorem keyOf_cases (S : SOk G ms st H) {d : PV} {v : V} {k : DK} (r : Rep G ms st H d v) (h : keyOf d = some k) : (∃ a, k = .a a ∧ v = L2.kV (keyR a)) ∨ ∃ ks b, k = .t ks ∧ v = .ref b ∧ FT G.K H b ((ks.map keyR).map L2.kV) := by
  cases d with
  | int i =>
    simp only [keyOf, Option.some.injEq] at h
    simp only [Rep] at r
    subst h; subst r
    exact .inl ⟨_, rfl, rfl⟩
  | str s =>
    simp only [keyOf, Option.some.injEq] at h
    simp only [Rep] at r
    subst h; subst r
    exact .inl ⟨_, rfl, rfl⟩
  | tup xs =>
    simp only [keyOf, Option.map_eq_some_iff] at h
    obtain ⟨ks, e, rfl⟩ := h
    simp only [Rep] at r
    obtain ⟨a, vs, rfl, e2, e3⟩ := r
    rw [atoms_ok xs ks vs e e3] at e2
    exact .inr ⟨ks, a, rfl, rfl, e2⟩
  | _ => simp [keyOf] at h

/-- a look-up -/
theorem dget_ok (S : SOk G ms st H) {a : Addr} {t : Bool} {kvs : List (DK × PV)} {d : PV} {v : V} {k : DK} (D : DAt G ms st H a t kvs) (r : Rep G ms st H d v) (h : keyOf d = some k) (ht : isT k = t) :
    ∃ o, L2.DGet H a v o ∧ RelP G ms st H (dget kvs k) o := by
  rcases keyOf_cases S r h with ⟨ka, rfl, rfl⟩ | ⟨ks, b, rfl, rfl, f⟩
  · subst ht
    obtain ⟨l, d1, d2⟩ := D
    exact ⟨_, .inl ⟨l, _, d1, rfl, rfl⟩, getK ka kvs l d2⟩
  · subst ht
    obtain ⟨l, d1, d2⟩ := D
    exact ⟨_, .inr ⟨l, _, b, d1, rfl, f, rfl⟩, getT ks kvs l d2⟩

/-! ### in -/
theorem plainLst {n : Nat} {xs : List PV} (h : plainL n xs = true) : plain (n + 1) (.lst xs) = true := by simpa only [plain] using h
theorem any_pd {d : PV} (hd : plain 60 d = true) : ∀ xs : List PV, plainL 59 xs = true → ((toPDs xs).any fun z => PyData.eqv z (toPD d)) = xs.any fun y => eqv y d
  | [], _ => rfl
  | x :: xs, h => by
    simp only [plainL, Bool.and_eq_true] at h
    simp only [toPDs, List.any_cons]
    rw [eqv_pd 59 60 x d h.1 hd, any_pd hd xs h.2]
theorem in_ok (neg : Bool) (ms : List Addr) (st : Sto) (H : Hp) (x y : PV) (u w : V) (b : Bool) (Q : VK) (S : SOk G ms st H) (rx : Rep G ms st H x u) (ry : Rep G ms st H y w)
    (h : inV st x y = some b) (q : Q (.bl (if neg then !b else b)) H) : rIn G.K neg u w H Q := by
  have dat : ∀ ys : List PV, (Dp G.K H w (.list (toPDs ys)) ∨ Dp G.K H w (.tuple (toPDs ys))) → (plain 60 x = true ∧ plainL 59 ys = true) → b = (ys.any fun y => eqv y x) → rIn G.K neg u w H Q := fun ys hy hp hb => by
    refine .inr (.inr ⟨_, _, dp_of S 60 x u hp.1 rx, hy, shaped_of hp.1, ?_, ?_⟩)
    · have := shaped_of (plainLst hp.2)
      simpa only [toPD] using this
    · rw [any_pd hp.1 ys hp.2, ← hb]
      exact q
  unfold inV at h
  split at h
  · rename_i y
    split at h
    · rename_i c
      cases h
      simp only [Rep] at rx ry
      subst rx; subst ry
      refine .inl ⟨c.toNat, _, by simp [toS], rfl, ?_⟩
      rw [toS_cps]
      have e : decide (c.toNat ∈ y.map Char.toNat) = decide (c ∈ y) := by
        apply decide_eq_decide.mpr
        constructor
        · intro hm
          obtain ⟨c', hc, e⟩ := List.mem_map.mp hm
          rw [← char_inj e]
          exact hc
        · exact fun hm => List.mem_map.mpr ⟨c, hm, rfl⟩
      rw [e]
      exact q
    · cases h
  · split at h
    · rename_i t kvs hr
      cases t with
      | true => simp at h
      | false =>
        have hd : dctOf st y = some (false, kvs) := by
          cases y with
          | dct t' ys =>
            simp only [res, PV.dct.injEq] at hr
            obtain ⟨rfl, rfl⟩ := hr
            rfl
          | box i =>
            simp only [res] at hr
            split at hr
            · cases hr
            · rename_i hi
              cases hr
              simp only [dctOf, hi]
            · cases hr
          | _ => simp [res] at hr
        obtain ⟨a, rfl, D⟩ := dctOf_ok S ry hd
        simp only [Bool.false_eq_true, if_false] at h
        unfold inD at h
        split at h
        · cases h
          obtain ⟨o, g, ro⟩ := dget_ok S D rx (k := .a (.s _)) rfl rfl
          refine .inr (.inl ⟨a, o, rfl, g, ?_⟩)
          rw [ro.isSome, ← any_dget]
          exact q
        · cases h
          obtain ⟨o, g, ro⟩ := dget_ok S D rx (k := .a (.i _)) rfl rfl
          refine .inr (.inl ⟨a, o, rfl, g, ?_⟩)
          rw [ro.isSome, ← any_dget]
          exact q
        · cases h
    · rename_i ys hr
      split at h
      · rename_i hp
        cases h
        refine dat ys (.inl ?_) hp rfl
        have := dp_res S ry (by rw [hr]; exact plainLst hp.2)
        rw [hr] at this
        simpa only [toPD] using this
      · cases h
    · rename_i ys hr
      split at h
      · rename_i hp
        cases h
        refine dat ys (.inr ?_) hp rfl
        have e : plain 60 (PV.tup ys) = true := by simpa only [plain] using hp.2
        have := dp_res S ry (by rw [hr]; exact e)
        rw [hr] at this
        simpa only [toPD] using this
      · cases h
    · cases h
theorem op_in (hu : X.A.units + 65 < cLine) : L2.OpR X (compareOp .In) (rIn X.K false) := L2.OpR.or L2.op_in_sign (L2.OpR.or (op_inDct (by omega)) (op_inDat hu))
theorem op_notInDct (hu : X.A.units + 1 < cLine) : L2.OpR X (compareOp .NotIn) (rInDct true) := by
  intro pins s σ H y x iv u Q I ry rx h
  obtain ⟨a, o, rfl, g, q⟩ := h
  cases rx
  exact L2.d_notIn hu I g ry fun s' I' => ⟨.bl (!o.isSome), H, I', rfl, q⟩
theorem op_notIn (hu : X.A.units + 65 < cLine) : L2.OpR X (compareOp .NotIn) (rIn X.K true) := L2.OpR.or L2.op_notIn_sign (L2.OpR.or (op_notInDct (by omega)) (op_notInDat hu))
theorem in_okc : CmF G (cmpV .isIn) (rIn G.K false) := fun ms st H x y u w b Q S rx ry h q => in_ok false ms st H x y u w b Q S rx ry h q
theorem notIn_okc : CmF G (cmpV .notIn) (rIn G.K true) := fun ms st H x y u w b Q S rx ry h q => by
  simp only [cmpV, Option.map_eq_some_iff] at h
  obtain ⟨b', h, rfl⟩ := h
  exact in_ok true ms st H x y u w b' Q S rx ry h q
end
end Z

set_option maxHeartbeats 1000000
/-! Places, slices. -/
namespace Z
open PySem PySem.Spec PyProof.Rows
open L2 (V HO Hp SqL SqT Rd upd upd_same upd_ne ne_of ne_of_none Cx PE PT PS PSs PA PG PI Inv VK TE TA TS TT RelV Vals Dp DpAll)

section
variable {G : Ctx} {lo : Nat} {ms : List Addr} {st : Sto} {H H' : Hp} {X : Cx}

def rIxDct : L2.R2 := fun x y H Q => ∃ a v, x = .ref a ∧ L2.DGet H a y (some v) ∧ Q v H
theorem ix_dct (hu : X.A.units + 1 < cLine) : L2.IxR X rIxDct := by
  intro value slice pins s σ H x y v u Q I rx ry h hs
  obtain ⟨a, w, rfl, g, q⟩ := h
  obtain rfl : v = Value.ref a := rx
  exact tail_any (L2.dict_typeIs I g) PySem.F.slot_dict_getitem.lookup (L2.d_getItem hu I g ry fun w' s' I' r => ⟨w, H, I', r, q⟩) hs
def rIx (K : PySem.W.Frag) : L2.R2 := fun x y H Q => L2.rIx K x y H Q ∨ rIxDct x y H Q
theorem op_ix (hu : X.A.units + 1 < cLine) : L2.IxR X (rIx X.K) := L2.IxR.or L2.ix_seq (ix_dct hu)
theorem RepL.at {xs : List PV} {vs : List V} {k : Int} {x : PV} (r : RepL G ms st H xs vs) (h : atI xs k = some x) : ∃ v, L2.atI vs k = some v ∧ Rep G ms st H x v := by
  unfold atI L2.atI at h
  unfold L2.atI
  rw [RepL.length _ _ r]
  obtain ⟨j, e1, e2⟩ := Option.bind_eq_some_iff.mp h
  rw [e1]
  exact RepL.get _ _ j x r e2
theorem atI_map {α β : Type} (f : α → β) (xs : List α) (k : Int) : L2.atI (xs.map f) k = (L2.atI xs k).map f := by
  unfold L2.atI
  rw [List.length_map]
  cases L2.ixN xs.length k with
  | none => rfl
  | some j => simp
theorem idx_ok : OpF G lo idxf (rIx G.K) := by
  intro ms st H x y u w Q E hlo S rx ry h
  unfold idxf at h
  split at h
  · split at h
    · simp only [Rep] at rx ry
      subst rx; subst ry
      split at h
      · rename_i hz
        split at h
        · rename_i c hc
          refine .inl (.inr (.inr ⟨_, _, c.toNat, rfl, rfl, by rw [toS_len, ← line_eq]; exact hz, ?_, ?_⟩))
          · rw [toS_cps, atI_map, show L2.atI _ _ = _ from hc]; rfl
          · have := h.done S (u := .str (toS [c])) (by simp only [Rep])
            simpa [toS] using this
        · exact h.elim
      · exact h.elim
    · exact h.elim
  · split at h
    · rename_i kvs hd
      obtain ⟨t, kvs⟩ := kvs
      split at h
      · rename_i k hk
        split at h
        · rename_i ht
          obtain ⟨a, rfl, D⟩ := dctOf_ok S rx hd
          obtain ⟨o, g, ro⟩ := dget_ok S D ry hk ht
          simp only at h
          cases e : dget kvs k with
          | none => rw [e] at h; exact h.elim
          | some d =>
            rw [e] at h ro
            cases o with
            | none => exact ro.elim
            | some v => exact .inr ⟨a, v, rfl, g, h.done S ro⟩
        · exact h.elim
      · exact h.elim
    · split at h
      · rename_i xs hx
        split at h
        · rename_i k
          simp only [Rep] at ry
          subst ry
          cases e : atI xs k with
          | none => rw [e] at h; exact h.elim
          | some d =>
            rw [e] at h
            obtain ⟨a, vs, rfl, hs, rl⟩ := seqOf_ok S rx hx
            obtain ⟨v, ev, rv⟩ := rl.at e
            have q := h.done S rv
            rcases hs with hs | hs
            · exact .inl (.inl ⟨a, vs, k, v, rfl, rfl, hs, ev, q⟩)
            · exact .inl (.inr (.inl ⟨a, vs, k, v, rfl, rfl, hs, ev, q⟩))
        · exact h.elim
      · exact h.elim

/-! ### slices -/
def rSl (K : PySem.W.Frag) : V → Option Int → Option Int → Hp → VK → Prop := fun x lo hi H Q => L2.rSlL K x lo hi H Q ∨ L2.rSlA K x lo hi H Q ∨ L2.rSlS x lo hi H Q
theorem op_sl : L2.SlR X (rSl X.K) := L2.SlR.or L2.sl_list (L2.SlR.or L2.sl_tupA L2.sl_str)
theorem RepL.cut {xs : List PV} {vs : List V} {a b : Option Int} (r : RepL G ms st H xs vs) : RepL G ms st H (Z.cut xs a b) (L2.cutV vs a b) := by
  unfold Z.cut L2.cutV
  rw [RepL.length _ _ r]
  exact RepL.take _ _ _ (RepL.drop _ _ _ r)
theorem cutS_toS (s : Tx) (a b : Option Int) : L2.cutS (toS s) a b = toS (Z.cut s a b) := by
  apply Str.ext'
  apply Array.toList_inj.mp
  rw [toS_cps]
  unfold L2.cutS Z.cut
  simp [toS_len, toS, List.map_take, List.map_drop, Str.length]
theorem slice_ok {bx : Bool} {ms : List Addr} {st : Sto} {H : Hp} {x : PV} {u : V} {a b : Option Int} {Q : VK} {E : Nat → Hp → Prop} (hlo : lo ≤ st.length) (S : SOk G ms st H) (rx : Rep G ms st H x u)
    (h : Res G (Rep G) lo ms st H (slicef bx x a b st) Q E) : rSl G.K u a b H Q := by
  unfold slicef at h
  split at h
  · simp only [Rep] at rx
    subst rx
    split at h
    · rename_i hz
      refine .inr (.inr ⟨_, rfl, by rw [toS_len, ← line_eq]; exact hz, ?_⟩)
      rw [cutS_toS]
      exact h.done S (by simp only [Rep])
    · exact h.elim
  · rename_i xs
    simp only [Rep] at rx
    obtain ⟨p, vs, rfl, e2, e3⟩ := rx
    refine .inr (.inl ⟨p, vs, rfl, e2.sq, fun q => ?_, fun _ => tup_ok S e3.cut h⟩)
    have e1 := RepL.length _ _ e3
    have : Z.cut xs a b = xs := by
      unfold Z.cut
      rw [e1] at q
      rw [q.1, q.2, List.drop_zero, Nat.sub_zero, List.take_length]
    rw [this] at h
    exact h.done S (by simp only [Rep]; exact ⟨p, vs, rfl, e2, e3⟩)
  · split at h
    · rename_i xs hx
      obtain ⟨p, vs, rfl, e2, e3⟩ := lstOf_ok S rx hx
      exact .inl ⟨p, vs, rfl, .inl e2, mkLst_ok S hlo e3.cut h⟩
    · exact h.elim
end
end Z

set_option maxHeartbeats 1000000
/-! Built-in functions. -/
namespace Z
open PySem PySem.Spec PyProof.Rows
open L2 (V HO Hp SqL SqT Rd upd upd_same upd_ne ne_of ne_of_none Cx PE PT PS PSs PA PG PI Inv VK TE TA TS TT RelV Vals Dp DpAll)

section
variable {G : Ctx} {lo : Nat} {ms : List Addr} {st : Sto} {H H' : Hp} {X : Cx}

abbrev RB := List V → Hp → VK → Prop
def BiF (G : Ctx) (lo : Nat) (f : List PV → Sto → R PV) (r : RB) : Prop := ∀ (ms : List Addr) (st : Sto) (H : Hp) (xs : List PV) (vs : List V) (Q : VK) (E : Nat → Hp → Prop),
  lo ≤ st.length → SOk G ms st H → RepL G ms st H xs vs → Res G (Rep G) lo ms st H (f xs st) Q E → r vs H Q

theorem RepL.one {x : PV} {vs : List V} (h : RepL G ms st H [x] vs) : ∃ v, vs = [v] ∧ Rep G ms st H x v := by
  simp only [RepL] at h
  obtain ⟨v, r, rfl, h1, rfl⟩ := h
  exact ⟨v, rfl, h1⟩
theorem RepL.two {x y : PV} {vs : List V} (h : RepL G ms st H [x, y] vs) : ∃ v w, vs = [v, w] ∧ Rep G ms st H x v ∧ Rep G ms st H y w := by
  simp only [RepL] at h
  obtain ⟨v, r, rfl, h1, w, r', rfl, h2, rfl⟩ := h
  exact ⟨v, w, rfl, h1, h2⟩

/-! ### len -/
theorem call_lenR : L2.CallR X (.builtin "len") (fun xs H Q => ∃ a kvs, xs = [V.ref a] ∧ Rd H a (.dK kvs) ∧ Q (.int kvs.length) H) := by
  intro pins s σ H xs us Q I r h
  obtain ⟨a, kvs, rfl, hH, q⟩ := h
  rw [Vals.ref1 r]
  exact L2.d_len I hH fun t s' I' => ⟨.int kvs.length, H, I', ⟨t, rfl⟩, q⟩
def rLen (K : PySem.W.Frag) : RB := fun xs H Q => (∃ x n, xs = [x] ∧ L2.LenV K x H n ∧ Q (.int n) H) ∨ ∃ a kvs, xs = [V.ref a] ∧ Rd H a (.dK kvs) ∧ Q (.int kvs.length) H
theorem cb_len : L2.CallR X (.builtin "len") (rLen X.K) := L2.CallR.or L2.call_len call_lenR
theorem RepK.length : ∀ {kvs : List (DK × PV)} {l : List (L2.Key × V)}, RepK G ms st H kvs l → l.length = kvs.length
  | [], l, h => by simp only [RepK] at h; subst h; rfl
  | (k, d) :: r, l, h => by
    simp only [RepK] at h
    obtain ⟨ka, v, l', _, rfl, _, h2⟩ := h
    rw [List.length_cons, List.length_cons, RepK.length h2]
theorem len_ok {bx : Bool} : BiF G lo (bfn .len bx) (rLen G.K) := by
  intro ms st H xs vs Q E hlo S r h
  unfold bfn at h
  split at h <;> try (first | (rename_i e; cases e; done) | exact h.elim)
  · obtain ⟨v, rfl, rv⟩ := r.one
    simp only [Rep] at rv
    subst rv
    split at h
    · rename_i s _ hz
      have q := h.done S (u := .int s.length) (by simp only [Rep])
      refine .inl ⟨_, s.length, rfl, ⟨by rw [toS_len, ← line_eq]; exact hz, (toS_len s).symm⟩, q⟩
    · exact h.elim
  · obtain ⟨v, rfl, rv⟩ := r.one
    split at h
    · rename_i ys hy
      obtain ⟨a, ws, rfl, hs, rl⟩ := seqOf_ok S rv hy
      have q := h.done S (u := .int ys.length) (by simp only [Rep])
      have e := RepL.length _ _ rl
      refine .inl ⟨_, ys.length, rfl, ?_, q⟩
      rcases hs with hs | hs
      · exact .inl ⟨ws, hs, e.symm⟩
      · exact .inr ⟨ws, hs, e.symm⟩
    · split at h
      · rename_i kvs hd
        obtain ⟨a, rfl, l, d1, d2⟩ := dctOf_ok S rv hd
        have q := h.done S (u := .int kvs.length) (by simp only [Rep])
        refine .inr ⟨a, l, rfl, d1, ?_⟩
        rw [RepK.length d2]
        exact q
      · exact h.elim

/-! ### list, tuple -/
def rListOf (K : PySem.W.Frag) : RB := fun xs H Q => ∃ p ys, xs = [.ref p] ∧ (SqL K H p ys ∨ SqT K H p ys) ∧ ∀ l, H l = none → Q (.ref l) (upd H l (.lst ys))
theorem listOf_ok {bx : Bool} : BiF G lo (bfn .listOf bx) (rListOf G.K) := by
  intro ms st H xs vs Q E hlo S r h
  unfold bfn at h
  split at h <;> try (first | (rename_i e; cases e; done) | exact h.elim)
  obtain ⟨v, rfl, rv⟩ := r.one
  split at h
  · rename_i ys hy
    obtain ⟨a, ws, rfl, hs, rl⟩ := seqOf_ok S rv hy
    exact ⟨a, ws, rfl, hs, mkLst_ok S hlo rl h⟩
  · exact h.elim
def rTupleOf (K : PySem.W.Frag) : RB := fun xs H Q => ∃ p ys, xs = [.ref p] ∧ ((SqL K H p ys ∧ ∀ l, H l = none → Q (.ref l) (upd H l (.tup ys))) ∨ (SqT K H p ys ∧ Q (.ref p) H))
theorem tupleOf_ok {bx : Bool} : BiF G lo (bfn .tupleOf bx) (rTupleOf G.K) := by
  intro ms st H xs vs Q E hlo S r h
  unfold bfn at h
  split at h <;> try (first | (rename_i e; cases e; done) | exact h.elim)
  · obtain ⟨v, rfl, rv⟩ := r.one
    simp only [Rep] at rv
    obtain ⟨a, ws, rfl, e2, e3⟩ := rv
    exact ⟨a, ws, rfl, .inr ⟨e2.sq, h.done S (by simp only [Rep]; exact ⟨a, ws, rfl, e2, e3⟩)⟩⟩
  · obtain ⟨v, rfl, rv⟩ := r.one
    split at h
    · rename_i ys hy
      obtain ⟨a, ws, rfl, hs, rl⟩ := lstOf_ok S rv hy
      exact ⟨a, ws, rfl, .inl ⟨.inl hs, tup_ok S rl h⟩⟩
    · exact h.elim

/-! ### sum, all, max, min -/
theorem ints_ok : ∀ (xs : List PV) (ns : List Int) (vs : List V), intsOf xs = some ns → RepL G ms st H xs vs → vs = ns.map V.int
  | [], ns, vs, h, r => by
    simp only [intsOf, Option.some.injEq] at h
    simp only [RepL] at r
    subst h; subst r; rfl
  | x :: xs, ns, vs, h, r => by
    simp only [RepL] at r
    obtain ⟨v, r', rfl, h1, h2⟩ := r
    cases x with
    | int i =>
      simp only [intsOf, Option.map_eq_some_iff] at h
      obtain ⟨ks', e, rfl⟩ := h
      simp only [Rep] at h1
      subst h1
      rw [ints_ok xs ks' r' e h2]
      rfl
    | _ => simp [intsOf] at h
theorem bools_ok : ∀ (xs : List PV) (ns : List Bool) (vs : List V), boolsOf xs = some ns → RepL G ms st H xs vs → vs = ns.map V.bl
  | [], ns, vs, h, r => by
    simp only [boolsOf, Option.some.injEq] at h
    simp only [RepL] at r
    subst h; subst r; rfl
  | x :: xs, ns, vs, h, r => by
    simp only [RepL] at r
    obtain ⟨v, r', rfl, h1, h2⟩ := r
    cases x with
    | bool i =>
      simp only [boolsOf, Option.map_eq_some_iff] at h
      obtain ⟨ks', e, rfl⟩ := h
      simp only [Rep] at h1
      subst h1
      rw [bools_ok xs ks' r' e h2]
      rfl
    | _ => simp [boolsOf] at h
theorem sum_ok {bx : Bool} : BiF G lo (bfn .sum bx) (L2.rSum G.K) := by
  intro ms st H xs vs Q E hlo S r h
  unfold bfn at h
  split at h <;> try (first | (rename_i e; cases e; done) | exact h.elim)
  obtain ⟨v, rfl, rv⟩ := r.one
  split at h
  · rename_i ns hn
    obtain ⟨ys, hy, hn⟩ := Option.bind_eq_some_iff.mp hn
    obtain ⟨a, ws, rfl, hs, rl⟩ := lstOf_ok S rv hy
    have := ints_ok ys ns ws hn rl
    subst this
    exact ⟨a, ns, rfl, .inl hs, h.done S (by simp only [Rep])⟩
  · exact h.elim
theorem all_ok {bx : Bool} : BiF G lo (bfn .all bx) (L2.rAll G.K) := by
  intro ms st H xs vs Q E hlo S r h
  unfold bfn at h
  split at h <;> try (first | (rename_i e; cases e; done) | exact h.elim)
  obtain ⟨v, rfl, rv⟩ := r.one
  split at h
  · rename_i ns hn
    obtain ⟨ys, hy, hn⟩ := Option.bind_eq_some_iff.mp hn
    obtain ⟨a, ws, rfl, hs, rl⟩ := lstOf_ok S rv hy
    have := bools_ok ys ns ws hn rl
    subst this
    exact ⟨a, ns, rfl, .inl hs, h.done S (by simp only [Rep])⟩
  · exact h.elim
theorem maxI_spec : ∀ (l : List Int) (m : Int), maxI m l ∈ m :: l ∧ ∀ y ∈ m :: l, y ≤ maxI m l
  | [], m => by simp [maxI]
  | x :: r, m => by
    simp only [maxI]
    by_cases c : x > m
    · rw [if_pos c]
      have ih := maxI_spec r x
      have h0 := ih.2 x List.mem_cons_self
      refine ⟨List.mem_cons_of_mem _ ih.1, fun y hy => ?_⟩
      rcases List.mem_cons.mp hy with rfl | hy
      · omega
      · exact ih.2 y hy
    · rw [if_neg c]
      have ih := maxI_spec r m
      have h0 := ih.2 m List.mem_cons_self
      refine ⟨?_, fun y hy => ?_⟩
      · rcases List.mem_cons.mp ih.1 with e | e
        · rw [e]; exact List.mem_cons_self
        · exact List.mem_cons_of_mem _ (List.mem_cons_of_mem _ e)
      · rcases List.mem_cons.mp hy with rfl | hy
        · exact h0
        · rcases List.mem_cons.mp hy with rfl | hy
          · omega
          · exact ih.2 y (List.mem_cons_of_mem _ hy)
theorem minI_spec : ∀ (l : List Int) (m : Int), minI m l ∈ m :: l ∧ ∀ y ∈ m :: l, minI m l ≤ y
  | [], m => by simp [minI]
  | x :: r, m => by
    simp only [minI]
    by_cases c : x < m
    · rw [if_pos c]
      have ih := minI_spec r x
      have h0 := ih.2 x List.mem_cons_self
      refine ⟨List.mem_cons_of_mem _ ih.1, fun y hy => ?_⟩
      rcases List.mem_cons.mp hy with rfl | hy
      · omega
      · exact ih.2 y hy
    · rw [if_neg c]
      have ih := minI_spec r m
      have h0 := ih.2 m List.mem_cons_self
      refine ⟨?_, fun y hy => ?_⟩
      · rcases List.mem_cons.mp ih.1 with e | e
        · rw [e]; exact List.mem_cons_self
        · exact List.mem_cons_of_mem _ (List.mem_cons_of_mem _ e)
      · rcases List.mem_cons.mp hy with rfl | hy
        · exact h0
        · rcases List.mem_cons.mp hy with rfl | hy
          · omega
          · exact ih.2 y (List.mem_cons_of_mem _ hy)
theorem max1_ok {bx : Bool} : BiF G lo (bfn .max1 bx) (L2.rMax G.K) := by
  intro ms st H xs vs Q E hlo S r h
  unfold bfn at h
  split at h <;> try (first | (rename_i e; cases e; done) | exact h.elim)
  obtain ⟨v, rfl, rv⟩ := r.one
  split at h
  · rename_i n ns hn
    obtain ⟨ys, hy, hn⟩ := Option.bind_eq_some_iff.mp hn
    obtain ⟨a, ws, rfl, hs, rl⟩ := lstOf_ok S rv hy
    have := ints_ok ys _ ws hn rl
    subst this
    refine ⟨a, n :: ns, rfl, .inl hs, Nat.succ_pos _, fun m h1 h2 => ?_⟩
    have sp := maxI_spec ns n
    obtain rfl : m = maxI n ns := Int.le_antisymm (sp.2 m h1) (h2 _ sp.1)
    exact h.done S (by simp only [Rep])
  · exact h.elim
theorem min1_ok {bx : Bool} : BiF G lo (bfn .min1 bx) (L2.rMin G.K) := by
  intro ms st H xs vs Q E hlo S r h
  unfold bfn at h
  split at h <;> try (first | (rename_i e; cases e; done) | exact h.elim)
  obtain ⟨v, rfl, rv⟩ := r.one
  split at h
  · rename_i n ns hn
    obtain ⟨ys, hy, hn⟩ := Option.bind_eq_some_iff.mp hn
    obtain ⟨a, ws, rfl, hs, rl⟩ := lstOf_ok S rv hy
    have := ints_ok ys _ ws hn rl
    subst this
    refine ⟨a, n :: ns, rfl, .inl hs, Nat.succ_pos _, fun m h1 h2 => ?_⟩
    have sp := minI_spec ns n
    obtain rfl : m = minI n ns := Int.le_antisymm (h2 _ sp.1) (sp.2 m h1)
    exact h.done S (by simp only [Rep])
  · exact h.elim
theorem max2_ok {bx : Bool} : BiF G lo (bfn .max2 bx) (fun xs H Q => ∃ i j, xs = [.int i, .int j] ∧ Q (.int (if j > i then j else i)) H) := by
  intro ms st H xs vs Q E hlo S r h
  unfold bfn at h
  split at h <;> try (first | (rename_i e; cases e; done) | exact h.elim)
  obtain ⟨v, w, rfl, rv, rw'⟩ := r.two
  simp only [Rep] at rv rw'
  subst rv; subst rw'
  exact ⟨_, _, rfl, h.done S (by simp only [Rep])⟩
theorem min2_ok {bx : Bool} : BiF G lo (bfn .min2 bx) (fun xs H Q => ∃ i j, xs = [.int i, .int j] ∧ Q (.int (if j < i then j else i)) H) := by
  intro ms st H xs vs Q E hlo S r h
  unfold bfn at h
  split at h <;> try (first | (rename_i e; cases e; done) | exact h.elim)
  obtain ⟨v, w, rfl, rv, rw'⟩ := r.two
  simp only [Rep] at rv rw'
  subst rv; subst rw'
  exact ⟨_, _, rfl, h.done S (by simp only [Rep])⟩
theorem abs_ok {bx : Bool} : BiF G lo (bfn .abs bx) (fun xs H Q => ∃ i, xs = [.int i] ∧ Q (.int (if i < 0 then -i else i)) H) := by
  intro ms st H xs vs Q E hlo S r h
  unfold bfn at h
  split at h <;> try (first | (rename_i e; cases e; done) | exact h.elim)
  obtain ⟨v, rfl, rv⟩ := r.one
  simp only [Rep] at rv
  subst rv
  exact ⟨_, rfl, h.done S (by simp only [Rep])⟩
theorem int_ok {bx : Bool} : BiF G lo (bfn .int bx) (fun xs H Q => (∃ i, xs = [.int i] ∧ Q (.int i) H) ∨ ∃ k, xs = [.bl k] ∧ Q (.int (if k then 1 else 0)) H) := by
  intro ms st H xs vs Q E hlo S r h
  unfold bfn at h
  split at h <;> try (first | (rename_i e; cases e; done) | exact h.elim)
  · obtain ⟨v, rfl, rv⟩ := r.one
    simp only [Rep] at rv
    subst rv
    exact .inl ⟨_, rfl, h.done S (by simp only [Rep])⟩
  · obtain ⟨v, rfl, rv⟩ := r.one
    simp only [Rep] at rv
    subst rv
    exact .inr ⟨_, rfl, h.done S (by simp only [Rep])⟩
end
end Z

/-! Whether a text of the small language is a text of the program. -/
namespace Z
open PySem (Str Expr Stmt Scope NameKind CmpOp Operator UnaryOp Const Comprehension)

/-- what is known where a text stands: its names, its scope, names that it may store to by cells; defs, classes, constants -/
structure CC where
  N : List Str
  sc : Scope
  fnc : Str → Bool
  fnm : Nat → Option String
  cnm : Nat → Option String
  glb : String → Option PV

def opB : BOp → Operator → Bool
  | .add, .Add | .sub, .Sub | .mul, .Mult | .mod, .Mod | .fdiv, .FloorDiv | .pow, .Pow => true
  | _, _ => false
def opC : COp → CmpOp → Bool
  | .eq, .Eq | .ne, .NotEq | .lt, .Lt | .le, .LtE | .gt, .Gt | .ge, .GtE | .isIn, .In | .notIn, .NotIn | .is, .Is | .isNot, .IsNot => true
  | _, _ => false
def biName : Bi → String
  | .len => "len" | .listOf => "list" | .tupleOf => "tuple" | .sum => "sum" | .all => "all" | .max1 => "max" | .min1 => "min" | .max2 => "max" | .min2 => "min"
  | .abs => "abs" | .int => "int" | .str => "str" | .dictOf => "dict" | .sorted => "sorted" | .sortedSet => "sorted" | .lenSet => "len" | .sortedItems => "sorted"
def bmName : Bm → String
  | .append => "append" | .extend => "extend" | .insert => "insert" | .pop => "pop" | .reverse => "reverse" | .get => "get" | .get2 => "get" | .items => "items" | .join => "join" | .split => "split"
  | .partition => "partition" | .upper => "upper" | .count => "count" | .index => "index"
def tyName : Ty → String
  | .int => "int" | .bool => "bool" | .str => "str" | .tuple => "tuple" | .list => "list" | .valueError => "ValueError" | .cls _ => ""
def notCls : Ty → Bool
  | .cls _ | .valueError => false
  | _ => true
def isVis (sc : Scope) (x : Str) : Bool := match sc.names.lookup x with
  | some .local | some .cell | some .free => true
  | _ => false
def isGl (sc : Scope) (x : Str) : Bool := match sc.names.lookup x with
  | some .globalImplicit => true
  | _ => false
def canStore (C : CC) (x : Str) : Bool := match C.sc.names.lookup x with
  | some .local => true
  | some .cell => C.fnc x
  | _ => false
def sane (x : Str) : Bool := !(x == Str.ofString "__debug__") && !(x == Str.ofString "__classdict__") && !(x == Str.ofString "__name__")
def nameAt (C : CC) (i : Nat) (x : Str) : Bool := decide (C.N[i]? = some x) && sane x
def notSuper : Expr → Bool
  | .Call (.Name _ _) [] [] _ => false
  | _ => true
def isSlice : Expr → Bool
  | .Slice .. => true
  | _ => false
def isSet : Expr → Bool
  | .Set .. => true
  | _ => false

mutual
def chkG (C : CC) : Tg → Expr → Bool
  | .name i, .Name x _ => nameAt C i x && canStore C x
  | .tup l, .Tuple es _ _ => chkGs C l es
  | _, _ => false
def chkGs (C : CC) : List Tg → List Expr → Bool
  | [], [] => true
  | t :: l, e :: es => chkG C t e && chkGs C l es
  | _, _ => false
end
mutual
def tgVars : Tg → List Nat
  | .name i => [i]
  | .tup l => tgVarss l
def tgVarss : List Tg → List Nat
  | [] => []
  | t :: l => tgVars t ++ tgVarss l
end
def bmAr : Bm → Nat → Bool
  | .append, 1 | .extend, 1 | .insert, 2 | .pop, 0 | .get, 1 | .get2, 2 | .upper, 0 => true
  | _, _ => false
def isTupTg : Expr → Bool
  | .Tuple .. => true
  | _ => false

mutual
def chk (C : CC) : ME → Expr → Bool
  | .const (.int i), .Constant (.int j) _ _ => decide (i = j)
  | .const (.str s), .Constant (.str x) _ _ => decide (toS s = x)
  | .const (.bool b), .Constant (.bool c) _ _ => b == c
  | .const .none, .Constant .none _ _ => true
  | .var i, .Name x _ => nameAt C i x && isVis C.sc x
  | .glob n d, .Name x _ => decide (x = Str.ofString n) && sane x && isGl C.sc x && (match d, C.glb n with
    | .int i, some (.int j) => decide (i = j)
    | .str s, some (.str t) => decide (s = t)
    | _, _ => false)
  | .bin op _ a b, .BinOp l o r _ => opB op o && chk C a l && chk C b r
  | .neg a, .UnaryOp .USub e _ => chk C a e
  | .nt a, .UnaryOp .Not e _ => chk C a e
  | .and a b, .BoolOp .And [e, e2] _ => chk C a e && chk C b e2
  | .and a b, .BoolOp .And (e :: e2 :: e3 :: r) pos => chk C a e && chk C b (.BoolOp .And (e2 :: e3 :: r) pos)
  | .or a b, .BoolOp .Or [e, e2] _ => chk C a e && chk C b e2
  | .or a b, .BoolOp .Or (e :: e2 :: e3 :: r) pos => chk C a e && chk C b (.BoolOp .Or (e2 :: e3 :: r) pos)
  | .cmp op a b, .Compare l [o] [r] _ => opC op o && chk C a l && chk C b r && !isSet r
  | .chain op op' a b c, .Compare l [o, o'] [m, r] _ => opC op o && opC op' o' && chk C a l && chk C b m && chk C c r && !isSet m && !isSet r
  | .ite c a b, .IfExp t x y _ => chk C c t && chk C a x && chk C b y
  | .tup es, .Tuple xs _ _ => chks C es xs
  | .lst _ es, .List xs _ => chks C es xs
  | .dict0 _, .Dict [] [] _ => true
  | .call f es, .Call (.Name x _) (e :: xs) [] _ => sane x && isGl C.sc x && (match C.fnm f with | some n => decide (x = Str.ofString n) | none => false) && chks C es (e :: xs)
  | .bi b _ es, .Call (.Name x _) (e :: xs) [] _ => sane x && isGl C.sc x && decide (x = Str.ofString (biName b)) && chks C es (e :: xs)
  | .isinst a t, .Call (.Name x _) [e, .Name y _] [] _ => sane x && isGl C.sc x && sane y && isGl C.sc y && decide (x = Str.ofString "isinstance") && decide (y = Str.ofString (tyName t)) && notCls t && chk C a e
  | .bm m o es, .Call (.Attribute e n ap) xs [] cp => notSuper e && decide (n = Str.ofString (bmName m)) && (ap.endLine == cp.line) && bmAr m xs.length && chk C o e && chks C es xs
  | .idx a i, .Subscript x y _ => !isSlice y && chk C a x && chk C i y
  | .slice _ a lo hi, .Subscript x (.Slice l h none _) _ => chk C a x && chkO C lo l && chkO C hi h
  | .comp _ tg vs it cond elt, .ListComp e [⟨t, i, ifs, a⟩] scope _ =>
    let C' : CC := { C with sc := L2.relS scope C.sc, fnc := fun x => scope.names.lookup x == some .cell }
    L2.blkC C.N C.sc scope (vs.map fun i => (C.N.getD i Str.empty, i)) && chkI C it t i && chkG C' tg t && (tgVars tg).all (fun i => vs.contains i) && chk C' elt e && chkF C' cond ifs && decide (vs.all fun i => i < C.N.length) && decide (a = 0)
  | _, _ => false
def chks (C : CC) : MEs → List Expr → Bool
  | .nil, [] => true
  | .cons e r, x :: xs => chk C e x && chks C r xs
  | _, _ => false
def chkF (C : CC) : Option ME → List Expr → Bool
  | none, [] => true
  | some c, [x] => chk C c x
  | _, _ => false
def chkO (C : CC) : Option ME → Option Expr → Bool
  | none, none => true
  | some e, some x => chk C e x
  | _, _ => false
def chkI (C : CC) : MI → Expr → Expr → Bool
  | .seq e, _, x => chk C e x && !isSet x
  | .range1 a, _, .Call (.Name x _) [e] [] _ => isGl C.sc x && decide (x = Str.ofString "range") && chk C a e
  | .range2 a b, _, .Call (.Name x _) [e, e2] [] _ => isGl C.sc x && decide (x = Str.ofString "range") && chk C a e && chk C b e2
  | .enum a, t, .Call (.Name x _) [e] [] _ => isTupTg t && isGl C.sc x && decide (x = Str.ofString "enumerate") && chk C a e
  | .zip a b, t, .Call (.Name x _) [e, e2] [] _ => isTupTg t && isGl C.sc x && decide (x = Str.ofString "zip") && chk C a e && chk C b e2
  | _, _, _ => false
end
end Z

set_option maxHeartbeats 1000000
/-! The small language's texts come to what the program's do: expressions. -/
namespace Z
open PySem PySem.Spec PyProof.Rows
open L2 (V HO Hp SqL SqT Rd upd upd_same upd_ne ne_of ne_of_none Cx PE PT PS PSs PA PG PGs PI PW PO Inv VK TE TA TS TT RelV Vals Dp DpAll)

theorem _root_.L2.PE.weak {X : Cx} {e : Expr} {t t' : TE} (h : PE X e t) (m : ∀ σ H Q, t' σ H Q → t σ H Q) : PE X e t' := ⟨fun pins s σ H Q I q => h.run pins s σ H Q I (m σ H Q q)⟩
theorem _root_.L2.PT.weak {X : Cx} {e : Expr} {t t' : TT} (h : PT X e t) (m : ∀ σ H Q, t' σ H Q → t σ H Q) : PT X e t' := ⟨fun pins s σ H Q I q => h.run pins s σ H Q I (m σ H Q q)⟩
theorem _root_.L2.PA.weak {X : Cx} {e : List Expr} {t t' : TA} (h : PA X e t) (m : ∀ σ H Q, t' σ H Q → t σ H Q) : PA X e t' := ⟨fun pos pins s σ H Q I q => h.run pos pins s σ H Q I (m σ H Q q)⟩
theorem _root_.L2.PI.weak {X : Cx} {tg e : Expr} {t t' : L2.TI} (h : PI X tg e t) (m : ∀ σ H Q, t' σ H Q → t σ H Q) : PI X tg e t' := ⟨fun pins s σ H Q I q => h.run pins s σ H Q I (m σ H Q q)⟩

/-- what a def promises -/
def spOf (K : PySem.W.Frag) (ca : Nat → Addr) (D : Nat → List PV → Sto → R PV) : L2.Sp := fun vs H Q E => ∃ rs lo ms st ds, lo ≤ st.length ∧ SOk ⟨K, ca, rs⟩ ms st H ∧ RepL ⟨K, ca, rs⟩ ms st H ds vs ∧ Res ⟨K, ca, rs⟩ (Rep ⟨K, ca, rs⟩) lo ms st H (D lo ds st) Q fun c H' => E (.ref (ca c)) none H'

def biNames : List String := ["len", "list", "tuple", "sum", "all", "max", "min", "abs", "int", "str", "dict", "sorted", "isinstance", "range", "enumerate", "zip", "bool", "set", "ValueError"]

/-- where a text stands -/
structure Lk (X : Cx) (G : Ctx) (Γ : Gam) (C : CC) : Prop where
  K : X.K = G.K
  N : X.N = C.N
  nd : C.N.Nodup
  sc : X.env.scope = C.sc
  calm : X.calm = true
  loc : ∀ x, canStore C x = true → X.fn x = true ∨ X.env.scope.names.lookup x = some .local
  room : L2.Room 0 X.A
  fn : ∀ f x, C.fnm f = some x → ∃ fa fd ps k, X.mg (Str.ofString x) = some (.ref fa) ∧ PySem.W.keepIn X.K (.ref fa) = true ∧ L2.Binds X.K fd ps [] ∧ L2.Room k X.A ∧ L2.FnOk X.prog X.w X.K X.mg X.base (L2.CX X.prog X.w) k fa fd ps (spOf G.K G.ca (Γ.fn f))
  bi : ∀ n ∈ biNames, X.mg (Str.ofString n) = none
  gl : ∀ n d, C.glb n = some d → ∃ u v, X.mg (Str.ofString n) = some u ∧ RelV v u ∧ (match d with | .int i => v = .int i | .str s => v = .str (toS s) | _ => False)

section
variable {X : Cx} {G : Ctx} {Γ : Gam} {C : CC} {lo : Nat} {W : L2.WX}

theorem Lk.hu (L : Lk X G Γ C) : X.A.units + 200 < cLine := by have := L.room.un; omega
theorem Lk.glo (L : Lk X G Γ C) {x : Str} (h : isGl C.sc x = true) : L2.Gl X x := by
  show X.env.scope.names.lookup x = some .globalImplicit
  rw [L.sc]
  unfold isGl at h
  split at h
  · assumption
  · cases h
theorem Lk.vis (L : Lk X G Γ C) {x : Str} (h : isVis C.sc x = true) : L2.Vis X.env.scope x := by
  rw [L.sc]
  unfold isVis at h
  split at h
  · exact .inl (by assumption)
  · exact .inr (.inl (by assumption))
  · exact .inr (.inr (by assumption))
  · cases h
theorem Lk.loc' (L : Lk X G Γ C) {x : Str} (h : canStore C x = true) : L2.Loc X.env.scope x := by
  rw [L.sc]
  unfold canStore at h
  split at h
  · exact .inl (by assumption)
  · exact .inr (by assumption)
  · cases h
theorem sane_d {x : Str} (h : sane x = true) : (x == ("__debug__" : Str)) = false ∧ (x == ("__classdict__" : Str)) = false ∧ x ≠ "__name__" := by
  simp only [sane, Bool.and_eq_true, Bool.not_eq_true'] at h
  exact ⟨h.1.1, h.1.2, beq_eq_false_iff_ne.mp h.2⟩
theorem nameAt_d {i : Nat} {x : Str} (h : nameAt C i x = true) : C.N[i]? = some x ∧ sane x = true := by
  simp only [nameAt, Bool.and_eq_true, decide_eq_true_eq] at h
  exact h

theorem EOk.get {ms : List Addr} {st : Sto} {H : Hp} : ∀ {ρ : Env} {σ : L2.St} {i : Nat} {d : PV}, EOk G ms st H ρ σ → ρ[i]? = some (some d) → ∃ v, σ[i]? = some (some v) ∧ Rep G ms st H d v
  | [], σ, i, d, h, e => by simp at e
  | o :: ρ, σ, 0, d, h, e => by
    simp only [EOk] at h
    obtain ⟨v, σ', rfl, h1, h2⟩ := h
    simp at e
    obtain ⟨u, rfl, r⟩ := h1 d e
    exact ⟨u, rfl, r⟩
  | o :: ρ, σ, i + 1, d, h, e => by
    simp only [EOk] at h
    obtain ⟨v, σ', rfl, h1, h2⟩ := h
    simpa using EOk.get h2 (by simpa using e)
theorem EOk.len {ms : List Addr} {st : Sto} {H : Hp} : ∀ {ρ : Env} {σ : L2.St}, EOk G ms st H ρ σ → σ.length = ρ.length
  | [], σ, h => by simp only [EOk] at h; subst h; rfl
  | o :: ρ, σ, h => by
    simp only [EOk] at h
    obtain ⟨v, σ', rfl, h1, h2⟩ := h
    simp [EOk.len h2]
theorem EOk.set {ms : List Addr} {st : Sto} {H : Hp} {d : PV} {v : V} (r : Rep G ms st H d v) : ∀ {ρ : Env} {σ : L2.St} {i : Nat}, EOk G ms st H ρ σ → EOk G ms st H (ρ.set i (some d)) (σ.set i (some v))
  | [], σ, i, h => by simp only [EOk] at h; subst h; simp [EOk]
  | o :: ρ, σ, 0, h => by
    simp only [EOk] at h
    obtain ⟨w, σ', rfl, h1, h2⟩ := h
    simp only [List.set_cons_zero, EOk]
    exact ⟨some v, σ', rfl, fun d' e => by cases e; exact ⟨v, rfl, r⟩, h2⟩
  | o :: ρ, σ, i + 1, h => by
    simp only [EOk] at h
    obtain ⟨w, σ', rfl, h1, h2⟩ := h
    simp only [List.set_cons_succ, EOk]
    exact ⟨w, _, rfl, h1, EOk.set r h2⟩
theorem EOk.unset {ms : List Addr} {st : Sto} {H : Hp} {v : Option V} : ∀ {ρ : Env} {σ : L2.St} {i : Nat}, EOk G ms st H ρ σ → EOk G ms st H (ρ.set i none) (σ.set i v)
  | [], σ, i, h => by simp only [EOk] at h; subst h; simp [EOk]
  | o :: ρ, σ, 0, h => by
    simp only [EOk] at h
    obtain ⟨w, σ', rfl, h1, h2⟩ := h
    simp only [List.set_cons_zero, EOk]
    exact ⟨v, σ', rfl, (fun d' e => nomatch e), h2⟩
  | o :: ρ, σ, i + 1, h => by
    simp only [EOk] at h
    obtain ⟨w, σ', rfl, h1, h2⟩ := h
    simp only [List.set_cons_succ, EOk]
    exact ⟨w, _, rfl, h1, EOk.unset h2⟩

/-- length of the store behind a step -/
theorem Ext.le {ms ms' : List Addr} {st st' : Sto} {H H' : Hp} (e : Ext G.rsv lo ms st H ms' st' H') (S : SOk G ms st H) (S' : SOk G ms' st' H') (h : lo ≤ st.length) : lo ≤ st'.length := by
  have := e.pre.length_le
  rw [S.len, S'.len] at this
  omega

/-! ### one by one -/
theorem t_const {d : PV} {v : V} {e : Expr} (h : PE X e (L2.tC v)) (r : ∀ ms st H, Rep G ms st H d v) : PE X e (tE G lo W (eval Γ lo (.const d))) := h.weak fun σ H Q ⟨ms, ρ, st, hl, S, E, q⟩ => by
  simp only [eval] at q
  exact q.done S (r ms st H)
theorem t_var {i : Nat} {e : Expr} (h : PE X e (L2.tVar i)) : PE X e (tE G lo W (eval Γ lo (.var i))) := h.weak fun σ H Q ⟨ms, ρ, st, hl, S, E, q⟩ => by
  simp only [eval] at q
  split at q
  · rename_i d hd
    obtain ⟨v, e1, r⟩ := E.get hd
    exact ⟨v, e1, q.done S r⟩
  · exact q.elim
/-- two parts, then an operation by values -/
theorem two_parts {a b : Env → Sto → R PV} {f : PV → PV → Sto → R PV} {r : L2.R2} (hf : OpF G lo f r) (σ : L2.St) (H : Hp) (Q : VK)
    (h : tE G lo W (fun ρ st => (a ρ st).bind fun x st1 => (b ρ st1).bind fun y st2 => f x y st2) σ H Q) : L2.tOp r (tE G lo W a) (tE G lo W b) σ H Q := by
  obtain ⟨ms, ρ, st, hl, S, E, q⟩ := h
  refine ⟨ms, ρ, st, hl, S, E, q.bind1 (rep := Rep G) fun x st1 ms1 H1 u e1 S1 r1 q1 => ?_⟩
  refine ⟨ms1, ρ, st1, e1.le S S1 hl, S1, E.ext e1, q1.bind1 (rep := Rep G) fun y st2 ms2 H2 w e2 S2 r2 q2 => ?_⟩
  exact hf ms2 st2 H2 x y u w Q _ (e2.le S1 S2 (e1.le S S1 hl)) S2 (Rep.ext e2 _ _ r1) r2 q2
theorem t_bin {op : Operator} {r : L2.R2} {f : PV → PV → Sto → R PV} {a b : Expr} {da db : Env → Sto → R PV} {pos : Pos} (ho : L2.OpR X (binaryOp op) r) (hf : OpF G lo f r) (ha : PE X a (tE G lo W da)) (hb : PE X b (tE G lo W db)) :
    PE X (.BinOp a op b pos) (tE G lo W fun ρ st => (da ρ st).bind fun x st1 => (db ρ st1).bind fun y st2 => f x y st2) := (L2.pe_op ho ha hb).weak fun σ H Q h => two_parts hf σ H Q h
theorem cm_op {f : PV → PV → Sto → Option Bool} {r : L2.R2} (hf : CmF G f r) : OpF G lo (fun x y st => ofOpt ((f x y st).map .bool) st) r := by
  intro ms st H x y u w Q E hl S rx ry h
  cases e : f x y st with
  | none => simp only [e] at h; exact h.elim
  | some b =>
    simp only [e, Option.map_some, ofOpt_some] at h
    exact hf ms st H x y u w b Q S rx ry e (h.done S (by simp only [Rep]))
theorem t_cmp {op : CmpOp} {r : L2.R2} {f : PV → PV → Sto → Option Bool} {a b : Expr} {da db : Env → Sto → R PV} {pos : Pos} (ho : L2.OpR X (compareOp op) r) (hf : CmF G f r) (hm : behindInMarks op b = false) (ha : PE X a (tE G lo W da)) (hb : PE X b (tE G lo W db)) :
    PE X (.Compare a [op] [b] pos) (tE G lo W fun ρ st => (da ρ st).bind fun x st1 => (db ρ st1).bind fun y st2 => ofOpt ((f x y st2).map .bool) st2) :=
  (L2.pe_cmpR ho ha hb hm).weak fun σ H Q h => two_parts (cm_op hf) σ H Q h
/-- as a test -/
abbrev tB := L2.tB
theorem t_cmpT {op : CmpOp} {r : L2.R2} {f : PV → PV → Sto → Option Bool} {a b : Expr} {da db : Env → Sto → R PV} {pos : Pos} (ho : L2.OpR X (compareOp op) r) (hf : CmF G f r) (hm : behindInMarks op b = false) (ha : PE X a (tE G lo W da)) (hb : PE X b (tE G lo W db)) :
    PT X (.Compare a [op] [b] pos) (tB (tE G lo W fun ρ st => (da ρ st).bind fun x st1 => (db ρ st1).bind fun y st2 => ofOpt ((f x y st2).map .bool) st2)) :=
  (L2.pt_cmpR ho ha hb hm).weak fun σ H Q h => two_parts (cm_op hf) σ H _ h

theorem t_neg {a : Expr} {da : Env → Sto → R PV} {pos : Pos} (ha : PE X a (tE G lo W da)) : PE X (.UnaryOp .USub a pos) (tE G lo W fun ρ st => (da ρ st).bind fun x st1 => match x with | .int i => .ok (.int (-i)) st1 | _ => .bad) :=
  (L2.pe_un L2.un_neg ha).weak fun σ H Q ⟨ms, ρ, st, hl, S, E, q⟩ => ⟨ms, ρ, st, hl, S, E, q.bind1 (rep := Rep G) fun x st1 ms1 H1 u e1 S1 r1 q1 => by
    split at q1
    · simp only [Rep] at r1
      subst r1
      exact ⟨_, rfl, q1.done S1 (by simp only [Rep])⟩
    · exact q1.elim⟩
theorem rep_boolI {ms : List Addr} {st : Sto} {H : Hp} {b : Bool} : Rep G ms st H (.bool b) (.bl b) := by simp only [Rep]
theorem rep_bool {ms : List Addr} {st : Sto} {H : Hp} {b : Bool} {v : V} (r : Rep G ms st H (.bool b) v) : v = .bl b := by simpa only [Rep] using r
theorem t_not {a : Expr} {da : Env → Sto → R PV} {pos : Pos} (ha : PE X a (tE G lo W da)) : PE X (.UnaryOp .Not a pos) (tE G lo W fun ρ st => (da ρ st).bind fun x st1 => match x with | .bool b => .ok (.bool (!b)) st1 | _ => .bad) :=
  (L2.pe_not ha).weak fun σ H Q ⟨ms, ρ, st, hl, S, E, q⟩ => ⟨ms, ρ, st, hl, S, E, q.bind1 (rep := Rep G) fun x st1 ms1 H1 u e1 S1 r1 q1 => by
    split at q1
    · exact ⟨_, rep_bool r1, q1.done S1 (by simp only [Rep])⟩
    · exact q1.elim⟩
theorem t_notT {a : Expr} {da : Env → Sto → R PV} {pos : Pos} (ha : PT X a (tB (tE G lo W da))) : PT X (.UnaryOp .Not a pos) (tB (tE G lo W fun ρ st => (da ρ st).bind fun x st1 => match x with | .bool b => .ok (.bool (!b)) st1 | _ => .bad)) :=
  (L2.pt_not ha).weak fun σ H Q ⟨ms, ρ, st, hl, S, E, q⟩ => ⟨ms, ρ, st, hl, S, E, q.bind1 (rep := Rep G) fun x st1 ms1 H1 u e1 S1 r1 q1 => by
    split at q1
    · obtain ⟨c, e, q2⟩ := q1.done (rep := Rep G) S1 rep_boolI
      cases e
      exact ⟨_, rep_bool r1, q2⟩
    · exact q1.elim⟩

abbrev dAnd (da db : Env → Sto → R PV) : Env → Sto → R PV := fun ρ st => (da ρ st).bind fun x st1 => match x with | .bool true => db ρ st1 | .bool false => .ok (.bool false) st1 | _ => .bad
abbrev dOr (da db : Env → Sto → R PV) : Env → Sto → R PV := fun ρ st => (da ρ st).bind fun x st1 => match x with | .bool false => db ρ st1 | .bool true => .ok (.bool true) st1 | _ => .bad
theorem t_and {a b : Expr} {rest : List Expr} {da db : Env → Sto → R PV} {pos : Pos} (ha : PE X a (tE G lo W da)) (hb : PE X (.BoolOp .And (b :: rest) pos) (tE G lo W db)) : PE X (.BoolOp .And (a :: b :: rest) pos) (tE G lo W (dAnd da db)) :=
  (L2.pe_and ha hb).weak fun σ H Q ⟨ms, ρ, st, hl, S, E, q⟩ => ⟨ms, ρ, st, hl, S, E, q.bind1 (rep := Rep G) fun x st1 ms1 H1 u e1 S1 r1 q1 => by
    split at q1
    · refine ⟨true, rep_bool r1, ?_⟩
      refine L2.iteT ?_
      exact ⟨ms1, ρ, st1, e1.le S S1 hl, S1, E.ext e1, q1⟩
    · refine ⟨false, rep_bool r1, ?_⟩
      refine L2.iteF ?_
      exact q1.done S1 (by simp only [Rep])
    · exact q1.elim⟩
theorem t_or {a b : Expr} {rest : List Expr} {da db : Env → Sto → R PV} {pos : Pos} (ha : PE X a (tE G lo W da)) (hb : PE X (.BoolOp .Or (b :: rest) pos) (tE G lo W db)) : PE X (.BoolOp .Or (a :: b :: rest) pos) (tE G lo W (dOr da db)) :=
  (L2.pe_or ha hb).weak fun σ H Q ⟨ms, ρ, st, hl, S, E, q⟩ => ⟨ms, ρ, st, hl, S, E, q.bind1 (rep := Rep G) fun x st1 ms1 H1 u e1 S1 r1 q1 => by
    split at q1
    · refine ⟨false, rep_bool r1, ?_⟩
      refine L2.iteF ?_
      exact ⟨ms1, ρ, st1, e1.le S S1 hl, S1, E.ext e1, q1⟩
    · refine ⟨true, rep_bool r1, ?_⟩
      refine L2.iteT ?_
      exact q1.done S1 (by simp only [Rep])
    · exact q1.elim⟩
theorem t_andT {a b : Expr} {rest : List Expr} {da db : Env → Sto → R PV} {pos : Pos} (ha : PT X a (tB (tE G lo W da))) (hb : PW X (.BoolOp .And (b :: rest) pos) (tB (tE G lo W db))) : PW X (.BoolOp .And (a :: b :: rest) pos) (tB (tE G lo W (dAnd da db))) := by
  have h := L2.pw_and ha hb
  refine ⟨fun wh pins s σ H Q I hq => h.run wh pins s σ H Q I ?_⟩
  obtain ⟨ms, ρ, st, hl, S, E, q⟩ := hq
  refine ⟨ms, ρ, st, hl, S, E, q.bind1 (rep := Rep G) fun x st1 ms1 H1 u e1 S1 r1 q1 => ?_⟩
  split at q1
  · refine ⟨true, rep_bool r1, ?_⟩
    refine L2.iteT ?_
    exact ⟨ms1, ρ, st1, e1.le S S1 hl, S1, E.ext e1, q1⟩
  · refine ⟨false, rep_bool r1, ?_⟩
    refine L2.iteF ?_
    obtain ⟨c, e, q2⟩ := q1.done (rep := Rep G) S1 rep_boolI
    cases e
    exact q2
  · exact q1.elim
theorem t_orT {a b : Expr} {rest : List Expr} {da db : Env → Sto → R PV} {pos : Pos} (ha : PT X a (tB (tE G lo W da))) (hb : PW X (.BoolOp .Or (b :: rest) pos) (tB (tE G lo W db))) : PW X (.BoolOp .Or (a :: b :: rest) pos) (tB (tE G lo W (dOr da db))) := by
  have h := L2.pw_or ha hb
  refine ⟨fun wh pins s σ H Q I hq => h.run wh pins s σ H Q I ?_⟩
  obtain ⟨ms, ρ, st, hl, S, E, q⟩ := hq
  refine ⟨ms, ρ, st, hl, S, E, q.bind1 (rep := Rep G) fun x st1 ms1 H1 u e1 S1 r1 q1 => ?_⟩
  split at q1
  · refine ⟨false, rep_bool r1, ?_⟩
    refine L2.iteF ?_
    exact ⟨ms1, ρ, st1, e1.le S S1 hl, S1, E.ext e1, q1⟩
  · refine ⟨true, rep_bool r1, ?_⟩
    refine L2.iteT ?_
    obtain ⟨c, e, q2⟩ := q1.done (rep := Rep G) S1 rep_boolI
    cases e
    exact q2
  · exact q1.elim
theorem t_ite {c a b : Expr} {dc da db : Env → Sto → R PV} {pos : Pos} (hc : PT X c (tB (tE G lo W dc))) (ha : PE X a (tE G lo W da)) (hb : PE X b (tE G lo W db)) :
    PE X (.IfExp c a b pos) (tE G lo W fun ρ st => (dc ρ st).bind fun x st1 => match x with | .bool true => da ρ st1 | .bool false => db ρ st1 | _ => .bad) :=
  (L2.pe_ifExp hc ha hb).weak fun σ H Q ⟨ms, ρ, st, hl, S, E, q⟩ => ⟨ms, ρ, st, hl, S, E, q.bind1 (rep := Rep G) fun x st1 ms1 H1 u e1 S1 r1 q1 => by
    split at q1
    · refine ⟨true, rep_bool r1, ?_⟩
      refine L2.iteT ?_
      exact ⟨ms1, ρ, st1, e1.le S S1 hl, S1, E.ext e1, q1⟩
    · refine ⟨false, rep_bool r1, ?_⟩
      refine L2.iteF ?_
      exact ⟨ms1, ρ, st1, e1.le S S1 hl, S1, E.ext e1, q1⟩
    · exact q1.elim⟩
theorem chain_asks {r r' : L2.R2} {f f' : PV → PV → Sto → Option Bool} {da db dc : Env → Sto → R PV} (hf : CmF G f r) (hf' : CmF G f' r') (σ : L2.St) (H : Hp) (Q : VK)
    (h : tE G lo W (fun ρ st => (da ρ st).bind fun x st1 => (db ρ st1).bind fun y st2 => match f x y st2 with
      | some true => (dc ρ st2).bind fun z st3 => ofOpt ((f' y z st3).map .bool) st3
      | some false => .ok (.bool false) st2
      | none => .bad) σ H Q) : L2.tChain r r' (tE G lo W da) (tE G lo W db) (tE G lo W dc) σ H Q := by
    obtain ⟨ms, ρ, st, hl, S, E, q⟩ := h
    refine ⟨ms, ρ, st, hl, S, E, q.bind1 (rep := Rep G) fun x st1 ms1 H1 u e1 S1 r1 q1 => ?_⟩
    refine ⟨ms1, ρ, st1, e1.le S S1 hl, S1, E.ext e1, q1.bind1 (rep := Rep G) fun y st2 ms2 H2 w e2 S2 r2 q2 => ?_⟩
    split at q2
    · rename_i hfe
      refine hf ms2 st2 H2 x y u w true _ S2 (Rep.ext e2 _ _ r1) r2 hfe ⟨true, rfl, ?_⟩
      refine L2.iteT ?_
      refine ⟨ms2, ρ, st2, e2.le S1 S2 (e1.le S S1 hl), S2, (E.ext e1).ext e2, q2.bind1 (rep := Rep G) fun z st3 ms3 H3 w3 e3 S3 r3 q3 => ?_⟩
      exact cm_op hf' ms3 st3 H3 y z w w3 Q _ (e3.le S2 S3 (e2.le S1 S2 (e1.le S S1 hl))) S3 (Rep.ext e3 _ _ r2) r3 q3
    · rename_i hfe
      refine hf ms2 st2 H2 x y u w false _ S2 (Rep.ext e2 _ _ r1) r2 hfe ⟨false, rfl, ?_⟩
      refine L2.iteF ?_
      exact q2.done S2 (by simp only [Rep])
    · exact q2.elim

/-! ### lists of expressions -/
theorem t_nil : PA X [] (tEs G lo W (evals Γ lo .nil)) := L2.pa_nil.weak fun σ H Q ⟨ms, ρ, st, hl, S, E, q⟩ => by
  simp only [evals] at q
  exact q.done S (by simp only [RepL])
def isStar : Expr → Bool
  | .Starred .. => true
  | _ => false
theorem star_cons {e : Expr} {es : List Expr} {env : PySem.Env} (h : isStar e = false) : starEach (e :: es) env = (false, PySem.eval e env) :: starEach es env := by
  cases e <;> first | (simp [isStar] at h; done) | rfl
theorem star_any {pos : Pos} {env : PySem.Env} : ∀ {es : List Expr}, (∀ e ∈ es, isStar e = false) → (backTo pos (starEach es env)).any (·.1) = false
  | [], _ => rfl
  | e :: es, h => by
    rw [star_cons (h e List.mem_cons_self)]
    have := star_any (pos := pos) (env := env) (es := es) fun e he => h e (List.mem_cons_of_mem _ he)
    show (false || (backTo pos (starEach es env)).any (·.1)) = false
    rw [this] <;> rfl
theorem t_cons {e : Expr} {es : List Expr} {m : ME} {ms' : MEs} (he : PE X e (tE G lo W (Z.eval Γ lo m))) (hs : PA X es (tEs G lo W (Z.evals Γ lo ms'))) (h : isStar e = false) : PA X (e :: es) (tEs G lo W (Z.evals Γ lo (.cons m ms'))) :=
  (L2.pa_cons he hs (star_cons h)).weak fun σ H Q ⟨ms, ρ, st, hl, S, E, q⟩ => by
    simp only [Z.evals] at q
    refine ⟨ms, ρ, st, hl, S, E, q.bind1 (rep := Rep G) fun x st1 ms1 H1 u e1 S1 r1 q1 => ?_⟩
    refine ⟨ms1, ρ, st1, e1.le S S1 hl, S1, E.ext e1, q1.bind1 (rep := RepL G) fun xs st2 ms2 H2 us e2 S2 r2 q2 => ?_⟩
    exact q2.done S2 (by simp only [RepL]; exact ⟨u, us, rfl, Rep.ext e2 _ _ r1, r2⟩)
theorem t_tup {es : List Expr} {k : Nat} {d : Env → Sto → R (List PV)} {pos : Pos} (h : PA X es (tEs G lo W d)) : PE X (.Tuple es k pos) (tE G lo W fun ρ st => (d ρ st).bind fun xs st1 => if xs.length ≤ sizeLine then .ok (.tup xs) st1 else .bad) :=
  (L2.pe_tup h).weak fun σ H Q ⟨ms, ρ, st, hl, S, E, q⟩ => by
    refine ⟨ms, ρ, st, hl, S, E, q.bind1 (rep := RepL G) fun xs st1 ms1 H1 us e1 S1 r1 q1 => ?_⟩
    split at q1
    · rename_i hz
      exact ⟨by rw [RepL.length _ _ r1, ← line_eq]; exact hz, tup_ok S1 r1 q1⟩
    · exact q1.elim
theorem t_lst {es : List Expr} {bx : Bool} {d : Env → Sto → R (List PV)} {pos : Pos} (h : PA X es (tEs G lo W d)) : PE X (.List es pos) (tE G lo W fun ρ st => (d ρ st).bind fun xs st1 => if xs.length ≤ sizeLine then mkLst bx xs st1 else .bad) :=
  (L2.pe_lst h).weak fun σ H Q ⟨ms, ρ, st, hl, S, E, q⟩ => by
    refine ⟨ms, ρ, st, hl, S, E, q.bind1 (rep := RepL G) fun xs st1 ms1 H1 us e1 S1 r1 q1 => ?_⟩
    split at q1
    · rename_i hz
      exact ⟨by rw [RepL.length _ _ r1, ← line_eq]; exact hz, mkLst_ok S1 (e1.le S S1 hl) r1 q1⟩
    · exact q1.elim
theorem t_dict0 {t : Bool} {pos : Pos} : PE X (.Dict [] [] pos) (tE G lo W (Z.eval Γ lo (.dict0 t))) := by
  have mk : ∀ (o : HO) (σ : L2.St) (H : Hp) (Q : VK), (∀ ms st, SOk G ms st H → ∀ p, H p = none → ObjR G (ms ++ [p]) (st ++ [.dct t []]) (upd H p o) (.dct t []) p) → tE G lo W (Z.eval Γ lo (.dict0 t)) σ H Q → ∀ p, H p = none → Q (.ref p) (upd H p o) := fun o σ H Q ho ⟨ms, ρ, st, hl, S, E, q⟩ p hp => by
    simp only [Z.eval] at q
    exact q _ _ (.ref p) (Ext.newBox S hp hl) (S.newBox hp (ho ms st S p hp)) (by simp only [Rep]; exact ⟨p, rfl, by rw [← S.len]; simp⟩)
  cases t with
  | false => exact L2.pe_dnewK.weak fun σ H Q h => mk (.dK []) σ H Q (fun _ _ _ _ _ => ⟨[], upd_same, by simp only [RepK]⟩) h
  | true => exact L2.pe_dnewT.weak fun σ H Q h => mk (.dT []) σ H Q (fun _ _ _ _ _ => ⟨[], upd_same, by simp only [RepT]⟩) h
end
end Z

set_option maxHeartbeats 1000000
/-! Calls, built-in functions, places, slices, targets, what is walked. -/
namespace Z
open PySem PySem.Spec PyProof.Rows
open L2 (V HO Hp SqL SqT Rd upd upd_same upd_ne ne_of ne_of_none Cx PE PT PS PSs PA PG PGs PI PW PO Inv VK TE TA TS TT RelV Vals Dp DpAll)

section
variable {X : Cx} {G : Ctx} {Γ : Gam} {C : CC} {lo : Nat} {W : L2.WX}

/-! ### calls -/
theorem t_call (L : Lk X G Γ C) (tk : L2.Takes X W) {f : Nat} {n : String} {x : Str} {e : Expr} {es : List Expr} {d : Env → Sto → R (List PV)} {p pos : Pos} (hf : C.fnm f = some n) (hx : x = Str.ofString n) (hs : sane x = true) (hg : isGl C.sc x = true)
    (ha : PA X (e :: es) (tEs G lo W d)) (hst : ∀ y ∈ e :: es, isStar y = false) :
    PE X (.Call (.Name x p) (e :: es) [] pos) (tE G lo W fun ρ st => (d ρ st).bind fun xs st1 => Γ.fn f lo xs st1) := by
  obtain ⟨fa, fd, ps, k, h1, h2, h3, h4, F⟩ := L.fn f n hf
  refine (L2.pe_callS F h4 (L.glo hg) (hx ▸ h1) h2 h3 (fun σ => L2.passAt tk σ) ha (sane_d hs).1 (star_cons (hst e List.mem_cons_self)) (star_any fun y hy => hst y (List.mem_cons_of_mem _ hy))).weak fun σ H Q ⟨ms, ρ, st, hl, S, E, q⟩ => ?_
  exact ⟨ms, ρ, st, hl, S, E, q.bind1 (rep := RepL G) fun xs st1 ms1 H1 us e1 S1 r1 q1 => ⟨G.rsv, lo, ms1, st1, xs, e1.le S S1 hl, S1, r1, q1⟩⟩

/-! ### built-in functions -/
theorem bi_mem (L : Lk X G Γ C) {x : Str} {n : String} (hx : x = Str.ofString n) (hn : n ∈ biNames) : X.mg x = none := hx ▸ L.bi n hn
theorem t_biF (L : Lk X G Γ C) {x : Str} {n id : String} {e : Expr} {es : List Expr} {d : Env → Sto → R (List PV)} {p pos : Pos} {r : RB} {f : List PV → Sto → R PV} (hc : L2.CallR X (.builtin id) r) (hf : BiF G lo f r) (hx : x = Str.ofString n) (hn : n ∈ biNames)
    (hb : bootBuiltins x = some (.builtin id)) (hs : sane x = true) (hg : isGl C.sc x = true) (ha : PA X (e :: es) (tEs G lo W d)) (hst : ∀ y ∈ e :: es, isStar y = false) :
    PE X (.Call (.Name x p) (e :: es) [] pos) (tE G lo W fun ρ st => (d ρ st).bind f) :=
  (L2.pe_callB hc (L.glo hg) (bi_mem L hx hn) hb ha (sane_d hs).2.2 (sane_d hs).1 (star_cons (hst e List.mem_cons_self)) (star_any fun y hy => hst y (List.mem_cons_of_mem _ hy))).weak fun σ H Q ⟨ms, ρ, st, hl, S, E, q⟩ =>
    ⟨ms, ρ, st, hl, S, E, q.bind1 (rep := RepL G) fun xs st1 ms1 H1 us e1 S1 r1 q1 => hf ms1 st1 H1 xs us Q _ (e1.le S S1 hl) S1 r1 q1⟩
theorem t_biT (L : Lk X G Γ C) {x : Str} {n id : String} {e : Expr} {es : List Expr} {d : Env → Sto → R (List PV)} {p pos : Pos} {r : RB} {f : List PV → Sto → R PV} (hc : L2.CallR X (.type id) r) (hf : BiF G lo f r) (hx : x = Str.ofString n) (hn : n ∈ biNames)
    (hb : bootBuiltins x = some (.type id)) (hs : sane x = true) (hg : isGl C.sc x = true) (ha : PA X (e :: es) (tEs G lo W d)) (hst : ∀ y ∈ e :: es, isStar y = false) :
    PE X (.Call (.Name x p) (e :: es) [] pos) (tE G lo W fun ρ st => (d ρ st).bind f) :=
  (L2.pe_callTy hc (L.glo hg) (bi_mem L hx hn) hb ha (sane_d hs).2.2 (sane_d hs).1 (star_cons (hst e List.mem_cons_self)) (star_any fun y hy => hst y (List.mem_cons_of_mem _ hy))).weak fun σ H Q ⟨ms, ρ, st, hl, S, E, q⟩ =>
    ⟨ms, ρ, st, hl, S, E, q.bind1 (rep := RepL G) fun xs st1 ms1 H1 us e1 S1 r1 q1 => hf ms1 st1 H1 xs us Q _ (e1.le S S1 hl) S1 r1 q1⟩
/-- a rule that asks nothing serves what comes to nothing -/
theorem bi_bad {f : List PV → Sto → R PV} {r : RB} (h : ∀ xs st, f xs st = .bad) : BiF G lo f r := fun ms st H xs vs Q E _ _ _ q => by
  rw [h] at q
  exact q.elim
theorem t_bi (L : Lk X G Γ C) (b : Bi) (bx : Bool) {x : Str} {e : Expr} {es : List Expr} {d : Env → Sto → R (List PV)} {p pos : Pos} (hx : x = Str.ofString (biName b)) (hs : sane x = true) (hg : isGl C.sc x = true)
    (ha : PA X (e :: es) (tEs G lo W d)) (hst : ∀ y ∈ e :: es, isStar y = false) :
    PE X (.Call (.Name x p) (e :: es) [] pos) (tE G lo W fun ρ st => (d ρ st).bind (bfn b bx)) := by
  cases b with
  | len => exact t_biF L (id := "len") cb_len (L.K ▸ len_ok) hx (by decide) (hx ▸ PySem.boot_len) hs hg ha hst
  | listOf => exact t_biT L (id := "list") L2.call_list_of (L.K ▸ listOf_ok) hx (by decide) (hx ▸ (by decide +kernel)) hs hg ha hst
  | tupleOf => exact t_biT L (id := "tuple") L2.call_tuple_of (L.K ▸ tupleOf_ok) hx (by decide) (hx ▸ (by decide +kernel)) hs hg ha hst
  | sum => exact t_biF L (id := "sum") (L2.cr_sum L.calm) (L.K ▸ sum_ok) hx (by decide) (hx ▸ (by decide +kernel)) hs hg ha hst
  | all => exact t_biF L (id := "all") (L2.cr_all L.calm) (L.K ▸ all_ok) hx (by decide) (hx ▸ (by decide +kernel)) hs hg ha hst
  | max1 => exact t_biF L (id := "max") (L2.cr_max L.calm) (L.K ▸ max1_ok) hx (by decide) (hx ▸ (by decide +kernel)) hs hg ha hst
  | min1 => exact t_biF L (id := "min") (L2.cr_min L.calm) (L.K ▸ min1_ok) hx (by decide) (hx ▸ (by decide +kernel)) hs hg ha hst
  | max2 => exact t_biF L (id := "max") (L2.call_max2 L.calm) max2_ok hx (by decide) (hx ▸ (by decide +kernel)) hs hg ha hst
  | min2 => exact t_biF L (id := "min") (L2.call_min2 L.calm) min2_ok hx (by decide) (hx ▸ (by decide +kernel)) hs hg ha hst
  | abs => exact t_biF L (id := "abs") L2.call_abs abs_ok hx (by decide) (hx ▸ (by decide +kernel)) hs hg ha hst
  | int => exact t_biT L (id := "int") L2.call_int1 int_ok hx (by decide) (hx ▸ (by decide +kernel)) hs hg ha hst
  | str => exact t_biT L (id := "str") L2.call_str_int (bi_bad fun xs st => rfl) hx (by decide) (hx ▸ (by decide +kernel)) hs hg ha hst
  | dictOf => exact t_biT L (id := "dict") (L2.call_dictP L.calm) (bi_bad fun xs st => rfl) hx (by decide) (hx ▸ (by decide +kernel)) hs hg ha hst
  | sorted => exact t_biF L (id := "sorted") L2.cr_sorted (bi_bad fun xs st => rfl) hx (by decide) (hx ▸ (by decide +kernel)) hs hg ha hst
  | sortedSet => exact t_biF L (id := "sorted") L2.cr_sorted (bi_bad fun xs st => rfl) hx (by decide) (hx ▸ (by decide +kernel)) hs hg ha hst
  | lenSet => exact t_biF L (id := "len") cb_len (bi_bad fun xs st => rfl) hx (by decide) (hx ▸ PySem.boot_len) hs hg ha hst
  | sortedItems => exact t_biF L (id := "sorted") L2.cr_sorted (bi_bad fun xs st => rfl) hx (by decide) (hx ▸ (by decide +kernel)) hs hg ha hst

/-! ### isinstance -/
theorem ty_ok {ms : List Addr} {st : Sto} {H : Hp} {v : PV} {u : V} {t : Ty} {b : Bool} (S : SOk G ms st H) (r : Rep G ms st H v u) (h : isTy Γ st v t = some b) (ht : notCls t = true) :
    ∃ tv, L2.TyX G.K H u tv ∧ PySem.W.kitOne G.K tv (.type (tyName t)) = some b := by
  have fin : ∀ a : String, L2.TyX G.K H u (.type a) → L2.kitB a (tyName t) = some b → ∃ tv, L2.TyX G.K H u tv ∧ PySem.W.kitOne G.K tv (.type (tyName t)) = some b := fun a h1 h2 => ⟨_, h1, L2.kit_ty h2⟩
  have lstT : ∀ a vs, Rd H a (.lst vs) → L2.TyX G.K H (.ref a) (.type "list") := fun a vs h => by
    rcases h with h | ⟨o, h⟩
    · exact .base (.lst h)
    · exact .base (.frz h)
  cases v with
  | none =>
    simp only [Rep] at r
    subst r
    refine fin "NoneType" (.base .non) ?_
    cases t <;> first | (simp [notCls] at ht; done) | (simp [isTy] at h; subst h; decide +kernel)
  | bool c =>
    simp only [Rep] at r
    subst r
    refine fin "bool" (.base (.bl c)) ?_
    cases t <;> first | (simp [notCls] at ht; done) | (simp [isTy] at h; subst h; decide +kernel)
  | int i =>
    simp only [Rep] at r
    subst r
    refine fin "int" (.base (.int i)) ?_
    cases t <;> first | (simp [notCls] at ht; done) | (simp [isTy] at h; subst h; decide +kernel)
  | str s =>
    simp only [Rep] at r
    subst r
    refine fin "str" (.base (.str _)) ?_
    cases t <;> first | (simp [notCls] at ht; done) | (simp [isTy] at h; subst h; decide +kernel)
  | tup xs =>
    simp only [Rep] at r
    obtain ⟨a, vs, rfl, e2, _⟩ := r
    refine fin "tuple" (.base (.tup e2)) ?_
    cases t <;> first | (simp [notCls] at ht; done) | (simp [isTy] at h; subst h; decide +kernel)
  | lst xs =>
    simp only [Rep] at r
    obtain ⟨a, vs, rfl, e2, _⟩ := r
    refine fin "list" (lstT a vs e2.1) ?_
    cases t <;> first | (simp [notCls] at ht; done) | (simp [isTy] at h; subst h; decide +kernel)
  | dct t' xs => cases t <;> simp [isTy] at h
  | exc c => cases t <;> first | (simp [notCls] at ht; done) | (simp [isTy] at h; done)
  | kls c => cases t <;> first | (simp [notCls] at ht; done) | (simp [isTy] at h; done)
  | box i =>
    cases t <;> first | (simp [notCls] at ht; done) | skip
    all_goals simp only [isTy] at h
    all_goals first | (cases h; done) | skip
    split at h
    · rename_i xs hi
      cases h
      simp only [Rep] at r
      obtain ⟨a, rfl, e2⟩ := r
      obtain ⟨vs, e3, _⟩ := S.obj i _ a hi e2
      exact fin "list" (.base (.lst e3)) (by decide +kernel)
    · cases h
theorem t_isinst (L : Lk X G Γ C) {t : Ty} {x y : Str} {e : Expr} {d : Env → Sto → R PV} {p p2 pos : Pos} (hx : x = Str.ofString "isinstance") (hs : sane x = true) (hg : isGl C.sc x = true) (hy : y = Str.ofString (tyName t)) (hs2 : sane y = true) (hg2 : isGl C.sc y = true)
    (ht : notCls t = true) (ha : PE X e (tE G lo W d)) (hst : isStar e = false) :
    PE X (.Call (.Name x p) [e, .Name y p2] [] pos) (tE G lo W fun ρ st => (d ρ st).bind fun v st1 => ofOpt ((isTy Γ st1 v t).map .bool) st1) := by
  have hb : bootBuiltins y = some (.type (tyName t)) := by
    subst hy
    cases t <;> first | (simp [notCls] at ht; done) | decide +kernel
  have hn : tyName t ∈ biNames := by cases t <;> first | (simp [notCls] at ht; done) | decide
  have hp : PE X (.Name y p2) (L2.tC (.ty (tyName t))) := L2.pe_bltn (L.glo hg2) (bi_mem L hy hn) hb rfl (sane_d hs2).2.2 (sane_d hs2).1
  refine (L2.pe_callB L2.call_isi (L.glo hg) (bi_mem L hx (by decide)) (hx ▸ (by decide +kernel)) (L2.pa_cons ha (L2.pa_cons hp L2.pa_nil) (star_cons hst)) (sane_d hs).2.2 (sane_d hs).1 (star_cons hst) rfl).weak fun σ H Q ⟨ms, ρ, st, hl, S, E, q⟩ => ?_
  refine ⟨ms, ρ, st, hl, S, E, q.bind1 (rep := Rep G) fun v st1 ms1 H1 u e1 S1 r1 q1 => ?_⟩
  cases e : isTy Γ st1 v t with
  | none => rw [e] at q1; exact q1.elim
  | some b =>
    rw [e] at q1
    obtain ⟨tv, h1, h2⟩ := ty_ok S1 r1 e ht
    exact ⟨u, .ty (tyName t), tv, .type (tyName t), b, rfl, .ty _, L.K ▸ h1, L.K ▸ h2, q1.done S1 rep_boolI⟩

/-! ### places, slices -/
theorem plainIx {b : Expr} (h : isSlice b = false) : L2.PlainIx b := by
  intro o i
  cases b <;> first | rfl | (simp [isSlice] at h)
theorem t_idx (L : Lk X G Γ C) {a i : Expr} {da di : Env → Sto → R PV} {pos : Pos} (h : isSlice i = false) (ha : PE X a (tE G lo W da)) (hi : PE X i (tE G lo W di)) :
    PE X (.Subscript a i pos) (tE G lo W fun ρ st => (da ρ st).bind fun x st1 => (di ρ st1).bind fun y st2 => idxf x y st2) :=
  (L2.pe_ix (op_ix (by have := L.hu; omega)) ha hi (plainIx h)).weak fun σ H Q h => two_parts (L.K ▸ idx_ok) σ H Q h
def tO (G : Ctx) (lo : Nat) (W : L2.WX) (d : Env → Sto → R (Option Int)) : L2.TO := fun σ H Q => ∃ ms ρ st, lo ≤ st.length ∧ SOk G ms st H ∧ EOk G ms st H ρ σ ∧ Res G (fun _ _ _ a b => b = a) lo ms st H (d ρ st) Q fun c H' => W (.ref (G.ca c)) none σ H'
theorem po_weak {e : Option Expr} {t t' : L2.TO} (h : L2.PO X e t) (m : ∀ σ H Q, t' σ H Q → t σ H Q) : L2.PO X e t' := ⟨fun pins s σ H Q I q => h.run pins s σ H Q I (m σ H Q q)⟩
theorem t_none : L2.PO X none (tO G lo W (evalO Γ lo none)) := po_weak L2.po_none fun σ H Q ⟨ms, ρ, st, hl, S, E, q⟩ => by
  simp only [evalO] at q
  exact q.done S rfl
theorem t_some {e : Expr} {m : ME} (h : PE X e (tE G lo W (Z.eval Γ lo m))) : L2.PO X (some e) (tO G lo W (evalO Γ lo (some m))) := po_weak (L2.po_some h) fun σ H Q ⟨ms, ρ, st, hl, S, E, q⟩ => by
  simp only [evalO] at q
  refine ⟨ms, ρ, st, hl, S, E, q.bind1 (rep := Rep G) fun x st1 ms1 H1 u e1 S1 r1 q1 => ?_⟩
  cases x with
  | int i =>
    simp only [Rep] at r1
    exact ⟨i, r1, q1.done S1 rfl⟩
  | _ => exact q1.elim
theorem t_slice (L : Lk X G Γ C) {bx : Bool} {a : Expr} {l h : Option Expr} {da : Env → Sto → R PV} {dl dh : Env → Sto → R (Option Int)} {pos p2 : Pos} (ha : PE X a (tE G lo W da)) (hl : L2.PO X l (tO G lo W dl)) (hh : L2.PO X h (tO G lo W dh)) :
    PE X (.Subscript a (.Slice l h none p2) pos) (tE G lo W fun ρ st => (da ρ st).bind fun x st1 => (dl ρ st1).bind fun i st2 => (dh ρ st2).bind fun j st3 => slicef bx x i j st3) :=
  (L2.pe_slice op_sl ha hl hh).weak fun σ H Q ⟨ms, ρ, st, hlo, S, E, q⟩ => by
    refine ⟨ms, ρ, st, hlo, S, E, q.bind1 (rep := Rep G) fun x st1 ms1 H1 u e1 S1 r1 q1 => ?_⟩
    refine ⟨ms1, ρ, st1, e1.le S S1 hlo, S1, E.ext e1, q1.bind1 (rep := fun _ _ _ a b => b = a) fun i st2 ms2 H2 w e2 S2 r2 q2 => ?_⟩
    refine ⟨ms2, ρ, st2, e2.le S1 S2 (e1.le S S1 hlo), S2, (E.ext e1).ext e2, q2.bind1 (rep := fun _ _ _ a b => b = a) fun j st3 ms3 H3 w3 e3 S3 r3 q3 => ?_⟩
    subst r2; subst r3
    have := slice_ok (e3.le S2 S3 (e2.le S1 S2 (e1.le S S1 hlo))) S3 (Rep.ext e3 _ _ (Rep.ext e2 _ _ r1)) q3
    exact L.K ▸ this
end
end Z

set_option maxHeartbeats 1000000
/-! Targets, what is walked. -/
namespace Z
open PySem PySem.Spec PyProof.Rows
open L2 (V HO Hp SqL SqT Rd upd upd_same upd_ne ne_of ne_of_none Cx PE PT PS PSs PA PG PGs PI PW Inv VK TE TA TS TT TG TGs RelV Vals Dp DpAll)

section
variable {X : Cx} {G : Ctx} {Γ : Gam} {C : CC} {lo : Nat} {W : L2.WX}

/-! ### targets -/
theorem pg_or {e : Expr} {t t' : TG} (h : PG X e t) (h' : PG X e t') : PG X e (fun v σ H Q => t v σ H Q ∨ t' v σ H Q) := ⟨fun pins s σ H v u Q I r q => by
  rcases q with q | q
  · exact h.run pins s σ H v u Q I r q
  · exact h'.run pins s σ H v u Q I r q⟩
mutual
def gOf (K : PySem.W.Frag) : Tg → TG
  | .name i => L2.gName i
  | .tup l => fun v σ H Q => L2.gTup K l.length (gOfs K l) v σ H Q ∨ L2.gLst K l.length (gOfs K l) v σ H Q
def gOfs (K : PySem.W.Frag) : List Tg → TGs
  | [] => L2.gNil
  | t :: l => L2.gCons (gOf K t) (gOfs K l)
end
theorem assign_star {e : Expr} {es : List Expr} {env : PySem.Env} (h : isStar e = false) : assignEach (e :: es) env = (false, PySem.assign e env) :: assignEach es env := by
  cases e <;> first | (simp [isStar] at h; done) | rfl
theorem chkG_star {t : Tg} {e : Expr} (h : chkG C t e = true) : isStar e = false := by
  cases e <;> first | rfl | (cases t <;> simp [chkG] at h)
mutual
theorem pg_of (L : Lk X G Γ C) : ∀ (t : Tg) (e : Expr), chkG C t e = true → PG X e (gOf X.K t)
  | .name i, e, h => by
    cases e with
    | Name x p =>
      simp only [chkG, Bool.and_eq_true] at h
      obtain ⟨h1, h2⟩ := h
      have hn := nameAt_d h1
      exact L2.pg_name (by rw [L.N]; exact L.nd) (by rw [L.N]; exact hn.1) (L.loc' h2) (L.loc x h2)
    | _ => simp [chkG] at h
  | .tup l, e, h => by
    cases e with
    | Tuple es k p =>
      simp only [chkG] at h
      obtain ⟨h1, h2, h3⟩ := pgs_of L l es h
      simp only [gOf]
      exact pg_or (L2.pg_tup L.calm h1 h2 h3) (L2.pg_lst L.calm h1 h2 h3)
    | _ => simp [chkG] at h
theorem pgs_of (L : Lk X G Γ C) : ∀ (l : List Tg) (es : List Expr), chkGs C l es = true → PGs X es (gOfs X.K l) ∧ (assignEach es X.env).length = l.length ∧ (assignEach es X.env).findIdx? (·.1) = none
  | [], es, h => by
    cases es with
    | nil => exact ⟨L2.pgs_nil, rfl, rfl⟩
    | cons _ _ => simp [chkGs] at h
  | t :: l, es, h => by
    cases es with
    | nil => simp [chkGs] at h
    | cons e es =>
      simp only [chkGs, Bool.and_eq_true] at h
      obtain ⟨h1, h2, h3⟩ := pgs_of L l es h.2
      have hs := assign_star (es := es) (env := X.env) (chkG_star h.1)
      simp only [gOfs]
      refine ⟨L2.pgs_cons (pg_of L t e h.1) h1 (by rw [hs] <;> rfl), by rw [hs, List.length_cons, List.length_cons, h2], ?_⟩
      rw [hs, List.findIdx?_cons]
      simp [h3]
end
mutual
theorem assign_ok {K : PySem.W.Frag} {ms : List Addr} {st : Sto} {H : Hp} (hK : K = G.K) : ∀ (t : Tg) (d : PV) (u : V) (ρ ρ' : Env) (σ : L2.St) (Q : L2.St → Hp → Prop), Rep G ms st H d u → EOk G ms st H ρ σ → assign t d ρ = some ρ' →
    (∀ σ', EOk G ms st H ρ' σ' → (∀ i, i ∉ tgVars t → σ'[i]? = σ[i]?) → Q σ' H) → gOf K t u σ H Q
  | .name i, d, u, ρ, ρ', σ, Q, r, E, h, q => by
    simp only [assign, Option.some.injEq] at h
    subst h
    refine q _ (EOk.set r E) fun j hj => ?_
    simp only [tgVars, List.mem_singleton] at hj
    rw [List.getElem?_set_ne (fun z => hj z.symm)]
  | .tup l, d, u, ρ, ρ', σ, Q, r, E, h, q => by
    cases d with
    | tup xs =>
      simp only [Rep] at r
      obtain ⟨a, vs, rfl, e2, e3⟩ := r
      simp only [assign] at h
      simp only [gOf]
      simp only [tgVars] at q
      exact .inl ⟨a, vs, rfl, hK ▸ e2.sq, by rw [RepL.length _ _ e3]; exact (assigns_len l xs ρ ρ' h).symm, assigns_ok hK l xs vs ρ ρ' σ Q e3 E h q⟩
    | lst xs =>
      simp only [Rep] at r
      obtain ⟨a, vs, rfl, e2, e3⟩ := r
      simp only [assign] at h
      simp only [gOf]
      simp only [tgVars] at q
      exact .inr ⟨a, vs, rfl, hK ▸ e2.sq, by rw [RepL.length _ _ e3]; exact (assigns_len l xs ρ ρ' h).symm, assigns_ok hK l xs vs ρ ρ' σ Q e3 E h q⟩
    | _ => simp [assign] at h
theorem assigns_ok {K : PySem.W.Frag} {ms : List Addr} {st : Sto} {H : Hp} (hK : K = G.K) : ∀ (l : List Tg) (ds : List PV) (us : List V) (ρ ρ' : Env) (σ : L2.St) (Q : L2.St → Hp → Prop), RepL G ms st H ds us → EOk G ms st H ρ σ → assign.go l ds ρ = some ρ' →
    (∀ σ', EOk G ms st H ρ' σ' → (∀ i, i ∉ tgVarss l → σ'[i]? = σ[i]?) → Q σ' H) → gOfs K l us σ H Q
  | [], ds, us, ρ, ρ', σ, Q, r, E, h, q => by
    cases ds with
    | nil =>
      simp only [assign.go, Option.some.injEq] at h
      subst h
      simp only [RepL] at r
      simp only [gOfs]
      exact ⟨r, q σ E fun _ _ => rfl⟩
    | cons _ _ => simp [assign.go] at h
  | t :: l, ds, us, ρ, ρ', σ, Q, r, E, h, q => by
    cases ds with
    | nil => simp [assign.go] at h
    | cons d ds =>
      simp only [assign.go] at h
      obtain ⟨ρ1, h1, h2⟩ := Option.bind_eq_some_iff.mp h
      simp only [RepL] at r
      obtain ⟨u, us', rfl, r1, r2⟩ := r
      simp only [gOfs]
      refine ⟨u, us', rfl, assign_ok hK t d u ρ ρ1 σ _ r1 E h1 fun σ1 E1 k1 => ?_⟩
      refine assigns_ok hK l ds us' ρ1 ρ' σ1 Q r2 E1 h2 fun σ2 E2 k2 => q σ2 E2 fun i hi => ?_
      simp only [tgVarss, List.mem_append, not_or] at hi
      rw [k2 i hi.2, k1 i hi.1]
theorem assigns_len : ∀ (l : List Tg) (ds : List PV) (ρ ρ' : Env), assign.go l ds ρ = some ρ' → l.length = ds.length
  | [], ds, ρ, ρ', h => by
    cases ds with
    | nil => rfl
    | cons _ _ => simp [assign.go] at h
  | t :: l, ds, ρ, ρ', h => by
    cases ds with
    | nil => simp [assign.go] at h
    | cons d ds =>
      simp only [assign.go] at h
      obtain ⟨ρ1, h1, h2⟩ := Option.bind_eq_some_iff.mp h
      rw [List.length_cons, List.length_cons, assigns_len l ds ρ1 ρ' h2]
end

/-! ### what is walked -/
/-- J walks what src tells, wherever one is from there on -/
def SrcOk (G : Ctx) (lo : Nat) (ms : List Addr) (st : Sto) (H : Hp) (src : Src) (J : L2.It) : Prop := match src with
  | .fix ds => ∀ G' ms1 st1 H1, Carry G G' ms st H ms1 st1 H1 → (∀ i, ds.length ≤ i → J.stop i H1) ∧
      ∀ i d, ds[i]? = some d → J.go i H1 ∧ ∀ x H2, J.yld i H1 x H2 → (∀ a, H1 a ≠ none → H2 a = H1 a) ∧ Rep G' ms1 st1 H2 d x
  | .live i => ∃ a, ms[i]? = some a ∧ J = L2.Itl G.K a
  | .liveE _ => False
def tI (G : Ctx) (lo : Nat) (W : L2.WX) (d : Env → Sto → R Src) : L2.TI := fun σ H R => ∃ ms ρ st, lo ≤ st.length ∧ SOk G ms st H ∧ EOk G ms st H ρ σ ∧ Res G (SrcOk G lo) lo ms st H (d ρ st) R fun c H' => W (.ref (G.ca c)) none σ H'

theorem src_list {ms : List Addr} {st : Sto} {H : Hp} {xs : List PV} {a : Addr} {vs : List V} (f : FL G.rsv ms st H a vs) (r : RepL G ms st H xs vs) : SrcOk G lo ms st H (.fix xs) (L2.Itl G.K a) := fun G' ms1 st1 H1 e => by
  have f1 : FL G'.rsv ms1 st1 H1 a vs := e.rd _ _ f.1 f.2
  have r1 := RepL.carry e _ _ r
  have hl := RepL.length _ _ r
  refine ⟨fun i hi => ⟨vs, f1.sq, by omega⟩, fun i d hd => ?_⟩
  obtain ⟨v, hv, rv⟩ := RepL.get _ _ i d r1 hd
  refine ⟨⟨vs, v, f1.sq, hv⟩, fun x H2 ⟨e2, y⟩ => ?_⟩
  subst e2
  have := y vs f1.sq
  rw [hv] at this
  cases this
  exact ⟨fun _ _ => rfl, rv⟩
theorem src_tup {ms : List Addr} {st : Sto} {H : Hp} {xs : List PV} {a : Addr} {vs : List V} (f : FT G.K H a vs) (r : RepL G ms st H xs vs) : SrcOk G lo ms st H (.fix xs) (L2.Itt G.K a) := fun G' ms1 st1 H1 e => by
  have f1 : FT G.K H1 a vs := e.tp _ _ f
  have r1 := RepL.carry e _ _ r
  have hl := RepL.length _ _ r
  refine ⟨fun i hi => ⟨vs, f1.sq, by omega⟩, fun i d hd => ?_⟩
  obtain ⟨v, hv, rv⟩ := RepL.get _ _ i d r1 hd
  refine ⟨⟨vs, v, f1.sq, hv⟩, fun x H2 ⟨e2, y⟩ => ?_⟩
  subst e2
  have := y vs f1.sq
  rw [hv] at this
  cases this
  exact ⟨fun _ _ => rfl, rv⟩

theorem src_str {ms : List Addr} {st : Sto} {H : Hp} {s : Tx} : SrcOk G lo ms st H (.fix (s.map fun c => .str [c])) (L2.Its (toS s)) := fun G' ms1 st1 H1 e => by
  have hz : (toS s).cps.size = s.length := by simp [toS]
  refine ⟨fun i hi => by show (toS s).cps.size ≤ i; rw [hz]; simpa using hi, fun i d hd => ?_⟩
  rw [List.getElem?_map] at hd
  obtain ⟨c, hc, rfl⟩ := Option.map_eq_some_iff.mp hd
  have hi := (List.getElem?_eq_some_iff.mp hc).1
  refine ⟨by show i < (toS s).cps.size; rw [hz]; exact hi, fun x H2 ⟨e2, c', hc', ex⟩ => ?_⟩
  subst e2; subst ex
  have e3 : (toS s).cps[i]? = some c.toNat := by simp [toS, hc]
  rw [e3] at hc'
  cases hc'
  exact ⟨fun _ _ => rfl, by simp [Rep, toS]⟩
def rIt (K : PySem.W.Frag) : V → Hp → (L2.It → Hp → Prop) → Prop := fun x H R => (∃ a, x = .ref a ∧ (∃ xs, SqL K H a xs) ∧ R (L2.Itl K a) H) ∨ (∃ a, x = .ref a ∧ (∃ xs, SqT K H a xs) ∧ R (L2.Itt K a) H) ∨ ∃ z, x = .str z ∧ R (L2.Its z) H
open L2 in
theorem pi_val {tg e : Expr} {te : TE} (he : PE X e te) : PI X tg e (fun σ H R => te σ H fun x H1 => rIt X.K x H1 R) := by
  refine ⟨fun pins s σ H R I h => ?_⟩
  refine thn (he.run pins s σ H _ I h) fun v s1 ⟨x, H1, I1, r1, q1⟩ => ?_
  rcases q1 with ⟨a, e, ⟨xs, hq⟩, q⟩ | ⟨a, e, ⟨xs, hq⟩, q⟩ | ⟨z, e, q⟩
  · subst e
    cases r1
    obtain ⟨its, rv, p, hz⟩ := I1.list hq
    refine wpAny_pyIter_list p.isList ?_
    refine ⟨s1.heap.objs.size, [s1.heap.objs.size], _, _, H1, rfl, I1.kept (t' := s1.toks) fun b o e => Heap.get?_push_of_some _ e, turn_list a _, ⟨_, Heap.get?_push_size _ rfl, rfl, rfl⟩, fun b hb => ?_, q⟩
    have e : b = s1.heap.objs.size := by simpa using hb
    subst e
    exact I1.fpOk (Nat.le_refl _) (I1.hok.fresh (Nat.le_refl _))
  · subst e
    cases r1
    obtain ⟨its, rv, p, hz⟩ := I1.tuple hq
    refine wpAny_pyIter_tuple (show s1.heap.IsTuple a its.toArray from p) ?_
    refine ⟨s1.heap.objs.size, [s1.heap.objs.size], _, _, H1, rfl, I1.kept (t' := s1.toks) fun b o e => Heap.get?_push_of_some _ e, turn_tuple a _, ⟨_, Heap.get?_push_size _ rfl, rfl, rfl⟩, fun b hb => ?_, q⟩
    have e : b = s1.heap.objs.size := by simpa using hb
    subst e
    exact I1.fpOk (Nat.le_refl _) (I1.hok.fresh (Nat.le_refl _))
  · subst e
    obtain ⟨t, rfl⟩ := r1
    cases ha : z.cps.all (· < 128)
    · exact wpAny_pyIter_wide ha (pi_one (tk := s1.toks) I1 _ (turn_str _ z t "str_iterator" (.inr rfl)) ⟨_, Heap.get?_push_size _ rfl, rfl, rfl⟩ q)
    · exact wpAny_pyIter_ascii ha (pi_one (tk := s1.toks) I1 _ (turn_str _ z t "str_ascii_iterator" (.inl rfl)) ⟨_, Heap.get?_push_size _ rfl, rfl, rfl⟩ q)
theorem t_seq (L : Lk X G Γ C) {tg e : Expr} {d : Env → Sto → R PV} (he : PE X e (tE G lo W d)) : PI X tg e (tI G lo W fun ρ st => (d ρ st).bind srcOf) :=
  (pi_val he).weak fun σ H Q ⟨ms, ρ, st, hl, S, E, q⟩ => ⟨ms, ρ, st, hl, S, E, q.bind1 (rep := Rep G) fun x st1 ms1 H1 u e1 S1 r1 q1 => by
    rw [L.K]
    cases x with
    | lst xs =>
      simp only [srcOf] at q1
      simp only [Rep] at r1
      obtain ⟨a, vs, rfl, e2, e3⟩ := r1
      exact .inl ⟨a, rfl, ⟨vs, e2.sq⟩, q1.done S1 (src_list e2 e3)⟩
    | tup xs =>
      simp only [srcOf] at q1
      simp only [Rep] at r1
      obtain ⟨a, vs, rfl, e2, e3⟩ := r1
      exact .inr (.inl ⟨a, rfl, ⟨vs, e2.sq⟩, q1.done S1 (src_tup e2 e3)⟩)
    | str s =>
      simp only [srcOf] at q1
      simp only [Rep] at r1
      subst r1
      exact .inr (.inr ⟨_, rfl, q1.done S1 src_str⟩)
    | box i =>
      simp only [srcOf] at q1
      simp only [Rep] at r1
      obtain ⟨a, rfl, e2⟩ := r1
      split at q1
      · rename_i xs hi
        obtain ⟨vs, e3, e4⟩ := S1.obj i _ a hi e2
        exact .inl ⟨a, rfl, ⟨vs, .of e3⟩, q1.done S1 ⟨a, e2, rfl⟩⟩
      · exact q1.elim
    | _ => exact q1.elim⟩
theorem src_rng {ms : List Addr} {st : Sto} {H : Hp} {m : Int} {n : Nat} {xs : List PV} (hx : xs = (List.range n).map fun (k : Nat) => .int (m + k)) : SrcOk G lo ms st H (.fix xs) (L2.Itr m n) := fun G' ms1 st1 H1 e => by
  subst hx
  refine ⟨fun i hi => (by simp at hi; exact hi), fun i d hd => ?_⟩
  rw [List.getElem?_map] at hd
  obtain ⟨k, hk, rfl⟩ := Option.map_eq_some_iff.mp hd
  have hi := (List.getElem?_eq_some_iff.mp hk).1
  rw [List.length_range] at hi
  rw [List.getElem?_range hi] at hk
  cases hk
  exact ⟨hi, fun x H2 ⟨e2, ex⟩ => by subst e2; subst ex; exact ⟨fun _ _ => rfl, by simp [Rep]⟩⟩
theorem t_range1 (L : Lk X G Γ C) {tg e : Expr} {x : Str} {p pos : Pos} {m : ME} (hx : x = Str.ofString "range") (hg : isGl C.sc x = true) (he : PE X e (tE G lo W (Z.eval Γ lo m))) (hst : isStar e = false) :
    PI X tg (.Call (.Name x p) [e] [] pos) (tI G lo W (source Γ lo (.range1 m))) := by
  subst hx
  refine (L2.pi_range1 (L.glo hg) (L.bi "range" (by decide)) (L2.pa_cons he L2.pa_nil (star_cons hst)) (by rw [star_cons hst] <;> rfl)).weak fun σ H Q ⟨ms, ρ, st, hl, S, E, q⟩ => ?_
  simp only [source] at q
  refine ⟨ms, ρ, st, hl, S, E, q.bind1 (rep := Rep G) fun x st1 ms1 H1 u e1 S1 r1 q1 => ?_⟩
  cases x with
  | int n =>
    simp only at q1
    split at q1
    · rename_i hn
      simp only [Bool.and_eq_true, decide_eq_true_eq] at hn
      simp only [Rep] at r1
      subst r1
      exact ⟨n, rfl, by omega, by omega, q1.done S1 (src_rng (m := 0) (by simp))⟩
    · exact q1.elim
  | _ => exact q1.elim
theorem t_range2 (L : Lk X G Γ C) {tg e e' : Expr} {x : Str} {p pos : Pos} {m m' : ME} (hx : x = Str.ofString "range") (hg : isGl C.sc x = true) (he : PE X e (tE G lo W (Z.eval Γ lo m))) (he' : PE X e' (tE G lo W (Z.eval Γ lo m'))) (hst : isStar e = false) (hst' : isStar e' = false) :
    PI X tg (.Call (.Name x p) [e, e'] [] pos) (tI G lo W (source Γ lo (.range2 m m'))) := by
  subst hx
  refine (L2.pi_range2 (L.glo hg) (L.bi "range" (by decide)) (L2.pa_cons he (L2.pa_cons he' L2.pa_nil (star_cons hst')) (star_cons hst)) (by rw [star_cons hst, star_cons hst'] <;> rfl) (by rw [star_cons hst'] <;> rfl)).weak fun σ H Q ⟨ms, ρ, st, hl, S, E, q⟩ => ?_
  simp only [source] at q
  refine ⟨ms, ρ, st, hl, S, E, q.bind1 (rep := Rep G) fun x st1 ms1 H1 u e1 S1 r1 q1 => ?_⟩
  refine ⟨ms1, ρ, st1, e1.le S S1 hl, S1, E.ext e1, q1.bind1 (rep := Rep G) fun y st2 ms2 H2 u2 e2 S2 r2 q2 => ?_⟩
  split at q2
  · split at q2
    · rename_i hn
      simp only [Bool.and_eq_true, decide_eq_true_eq] at hn
      simp only [Rep] at r1 r2
      subst r1; subst r2
      exact ⟨_, _, rfl, ⟨by omega, by omega, by omega, by omega⟩, q2.done S2 (src_rng rfl)⟩
    · exact q2.elim
  · exact q2.elim
theorem pairs_get : ∀ (xs : List PV) (k i : Nat) (d : PV), (pairs k xs)[i]? = some d → ∃ x, xs[i]? = some x ∧ d = .tup [.int ((k + i : Nat) : Int), x]
  | [], k, i, d, h => by simp [pairs] at h
  | x :: xs, k, 0, d, h => by simp [pairs] at h; exact ⟨x, rfl, h.symm⟩
  | x :: xs, k, i + 1, d, h => by
    simp only [pairs, List.getElem?_cons_succ] at h
    obtain ⟨y, h1, h2⟩ := pairs_get xs (k + 1) i d h
    exact ⟨y, by simpa using h1, by rw [h2, show k + 1 + i = k + (i + 1) by omega]⟩
theorem pairs_len : ∀ (xs : List PV) (k : Nat), (pairs k xs).length = xs.length
  | [], k => rfl
  | x :: xs, k => by simp [pairs, pairs_len xs]
theorem zip_get : ∀ (xs ys : List PV) (i : Nat) (d : PV), (zipV xs ys)[i]? = some d → ∃ x y, xs[i]? = some x ∧ ys[i]? = some y ∧ d = .tup [x, y]
  | [], ys, i, d, h => by simp [zipV] at h
  | x :: xs, [], i, d, h => by simp [zipV] at h
  | x :: xs, y :: ys, 0, d, h => by simp [zipV] at h; exact ⟨x, y, rfl, rfl, h.symm⟩
  | x :: xs, y :: ys, i + 1, d, h => by
    simp only [zipV, List.getElem?_cons_succ] at h
    obtain ⟨a, b, h1, h2, h3⟩ := zip_get xs ys i d h
    exact ⟨a, b, by simpa using h1, by simpa using h2, h3⟩
theorem zip_len : ∀ (xs ys : List PV), (zipV xs ys).length = min xs.length ys.length
  | [], ys => by simp [zipV]
  | x :: xs, [] => by simp [zipV]
  | x :: xs, y :: ys => by
    simp only [zipV, List.length_cons, zip_len xs ys]
    omega
/-- a pair that is handed out -/
theorem pair_rep {ms : List Addr} {st : Sto} {H : Hp} {x y : PV} {u v : V} {T : Addr} (hT : H T = none) (rx : Rep G ms st H x u) (ry : Rep G ms st H y v) : (∀ a, H a ≠ none → upd H T (.tup [u, v]) a = H a) ∧ Rep G ms st (upd H T (.tup [u, v])) (.tup [x, y]) (.ref T) := by
  have e := Ext.grow (rs := G.rsv) (lo := 0) (ms := ms) (st := st) (upd_grow (o := .tup [u, v]) hT)
  refine ⟨upd_grow hT, ?_⟩
  simp only [Rep]
  refine ⟨T, _, rfl, upd_same, ?_⟩
  simp only [RepL]
  exact ⟨u, [v], rfl, Rep.ext e _ _ rx, v, [], rfl, Rep.ext e _ _ ry, rfl⟩
theorem src_enum {ms : List Addr} {st : Sto} {H : Hp} {xs : List PV} {a : Addr} {vs : List V} (f : FL G.rsv ms st H a vs) (r : RepL G ms st H xs vs) : SrcOk G lo ms st H (.fix (pairs 0 xs)) (L2.Ite G.K a) := fun G' ms1 st1 H1 e => by
  have f1 : FL G'.rsv ms1 st1 H1 a vs := e.rd _ _ f.1 f.2
  have r1 := RepL.carry e _ _ r
  have hl := RepL.length _ _ r
  refine ⟨fun i hi => ⟨vs, f1.sq, by rw [pairs_len] at hi; omega⟩, fun i d hd => ?_⟩
  obtain ⟨d', hd', rfl⟩ := pairs_get xs 0 i d hd
  obtain ⟨v, hv, rv⟩ := RepL.get _ _ i d' r1 hd'
  refine ⟨⟨vs, v, f1.sq, hv⟩, fun x H2 ⟨T, y, ex, hT, eH, hy⟩ => ?_⟩
  subst ex; subst eH
  have := hy vs f1.sq
  rw [hv] at this
  cases this
  exact pair_rep hT (by simp [Rep]) rv
theorem src_zip {ms : List Addr} {st : Sto} {H : Hp} {xs ys : List PV} {a b : Addr} {vs ws : List V} (f : FL G.rsv ms st H a vs) (r : RepL G ms st H xs vs) (f' : FL G.rsv ms st H b ws) (r' : RepL G ms st H ys ws) : SrcOk G lo ms st H (.fix (zipV xs ys)) (L2.Itz G.K a b) := fun G' ms1 st1 H1 e => by
  have f1 : FL G'.rsv ms1 st1 H1 a vs := e.rd _ _ f.1 f.2
  have r1 := RepL.carry e _ _ r
  have hl := RepL.length _ _ r
  have f2 : FL G'.rsv ms1 st1 H1 b ws := e.rd _ _ f'.1 f'.2
  have r2 := RepL.carry e _ _ r'
  have hl2 := RepL.length _ _ r'
  refine ⟨fun i hi => ⟨vs, ws, f1.sq, f2.sq, by rw [zip_len] at hi; omega⟩, fun i d hd => ?_⟩
  obtain ⟨d1, d2, h1, h2, rfl⟩ := zip_get xs ys i d hd
  obtain ⟨v, hv, rv⟩ := RepL.get _ _ i d1 r1 h1
  obtain ⟨w, hw, rw'⟩ := RepL.get _ _ i d2 r2 h2
  refine ⟨⟨vs, ws, v, w, f1.sq, f2.sq, hv, hw⟩, fun x H2 ⟨T, y, z, ex, hT, eH, hy, hz⟩ => ?_⟩
  subst ex; subst eH
  have q1 := hy vs f1.sq
  have q2 := hz ws f2.sq
  rw [hv] at q1
  rw [hw] at q2
  cases q1
  cases q2
  exact pair_rep hT rv rw'
theorem t_enum (L : Lk X G Γ C) {tg e : Expr} {x : Str} {p pos : Pos} {m : ME} (ht : isTupTg tg = true) (hx : x = Str.ofString "enumerate") (hg : isGl C.sc x = true) (he : PE X e (tE G lo W (Z.eval Γ lo m))) (hst : isStar e = false) :
    PI X tg (.Call (.Name x p) [e] [] pos) (tI G lo W (source Γ lo (.enum m))) := by
  subst hx
  cases tg with
  | Tuple elts k tp =>
    refine (L2.pi_enum (L.glo hg) (L.bi "enumerate" (by decide)) (L2.pa_cons he L2.pa_nil (star_cons hst)) (by rw [star_cons hst] <;> rfl)).weak fun σ H Q ⟨ms, ρ, st, hl, S, E, q⟩ => ?_
    simp only [source] at q
    refine ⟨ms, ρ, st, hl, S, E, q.bind1 (rep := Rep G) fun x st1 ms1 H1 u e1 S1 r1 q1 => ?_⟩
    cases x with
    | lst xs =>
      simp only [Rep] at r1
      obtain ⟨a, vs, rfl, e2, e3⟩ := r1
      exact ⟨a, vs, rfl, e2.sq, L.K ▸ q1.done S1 (src_enum e2 e3)⟩
    | _ => exact q1.elim
  | _ => simp [isTupTg] at ht
theorem t_zip (L : Lk X G Γ C) {tg e e' : Expr} {x : Str} {p pos : Pos} {m m' : ME} (ht : isTupTg tg = true) (hx : x = Str.ofString "zip") (hg : isGl C.sc x = true) (he : PE X e (tE G lo W (Z.eval Γ lo m))) (he' : PE X e' (tE G lo W (Z.eval Γ lo m'))) (hst : isStar e = false) (hst' : isStar e' = false) :
    PI X tg (.Call (.Name x p) [e, e'] [] pos) (tI G lo W (source Γ lo (.zip m m'))) := by
  subst hx
  cases tg with
  | Tuple elts k tp =>
    refine (L2.pi_zip (L.glo hg) (L.bi "zip" (by decide)) (L2.pa_cons he (L2.pa_cons he' L2.pa_nil (star_cons hst')) (star_cons hst)) (star_cons hst) (by rw [star_cons hst'] <;> rfl)).weak fun σ H Q ⟨ms, ρ, st, hl, S, E, q⟩ => ?_
    simp only [source] at q
    refine ⟨ms, ρ, st, hl, S, E, q.bind1 (rep := Rep G) fun x st1 ms1 H1 u e1 S1 r1 q1 => ?_⟩
    refine ⟨ms1, ρ, st1, e1.le S S1 hl, S1, E.ext e1, q1.bind1 (rep := Rep G) fun y st2 ms2 H2 u2 e2 S2 r2 q2 => ?_⟩
    split at q2
    · have r1' := Rep.ext e2 _ _ r1
      simp only [Rep] at r1' r2
      obtain ⟨a, vs, rfl, e3, e4⟩ := r1'
      obtain ⟨b, ws, rfl, e5, e6⟩ := r2
      exact ⟨a, b, vs, ws, rfl, L.K ▸ e3.sq, L.K ▸ e5.sq, L.K ▸ q2.done S2 (src_zip e3 e4 e5 e6)⟩
    · exact q2.elim
  | _ => simp [isTupTg] at ht
end
end Z

set_option maxHeartbeats 1000000
/-! Comprehensions. -/
namespace Z
open PySem PySem.Spec PyProof.Rows
open L2 (V HO Hp SqL SqT Rd upd upd_same upd_ne ne_of ne_of_none Cx PE PT PS PSs PA PG PGs PI PW Inv VK TE TA TS TT TG TGs RelV Vals Dp DpAll)

section
variable {X : Cx} {G : Ctx} {Γ : Gam} {C : CC} {lo : Nat} {W : L2.WX}

/-- with one thing more that is being made -/
abbrev Ctx.plus (G : Ctx) (D : Addr) : Ctx := ⟨G.K, G.ca, D :: G.rsv⟩
theorem Free.less {ms : List Addr} {st : Sto} {a D : Addr} (h : Free (G.plus D).rsv ms st a) : Free G.rsv ms st a := ⟨fun q => h.1 (List.mem_cons_of_mem _ q), h.2⟩
mutual
theorem Rep.less {D : Addr} {ms : List Addr} {st : Sto} {H : Hp} : ∀ (d : PV) (v : V), Rep (G.plus D) ms st H d v → Rep G ms st H d v
  | .none, v, h => by simpa only [Rep] using h
  | .bool b, v, h => by simpa only [Rep] using h
  | .int i, v, h => by simpa only [Rep] using h
  | .str s, v, h => by simpa only [Rep] using h
  | .tup ds, v, h => by
    simp only [Rep] at h ⊢
    obtain ⟨a, vs, e1, e2, e3⟩ := h
    exact ⟨a, vs, e1, e2, RepL.less ds vs e3⟩
  | .lst ds, v, h => by
    simp only [Rep] at h ⊢
    obtain ⟨a, vs, e1, e2, e3⟩ := h
    exact ⟨a, vs, e1, ⟨e2.1, Free.less e2.2⟩, RepL.less ds vs e3⟩
  | .dct false kvs, v, h => by
    simp only [Rep] at h ⊢
    obtain ⟨a, l, e1, f, r, h⟩ := h
    exact ⟨a, l, e1, Free.less f, r, RepK.less kvs l h⟩
  | .dct true kvs, v, h => by
    simp only [Rep] at h ⊢
    obtain ⟨a, l, e1, f, r, h⟩ := h
    exact ⟨a, l, e1, Free.less f, r, RepT.less kvs l h⟩
  | .box i, v, h => by simpa only [Rep] using h
  | .exc c, v, h => by
    simp only [Rep] at h ⊢
    obtain ⟨a, e1, e2, f⟩ := h
    exact ⟨a, e1, e2, Free.less f⟩
  | .kls ns, v, h => by
    simp only [Rep] at h ⊢
    obtain ⟨a, e1, e2⟩ := h
    exact ⟨a, e1, e2.imp (fun e2 => ⟨e2.1, Free.less e2.2⟩) id⟩
theorem RepL.less {D : Addr} {ms : List Addr} {st : Sto} {H : Hp} : ∀ (ds : List PV) (vs : List V), RepL (G.plus D) ms st H ds vs → RepL G ms st H ds vs
  | [], vs, h => by simpa only [RepL] using h
  | d :: ds, vs, h => by
    simp only [RepL] at h ⊢
    obtain ⟨v, r, e1, e2, e3⟩ := h
    exact ⟨v, r, e1, Rep.less d v e2, RepL.less ds r e3⟩
theorem RepK.less {D : Addr} {ms : List Addr} {st : Sto} {H : Hp} : ∀ (ds : List (DK × PV)) (vs : List (L2.Key × V)), RepK (G.plus D) ms st H ds vs → RepK G ms st H ds vs
  | [], vs, h => by simpa only [RepK] using h
  | (k, d) :: ds, vs, h => by
    simp only [RepK] at h ⊢
    obtain ⟨ka, v, l', e1, e2, e3, e4⟩ := h
    exact ⟨ka, v, l', e1, e2, Rep.less d v e3, RepK.less ds l' e4⟩
theorem RepT.less {D : Addr} {ms : List Addr} {st : Sto} {H : Hp} : ∀ (ds : List (DK × PV)) (vs : List (List L2.Key × V)), RepT (G.plus D) ms st H ds vs → RepT G ms st H ds vs
  | [], vs, h => by simpa only [RepT] using h
  | (k, d) :: ds, vs, h => by
    simp only [RepT] at h ⊢
    obtain ⟨ka, v, l', e1, e2, e3, e4⟩ := h
    exact ⟨ka, v, l', e1, e2, Rep.less d v e3, RepT.less ds l' e4⟩
end
theorem RepF.less {D : Addr} {ms : List Addr} {st : Sto} {H : Hp} : ∀ (ds : List (String × PV)) (vs : List (Str × V)), RepF (G.plus D) ms st H ds vs → RepF G ms st H ds vs
  | [], vs, h => by simpa only [RepF] using h
  | (k, d) :: ds, vs, h => by
    simp only [RepF] at h ⊢
    obtain ⟨v, l', e2, e3, e4⟩ := h
    exact ⟨v, l', e2, Rep.less d v e3, RepF.less ds l' e4⟩
theorem ObjR.less {D : Addr} {ms : List Addr} {st : Sto} {H : Hp} {o : PO} {a : Addr} (h : ObjR (G.plus D) ms st H o a) : ObjR G ms st H o a := by
  cases o with
  | dead => trivial
  | lst xs => obtain ⟨vs, h1, h2⟩ := h; exact ⟨vs, h1, RepL.less _ _ h2⟩
  | dct t kvs => cases t <;> (obtain ⟨vs, h1, h2⟩ := h; first | exact ⟨vs, h1, RepK.less _ _ h2⟩ | exact ⟨vs, h1, RepT.less _ _ h2⟩)
  | inst c fs => obtain ⟨dx, vs, h1, h2⟩ := h; exact ⟨dx, vs, h1, RepF.less _ _ h2⟩
theorem SOk.less {D : Addr} {ms : List Addr} {st : Sto} {H : Hp} (S : SOk (G.plus D) ms st H) : SOk G ms st H :=
  ⟨S.len, S.inj, fun i o a h1 h2 => (S.obj i o a h1 h2).less, fun i a h1 h2 h3 => S.out i a h1 h2 (List.mem_cons_of_mem _ h3), fun a h => S.rsv a (List.mem_cons_of_mem _ h)⟩
/-- a step that leaves the thing that is made alone, seen from outside -/
theorem Ext.less {D : Addr} {ms ms1 : List Addr} {st st1 : Sto} {H H1 : Hp} {o : HO} (e : Ext (G.plus D).rsv lo ms st (upd H D o) ms1 st1 H1) (hD : H D = none) (hr : ∀ a ∈ G.rsv, H a ≠ none) : Ext G.rsv lo ms st H ms1 st1 H1 where
  pre := e.pre
  keep := fun a u r f => by
    have ne : a ≠ D := fun z => by subst z; exact Rd.ne_none r hD
    refine e.keep a u ?_ ⟨fun q => (List.mem_cons.mp q).elim ne f.1, f.2⟩
    rcases r with r | ⟨o', r⟩
    · exact .inl (by rw [upd_ne ne]; exact r)
    · exact .inr ⟨o', by rw [upd_ne ne]; exact r⟩
  tup := fun a vs h => e.tup a vs (by rw [upd_ne (ne_of_none h hD)]; exact h)
  dom := fun a h => e.dom a (by rw [upd_ne (fun z => by subst z; exact h hD)]; exact h)
  alv := e.alv
  new := fun i a h q => by
    have := e.new i a h q
    by_cases z : a = D
    · subst z; exact hD
    · rw [upd_ne z] at this; exact this
  low := e.low
  rsv := fun a ha h => by
    have ne : a ≠ D := fun z => by subst z; exact h hD
    rw [e.rsv a (List.mem_cons_of_mem _ ha) (by rw [upd_ne ne]; exact h), upd_ne ne]
section
variable {D : Addr} {ms : List Addr} {st : Sto} {H : Hp} {o : HO}
theorem rd_more (hD : H D = none) {a : Addr} {u : HO} (r : Rd H a u) : Rd (upd H D o) a u := by
  have ne : a ≠ D := fun z => by subst z; exact Rd.ne_none r hD
  rcases r with r | ⟨o', r⟩
  · exact .inl (by rw [upd_ne ne]; exact r)
  · exact .inr ⟨o', by rw [upd_ne ne]; exact r⟩
theorem free_more (hD : H D = none) {a : Addr} {u : HO} (r : Rd H a u) (f : Free G.rsv ms st a) : Free (G.plus D).rsv ms st a :=
  ⟨fun q => (List.mem_cons.mp q).elim (fun z => by subst z; exact Rd.ne_none r hD) f.1, f.2⟩
mutual
theorem Rep.more (hD : H D = none) : ∀ (d : PV) (v : V), Rep G ms st H d v → Rep (G.plus D) ms st (upd H D o) d v
  | .none, v, h => by simpa only [Rep] using h
  | .bool b, v, h => by simpa only [Rep] using h
  | .int i, v, h => by simpa only [Rep] using h
  | .str s, v, h => by simpa only [Rep] using h
  | .tup ds, v, h => by
    simp only [Rep] at h ⊢
    obtain ⟨a, vs, e1, e2, e3⟩ := h
    exact ⟨a, vs, e1, (upd_ne (ne_of_none e2 hD)).trans e2, RepL.more hD ds vs e3⟩
  | .lst ds, v, h => by
    simp only [Rep] at h ⊢
    obtain ⟨a, vs, e1, e2, e3⟩ := h
    exact ⟨a, vs, e1, ⟨rd_more hD e2.1, free_more hD e2.1 e2.2⟩, RepL.more hD ds vs e3⟩
  | .dct false kvs, v, h => by
    simp only [Rep] at h ⊢
    obtain ⟨a, l, e1, f, r, h⟩ := h
    exact ⟨a, l, e1, free_more hD r f, rd_more hD r, RepK.more hD kvs l h⟩
  | .dct true kvs, v, h => by
    simp only [Rep] at h ⊢
    obtain ⟨a, l, e1, f, r, h⟩ := h
    exact ⟨a, l, e1, free_more hD r f, rd_more hD r, RepT.more hD kvs l h⟩
  | .box i, v, h => by simpa only [Rep] using h
  | .exc c, v, h => by
    simp only [Rep] at h ⊢
    obtain ⟨a, e1, e2, f⟩ := h
    exact ⟨a, e1, rd_more hD e2, free_more hD e2 f⟩
  | .kls ns, v, h => by
    simp only [Rep] at h ⊢
    obtain ⟨a, e1, e2⟩ := h
    exact ⟨a, e1, e2.imp (fun e2 => ⟨rd_more hD e2.1, free_more hD e2.1 e2.2⟩) id⟩
theorem RepL.more (hD : H D = none) : ∀ (ds : List PV) (vs : List V), RepL G ms st H ds vs → RepL (G.plus D) ms st (upd H D o) ds vs
  | [], vs, h => by simpa only [RepL] using h
  | d :: ds, vs, h => by
    simp only [RepL] at h ⊢
    obtain ⟨v, r, e1, e2, e3⟩ := h
    exact ⟨v, r, e1, Rep.more hD d v e2, RepL.more hD ds r e3⟩
theorem RepK.more (hD : H D = none) : ∀ (ds : List (DK × PV)) (vs : List (L2.Key × V)), RepK G ms st H ds vs → RepK (G.plus D) ms st (upd H D o) ds vs
  | [], vs, h => by simpa only [RepK] using h
  | (k, d) :: ds, vs, h => by
    simp only [RepK] at h ⊢
    obtain ⟨ka, v, l', e1, e2, e3, e4⟩ := h
    exact ⟨ka, v, l', e1, e2, Rep.more hD d v e3, RepK.more hD ds l' e4⟩
theorem RepT.more (hD : H D = none) : ∀ (ds : List (DK × PV)) (vs : List (List L2.Key × V)), RepT G ms st H ds vs → RepT (G.plus D) ms st (upd H D o) ds vs
  | [], vs, h => by simpa only [RepT] using h
  | (k, d) :: ds, vs, h => by
    simp only [RepT] at h ⊢
    obtain ⟨ka, v, l', e1, e2, e3, e4⟩ := h
    exact ⟨ka, v, l', e1, e2, Rep.more hD d v e3, RepT.more hD ds l' e4⟩
end
theorem RepF.more (hD : H D = none) : ∀ (ds : List (String × PV)) (vs : List (Str × V)), RepF G ms st H ds vs → RepF (G.plus D) ms st (upd H D o) ds vs
  | [], vs, h => by simpa only [RepF] using h
  | (k, d) :: ds, vs, h => by
    simp only [RepF] at h ⊢
    obtain ⟨v, l', e2, e3, e4⟩ := h
    exact ⟨v, l', e2, Rep.more hD d v e3, RepF.more hD ds l' e4⟩
theorem EOk.more (hD : H D = none) : ∀ (ρ : Env) (σ : L2.St), EOk G ms st H ρ σ → EOk (G.plus D) ms st (upd H D o) ρ σ
  | [], σ, h => by simpa only [EOk] using h
  | p :: ρ, σ, h => by
    simp only [EOk] at h ⊢
    obtain ⟨v, σ', e1, e2, e3⟩ := h
    exact ⟨v, σ', e1, fun d hd => let ⟨u, q, r⟩ := e2 d hd; ⟨u, q, Rep.more hD d u r⟩, EOk.more hD ρ σ' e3⟩
/-- in a state with the new list at D: all that was there, is there -/
theorem SOk.more (S : SOk G ms st H) (hD : H D = none) : SOk (G.plus D) ms st (upd H D o) := by
  refine ⟨S.len, S.inj, fun i q a h1 h2 => ?_, fun i a h1 h2 h3 => ?_, fun a ha => ?_⟩
  · have x := S.obj i q a h1 h2
    have ne : ∀ u, H a = some u → upd H D o a = some u := fun u e => (upd_ne (ne_of_none e hD)).trans e
    cases q with
    | dead => trivial
    | lst xs => obtain ⟨vs, h1, h2⟩ := x; exact ⟨vs, ne _ h1, RepL.more hD _ _ h2⟩
    | dct t kvs => cases t <;> (obtain ⟨vs, h1, h2⟩ := x; first | exact ⟨vs, ne _ h1, RepK.more hD _ _ h2⟩ | exact ⟨vs, ne _ h1, RepT.more hD _ _ h2⟩)
    | inst c fs => obtain ⟨dx, vs, h1, h2⟩ := x; exact ⟨dx, vs, ne _ h1, RepF.more hD _ _ h2⟩
  · rcases List.mem_cons.mp h3 with z | z
    · subst z
      obtain ⟨q, e1, e2⟩ := h1
      exact (S.obj i q a e1 h2).there e2 hD
    · exact S.out i a h1 h2 z
  · rcases List.mem_cons.mp ha with z | z
    · subst z; rw [upd_same]; simp
    · rw [upd_ne (fun q => by subst q; exact S.rsv a z hD)]
      exact S.rsv a z
end

/-- the thing that was made goes into the store -/
theorem adopt_carry {D : Addr} {ms : List Addr} {st : Sto} {H : Hp} {o : PO} (S : SOk (G.plus D) ms st H) : Carry (G.plus D) G ms st H (ms ++ [D]) (st ++ [o]) H where
  K := rfl
  ca := rfl
  rd := fun a u r f => ⟨r, fun h => f.1 (List.mem_cons_of_mem _ h), fun i al e => by
    by_cases hi : i < st.length
    · rw [List.getElem?_append_left (by rw [S.len]; exact hi)] at e
      exact f.2 i (alive_append al hi) e
    · have h2 := (List.getElem?_eq_some_iff.mp e).1
      rw [List.length_append, List.length_singleton, S.len] at h2
      obtain rfl : i = st.length := by omega
      rw [← S.len, List.getElem?_append_right (Nat.le_refl _), Nat.sub_self] at e
      obtain rfl : D = a := by simpa using e
      exact f.1 List.mem_cons_self⟩
  tp := fun _ _ h => h
  bx := fun i a h => by rw [List.getElem?_append_left (List.getElem?_eq_some_iff.mp h).1]; exact h
theorem SOk.adopt {D : Addr} {ms : List Addr} {st : Sto} {H : Hp} {xs : List PV} {vs : List V} (S : SOk (G.plus D) ms st H) (hD : H D = some (.lst vs)) (r : RepL (G.plus D) ms st H xs vs) (nd : D ∉ G.rsv) :
    SOk G (ms ++ [D]) (st ++ [.lst xs]) H := by
  have c := adopt_carry (o := .lst xs) S
  have old : ∀ {i : Nat} {a : Addr}, i < st.length → (ms ++ [D])[i]? = some a → ms[i]? = some a := fun hi h => by
    rw [List.getElem?_append_left (by rw [S.len]; exact hi)] at h
    exact h
  have last : ∀ {i : Nat} {a : Addr}, ¬ i < st.length → (ms ++ [D])[i]? = some a → i = st.length ∧ a = D := fun {i a} hi h => by
    have h2 := (List.getElem?_eq_some_iff.mp h).1
    rw [List.length_append, List.length_singleton, S.len] at h2
    obtain rfl : i = st.length := by omega
    rw [← S.len, List.getElem?_append_right (Nat.le_refl _), Nat.sub_self] at h
    exact ⟨rfl, by simpa using h.symm⟩
  have ne : ∀ {i : Nat}, alive st i → ms[i]? ≠ some D := fun al e => S.out _ D al e List.mem_cons_self
  refine ⟨by simp [S.len], fun i j a ai aj hi hj => ?_, fun i q a h1 h2 => ?_, fun i a ai hi => ?_, fun a ha => S.rsv a (List.mem_cons_of_mem _ ha)⟩
  · by_cases ci : i < st.length
    · by_cases cj : j < st.length
      · exact S.inj i j a (alive_append ai ci) (alive_append aj cj) (old ci hi) (old cj hj)
      · obtain ⟨rfl, rfl⟩ := last cj hj
        exact absurd (old ci hi) (ne (alive_append ai ci))
    · obtain ⟨rfl, rfl⟩ := last ci hi
      by_cases cj : j < st.length
      · exact absurd (old cj hj) (ne (alive_append aj cj))
      · exact (last cj hj).1.symm
  · by_cases ci : i < st.length
    · rw [List.getElem?_append_left ci] at h1
      exact (S.obj i q a h1 (old ci h2)).carry c fun _ e => e
    · obtain ⟨rfl, rfl⟩ := last ci h2
      rw [List.getElem?_append_right (Nat.le_refl _), Nat.sub_self] at h1
      obtain rfl : PO.lst xs = q := by simpa using h1
      exact ⟨vs, hD, RepL.carry c _ _ r⟩
  · by_cases ci : i < st.length
    · exact fun h => S.out i a (alive_append ai ci) (old ci hi) (List.mem_cons_of_mem _ h)
    · obtain ⟨rfl, rfl⟩ := last ci hi
      exact nd

/-! ### where a block stands -/
theorem relS_eq (scope : Scope) (env : PySem.Env) : PySem.relabel scope env = L2.relS scope env.scope := rfl
theorem Lk.blk (L : Lk X G Γ C) {s : Shared} {H : Hp} {scope : Scope} {cl : List (Str × Addr)} {D A : Addr} {fp : List Addr} :
    Lk (X.blk s H scope (compEnvC scope cl A X.env) fp) (G.plus D) Γ { C with sc := L2.relS scope C.sc, fnc := fun x => scope.names.lookup x == some .cell } where
  K := L.K
  N := L.N
  nd := L.nd
  sc := by show PySem.relabel scope X.env = _; rw [relS_eq, L.sc]
  calm := L.calm
  loc := fun x h => by
    have e : (compEnvC scope cl A X.env).scope = L2.relS scope C.sc := by show PySem.relabel scope X.env = _; rw [relS_eq, L.sc]
    show (scope.names.lookup x == some .cell) = true ∨ (compEnvC scope cl A X.env).scope.names.lookup x = some .local
    rw [e]
    unfold canStore at h
    split at h
    · rename_i q
      exact .inr q
    · exact .inl h
    · cases h
  room := L.room
  fn := L.fn
  bi := L.bi
  gl := L.gl
end
end Z

set_option maxHeartbeats 2000000
/-! Comprehensions: the rule. -/
namespace Z
open PySem PySem.Spec PyProof.Rows
open L2 (V HO Hp SqL SqT Rd upd upd_same upd_ne ne_of ne_of_none Cx PE PT PS PSs PA PG PGs PI PW Inv VK TE TA TS TT TG TGs RelV Vals Dp DpAll)

section
variable {X : Cx} {G : Ctx} {Γ : Gam} {C : CC} {lo : Nat} {W : L2.WX}

theorem pe_ex {ι : Type} {e : Expr} {t : ι → TE} (h : ∀ i, PE X e (t i)) : PE X e (fun σ H Q => ∃ i, t i σ H Q) := ⟨fun pins s σ H Q I ⟨i, q⟩ => (h i).run pins s σ H Q I q⟩
theorem pts_ex {ι : Type} {es : List Expr} {t : ι → TT} (h : ∀ i, L2.PTs X es (t i)) : L2.PTs X es (fun σ H Q => ∃ i, t i σ H Q) := ⟨fun pins s σ H Q I ⟨i, q⟩ => (h i).run pins s σ H Q I q⟩

abbrev WF : L2.WX := fun _ _ _ _ => False
theorem takesF {X : Cx} : L2.Takes X WF := fun u s' ⟨_, _, _, _, _, _, _, _, _, _, _, _, _, _, _, _, w⟩ => w.elim

theorem Ext.drop {rs : List Addr} {D : Addr} {ms ms1 : List Addr} {st st1 : Sto} {H H1 : Hp} (e : Ext (D :: rs) lo ms st H ms1 st1 H1) (hD : H D ≠ none) : Ext rs lo ms st H ms1 st1 H1 where
  pre := e.pre
  keep := fun a u r f => by
    by_cases h : a = D
    · subst h
      have q := e.rsv a List.mem_cons_self hD
      rcases r with r | ⟨o, r⟩
      · exact .inl (q.trans r)
      · exact .inr ⟨o, q.trans r⟩
    · exact e.keep a u r ⟨fun q => (List.mem_cons.mp q).elim h f.1, f.2⟩
  tup := e.tup
  dom := e.dom
  alv := e.alv
  new := e.new
  low := e.low
  rsv := fun a ha => e.rsv a (List.mem_cons_of_mem _ ha)
theorem Ext.updNone {rs : List Addr} {D : Addr} {ms ms1 : List Addr} {st st1 : Sto} {H H1 : Hp} {o : HO} (e : Ext rs lo ms1 st1 H1 ms st H) (hD : H1 D = none) : Ext rs lo ms1 st1 H1 ms st (upd H D o) where
  pre := e.pre
  keep := fun a u r f => by
    have ne : a ≠ D := fun z => by subst z; exact Rd.ne_none r hD
    rcases e.keep a u r f with r | ⟨o', r⟩
    · exact .inl (by rw [upd_ne ne]; exact r)
    · exact .inr ⟨o', by rw [upd_ne ne]; exact r⟩
  tup := fun a vs h => by rw [upd_ne (ne_of_none h hD)]; exact e.tup a vs h
  dom := fun a h => by rw [upd_ne (fun z => by subst z; exact h hD)]; exact e.dom a h
  alv := e.alv
  new := e.new
  low := e.low
  rsv := fun a ha h => by rw [upd_ne (fun z => by subst z; exact h hD)]; exact e.rsv a ha h
theorem updD_carry {D : Addr} {ms : List Addr} {st : Sto} {H : Hp} {o : HO} {acc : List V} (hD : H D = some (.lst acc)) : Carry (G.plus D) (G.plus D) ms st H ms st (upd H D o) where
  K := rfl
  ca := rfl
  rd := fun a u r f => by
    have ne : a ≠ D := fun z => f.1 (by rw [z]; exact List.mem_cons_self)
    refine ⟨?_, f⟩
    rcases r with r | ⟨o', r⟩
    · exact .inl (by rw [upd_ne ne]; exact r)
    · exact .inr ⟨o', by rw [upd_ne ne]; exact r⟩
  tp := fun a vs h => by
    have ne : a ≠ D := fun z => by subst z; rw [hD] at h; cases h
    rw [upd_ne ne]
    exact h
  bx := fun _ _ h => h
theorem SOk.updD {D : Addr} {ms : List Addr} {st : Sto} {H : Hp} {o : HO} {acc : List V} (S : SOk (G.plus D) ms st H) (hD : H D = some (.lst acc)) : SOk (G.plus D) ms st (upd H D o) := by
  refine ⟨S.len, S.inj, fun i q a h1 h2 => ?_, S.out, fun a ha => ?_⟩
  · by_cases hq : q = .dead
    · subst hq; trivial
    · have ne : a ≠ D := fun z => S.out i a ⟨q, h1, hq⟩ h2 (by rw [z]; exact List.mem_cons_self)
      exact (S.obj i q a h1 h2).carry (updD_carry hD) fun u e => (upd_ne ne).trans e
  · by_cases z : a = D
    · subst z; rw [upd_same]; simp
    · rw [upd_ne z]; exact S.rsv a ha
theorem EOk.carry {G' : Ctx} {ms ms' : List Addr} {st st' : Sto} {H H' : Hp} (c : Carry G G' ms st H ms' st' H') : ∀ (ρ : Env) (σ : L2.St), EOk G ms st H ρ σ → EOk G' ms' st' H' ρ σ
  | [], σ, h => by simpa only [EOk] using h
  | p :: ρ, σ, h => by
    simp only [EOk] at h ⊢
    obtain ⟨v, σ', e1, e2, e3⟩ := h
    exact ⟨v, σ', e1, fun d hd => let ⟨u, q, r⟩ := e2 d hd; ⟨u, q, Rep.carry c d u r⟩, EOk.carry c ρ σ' e3⟩

/-! ### slots -/
theorem EOk.wipe {ms : List Addr} {st : Sto} {H : Hp} {ρ : Env} {σ : L2.St} (E : EOk G ms st H ρ σ) : ∀ vs : List Nat, EOk G ms st H (Z.wipe ρ vs) (L2.wipe σ vs)
  | [] => E
  | i :: r => by
    show EOk G ms st H ((Z.wipe ρ r).set i none) ((L2.wipe σ r).set i none)
    exact EOk.unset (EOk.wipe E r)
theorem zwipe_len (ρ : Env) : ∀ vs : List Nat, (Z.wipe ρ vs).length = ρ.length
  | [] => rfl
  | i :: r => by show ((Z.wipe ρ r).set i none).length = _; rw [List.length_set, zwipe_len ρ r]
theorem wipe_in {σ : L2.St} : ∀ {vs : List Nat} {i : Nat}, i ∈ vs → i < σ.length → (L2.wipe σ vs)[i]? = some none
  | v :: vs, i, h, hi => by
    show ((L2.wipe σ vs).set v none)[i]? = _
    by_cases e : v = i
    · subst e
      rw [List.getElem?_set_self (by rw [L2.wipe_length]; exact hi)]
    · rw [List.getElem?_set_ne e]
      exact wipe_in ((List.mem_cons.mp h).resolve_left fun z => e z.symm) hi
theorem wipe_back {σ σ2 : L2.St} {vs : List Nat} (hl : σ2.length = σ.length) (h : ∀ i, i ∉ vs → σ2[i]? = (L2.wipe σ vs)[i]?) : L2.wipe σ2 vs = L2.wipe σ vs := by
  apply List.ext_getElem?
  intro i
  by_cases hi : i ∈ vs
  · by_cases hz : i < σ.length
    · rw [wipe_in hi (by omega), wipe_in hi hz]
    · rw [List.getElem?_eq_none (by rw [L2.wipe_length]; omega), List.getElem?_eq_none (by rw [L2.wipe_length]; omega)]
  · rw [L2.wipe_out hi, h i hi]
mutual
theorem assign_length : ∀ (t : Tg) (d : PV) (ρ ρ' : Env), assign t d ρ = some ρ' → ρ'.length = ρ.length
  | .name i, d, ρ, ρ', h => by
    simp only [assign, Option.some.injEq] at h
    subst h
    simp
  | .tup l, d, ρ, ρ', h => by
    cases d with
    | tup xs => simp only [assign] at h; exact assigns_length l xs ρ ρ' h
    | lst xs => simp only [assign] at h; exact assigns_length l xs ρ ρ' h
    | _ => simp [assign] at h
theorem assigns_length : ∀ (l : List Tg) (ds : List PV) (ρ ρ' : Env), assign.go l ds ρ = some ρ' → ρ'.length = ρ.length
  | [], ds, ρ, ρ', h => by
    cases ds with
    | nil => simp only [assign.go, Option.some.injEq] at h; subst h; rfl
    | cons _ _ => simp [assign.go] at h
  | t :: l, ds, ρ, ρ', h => by
    cases ds with
    | nil => simp [assign.go] at h
    | cons d ds =>
      simp only [assign.go] at h
      obtain ⟨ρ1, h1, h2⟩ := Option.bind_eq_some_iff.mp h
      rw [assigns_length l ds ρ1 ρ' h2, assign_length t d ρ ρ1 h1]
end

/-- from what is wanted at the whole's start to a part in the block -/
theorem Res.inner {α β : Type} {G' : Ctx} {rep' : List Addr → Sto → Hp → α → β → Prop} {r : R PV} {k : PV → Sto → R α} {ms ms1 : List Addr} {st st1 : Sto} {H H1 : Hp} {Q : β → Hp → Prop} {E E1 : Nat → Hp → Prop} {Q1 : V → Hp → Prop}
    (h : Res G rep' lo ms1 st1 H1 (r.calm.bind k) Q E)
    (q : ∀ v st' ms' H' u, Ext G'.rsv lo ms st H ms' st' H' → SOk G' ms' st' H' → Rep G' ms' st' H' v u → Res G rep' lo ms1 st1 H1 (k v st') Q E → Q1 u H') : Res G' (Rep G') lo ms st H r Q1 E1 := by
  cases r with
  | ok v st' => exact fun ms' H' u e o r => q v st' ms' H' u e o r h
  | exc c st' => exact h.elim
  | bad => exact h.elim

/-- one turn's element, where its test lets it -/
def elF (tg : Tg) (vs : List Nat) (dc : Option (Env → Sto → R PV)) (de : Env → Sto → R PV) (ρ : Env) : PV → Sto → R (Option PV) := fun x st2 => match assign tg x (wipe ρ vs) with
  | some ρ' => (match dc with
    | some c => (c ρ' st2).calm.bind fun b st3 => match b with
      | .bool true => (de ρ' st3).calm.bind fun y st4 => .ok (some y) st4
      | .bool false => .ok none st3
      | _ => .bad
    | none => (de ρ' st2).calm.bind fun y st4 => .ok (some y) st4)
  | none => .bad
def lcFin (bx : Bool) (zs : List PV) (st : Sto) : R PV := if zs.length ≤ sizeLine then mkLst bx zs st else .bad

/-- where a comprehension's loop stands: the new list at D holds acc; ms1, st1, H1: behind the source -/
structure LcAt (G : Ctx) (lo : Nat) (ms1 : List Addr) (st1 : Sto) (H1 : Hp) (ρ : Env) (σ : L2.St) (D : Addr) (ms : List Addr) (st : Sto) (H : Hp) (accP : List PV) (acc : List V) : Prop where
  hl : lo ≤ st.length
  e : Ext G.rsv lo ms1 st1 H1 ms st H
  S : SOk (G.plus D) ms st H
  E : EOk (G.plus D) ms st H ρ σ
  c : Carry G (G.plus D) ms1 st1 H1 ms st H
  hD : H D = some (.lst acc)
  r : RepL (G.plus D) ms st H accP acc

theorem LcAt.stop {ms1 : List Addr} {st1 : Sto} {H1 : Hp} {ρ : Env} {σ : L2.St} {D : Addr} {ms : List Addr} {st : Sto} {H : Hp} {accP : List PV} {acc : List V} {bx : Bool} {Q : VK} {E : Nat → Hp → Prop}
    (A : LcAt G lo ms1 st1 H1 ρ σ D ms st H accP acc) (S1 : SOk G ms1 st1 H1) (hD1 : H1 D = none) (h : Res G (Rep G) lo ms1 st1 H1 (lcFin bx accP st) Q E) : Q (.ref D) H := by
  have nr : D ∉ G.rsv := fun z => S1.rsv D z hD1
  unfold lcFin at h
  split at h
  · cases bx with
    | false =>
      refine h ms H (.ref D) A.e A.S.less ?_
      simp only [Rep]
      exact ⟨D, acc, rfl, ⟨.inl A.hD, nr, fun i al e => A.S.out i D al e List.mem_cons_self⟩, RepL.less _ _ A.r⟩
    | true =>
      have hlen := A.S.len
      refine h (ms ++ [D]) H (.ref D) ⟨A.e.pre.trans (List.prefix_append _ _), A.e.keep, A.e.tup, A.e.dom, fun i hi al => A.e.alv i hi (alive_append al (by have := A.e.pre.length_le; omega)), fun i a hi q => ?_, fun i hi => ?_, A.e.rsv⟩ (A.S.adopt A.hD A.r nr) ?_
      · by_cases c : i < ms.length
        · rw [List.getElem?_append_left c] at q
          exact A.e.new i a hi q
        · have h2 := (List.getElem?_eq_some_iff.mp q).1
          rw [List.length_append, List.length_singleton] at h2
          obtain rfl : i = ms.length := by omega
          rw [List.getElem?_append_right (Nat.le_refl _), Nat.sub_self] at q
          obtain rfl : D = a := by simpa using q
          exact hD1
      · have := A.hl
        rw [List.getElem?_append_left (by omega)]
        exact A.e.low i hi
      · simp only [Rep]
        exact ⟨D, rfl, by rw [← hlen]; simp⟩
  · exact h.elim
end
end Z

set_option maxHeartbeats 2000000
/-! Comprehensions: turns. -/
namespace Z
open PySem PySem.Spec PyProof.Rows
open L2 (V HO Hp SqL SqT Rd upd upd_same upd_ne ne_of ne_of_none Cx PE PT PS PSs PA PG PGs PI PW Inv VK TE TA TS TT TG TGs RelV Vals Dp DpAll)

section
variable {X : Cx} {G : Ctx} {Γ : Gam} {C : CC} {lo : Nat} {W : L2.WX}

abbrev teX (G : Ctx) (lo : Nat) (de : Env → Sto → R PV) : TE := fun σ H Q => ∃ D, tE (G.plus D) lo WF de σ H Q
abbrev ttX (G : Ctx) (lo : Nat) : Option (Env → Sto → R PV) → TT
  | none => L2.tYes
  | some dc => fun σ H Q => ∃ D, tB (tE (G.plus D) lo WF dc) σ H Q

/-- one turn: the target's store, the test, the element -/
theorem LcAt.turn {ms1 : List Addr} {st1 : Sto} {H1 : Hp} {ρ : Env} {σ : L2.St} {D : Addr} {ms : List Addr} {st : Sto} {H : Hp} {accP : List PV} {acc : List V} {Q : VK} {E : Nat → Hp → Prop}
    {tg : Tg} {vs : List Nat} {dc : Option (Env → Sto → R PV)} {de : Env → Sto → R PV} {x : PV} {u : V} {bx : Bool} {K : PySem.W.Frag} {rest : Sto → R (List PV)} {Nx : Hp → Prop} (hK : K = G.K) (hv : ∀ i ∈ tgVars tg, i ∈ vs) (hre : ∀ st c st', rest st ≠ .exc c st')
    (A : LcAt G lo ms1 st1 H1 ρ σ D ms st H accP acc) (S1 : SOk G ms1 st1 H1) (hD1 : H1 D = none) (rx : Rep (G.plus D) ms st H x u)
    (h : Res G (Rep G) lo ms1 st1 H1 (((elF tg vs dc de ρ x st).bind fun o st2 => (rest st2).bind fun ys st3 => .ok (match o with | some y => y :: ys | none => ys) st3).bind fun ys st3 => lcFin bx (accP ++ ys) st3) Q E)
    (hn : ∀ ms' st' H' accP' acc', LcAt G lo ms1 st1 H1 ρ σ D ms' st' H' accP' acc' → Res G (Rep G) lo ms1 st1 H1 ((rest st').bind fun ys st3 => lcFin bx (accP' ++ ys) st3) Q E → Nx H') :
    gOf K tg u (L2.wipe σ vs) H fun σ2 H2 => L2.wipe σ2 vs = L2.wipe σ vs ∧ ttX G lo dc σ2 H2 fun b H3 => if b = true then teX G lo de σ2 H3 fun y H4 => ∃ acc, H4 D = some (.lst acc) ∧ acc.length < PySem.sizeLine ∧ Nx (upd H4 D (.lst (acc ++ [y]))) else Nx H3 := by
  have nD : H D ≠ none := by rw [A.hD]; simp
  unfold elF at h
  cases ha : assign tg x (wipe ρ vs) with
  | none => simp only [ha] at h; exact h.elim
  | some ρ' =>
    simp only [ha] at h
    refine assign_ok (G := G.plus D) hK tg x u _ ρ' _ _ rx (EOk.wipe A.E vs) ha fun σ2 E2 k2 => ?_
    have hlen : σ2.length = σ.length := by rw [E2.len, assign_length _ _ _ _ ha, zwipe_len, A.E.len]
    refine ⟨wipe_back hlen fun i hi => k2 i fun z => hi (hv i z), ?_⟩
    -- the element, from any state behind the test
    have elem : ∀ ms' st' H', Ext (G.plus D).rsv lo ms st H ms' st' H' → SOk (G.plus D) ms' st' H' →
        Res G (Rep G) lo ms1 st1 H1 (((((de ρ' st').calm.bind fun y st4 => R.ok (some y) st4) : R (Option PV)).bind fun o st2 => (rest st2).bind fun ys st3 => .ok (match o with | some y => y :: ys | none => ys) st3).bind fun ys st3 => lcFin bx (accP ++ ys) st3) Q E →
        teX G lo de σ2 H' fun y H4 => ∃ acc, H4 D = some (.lst acc) ∧ acc.length < PySem.sizeLine ∧ Nx (upd H4 D (.lst (acc ++ [y]))) := fun ms' st' H' e' S' h' => by
      refine ⟨D, ms', ρ', st', e'.le A.S S' A.hl, S', E2.ext e', ?_⟩
      cases hr : de ρ' st' with
      | bad => rw [hr] at h'; exact h'.elim
      | exc c st4 => rw [hr] at h'; exact h'.elim
      | ok y st4 =>
        rw [hr] at h'
        simp only [R.calm_ok, R.bind_ok] at h'
        intro ms4 H4 uy e4 S4 r4
        have eA := e'.trans e4
        have hD4 : H4 D = some (.lst acc) := (eA.rsv D List.mem_cons_self nD).trans A.hD
        have cr := updD_carry (G := G) (ms := ms4) (st := st4) (o := .lst (acc ++ [uy])) hD4
        have e5 : Ext G.rsv lo ms st H ms4 st4 H4 := eA.drop nD
        have hex : ∃ ys st5, rest st4 = .ok ys st5 ∨ ∃ c, rest st4 = .exc c st5 := by
          cases hq : rest st4 with
          | ok ys st5 => exact ⟨ys, st5, .inl rfl⟩
          | exc c st5 => exact ⟨[], st5, .inr ⟨c, rfl⟩⟩
          | bad => rw [hq] at h'; exact h'.elim
        have h2 : Res G (Rep G) lo ms1 st1 H1 ((rest st4).bind fun ys st3 => lcFin bx ((accP ++ [y]) ++ ys) st3) Q E := by
          cases hq : rest st4 with
          | ok ys st5 => rw [hq] at h'; simpa only [R.bind_ok, List.append_assoc, List.singleton_append] using h'
          | exc c st5 => rw [hq] at h'; exact h'
          | bad => rw [hq] at h'; exact h'
        refine ⟨acc, hD4, ?_, ?_⟩
        · have hy : ∃ ys st5, rest st4 = .ok ys st5 := by
            obtain ⟨ys, st5, q | ⟨c, q⟩⟩ := hex
            · exact ⟨ys, st5, q⟩
            · exact absurd q (hre _ _ _)
          obtain ⟨ys, st5, q⟩ := hy
          rw [q, R.bind_ok] at h2
          unfold lcFin at h2
          split at h2
          · rename_i hz
            have := RepL.length _ _ A.r
            simp only [List.length_append, List.length_singleton] at hz
            rw [← line_eq]
            omega
          · exact h2.elim
        · refine hn ms4 st4 _ (accP ++ [y]) (acc ++ [uy]) ⟨eA.le A.S S4 A.hl, (A.e.trans e5).updNone hD1, S4.updD hD4, (A.E.ext eA).carry cr, (A.c.trans eA.carry).trans cr, upd_same, ?_⟩ h2
          · refine RepL.append _ _ _ _ (RepL.carry cr _ _ (RepL.ext eA _ _ A.r)) ?_
            simp only [RepL]
            exact ⟨uy, [], rfl, Rep.carry cr _ _ r4, rfl⟩
    cases dc with
    | none =>
      show (if true = true then teX G lo de σ2 H (fun y H4 => ∃ acc, H4 D = some (.lst acc) ∧ acc.length < PySem.sizeLine ∧ Nx (upd H4 D (.lst (acc ++ [y])))) else Nx H)
      rw [if_pos rfl]
      exact elem ms st H Ext.refl A.S h
    | some c =>
      simp only at h
      show ∃ D', tB (tE (G.plus D') lo WF c) σ2 H _
      refine ⟨D, ms, ρ', st, A.hl, A.S, E2, ?_⟩
      cases hr : c ρ' st with
      | bad => rw [hr] at h; exact h.elim
      | exc k st4 => rw [hr] at h; exact h.elim
      | ok b st4 =>
        rw [hr] at h
        simp only [R.calm_ok, R.bind_ok] at h
        intro ms4 H4 ub e4 S4 r4
        split at h
        · refine ⟨true, rep_bool r4, ?_⟩
          refine L2.iteT ?_
          exact elem ms4 st4 H4 e4 S4 h
        · refine ⟨false, rep_bool r4, ?_⟩
          refine L2.iteF ?_
          refine hn ms4 st4 H4 accP acc ⟨e4.le A.S S4 A.hl, A.e.trans (e4.drop nD), S4, A.E.ext e4, A.c.trans e4.carry, (e4.rsv D List.mem_cons_self nD).trans A.hD, RepL.ext e4 _ _ A.r⟩ ?_
          simp only [R.bind_ok] at h
          cases hq : rest st4 with
          | ok ys st5 => rw [hq] at h; exact h
          | exc c st5 => rw [hq] at h; exact h
          | bad => rw [hq] at h; exact h
        · exact h.elim

theorem elF_calm {tg : Tg} {vs : List Nat} {dc : Option (Env → Sto → R PV)} {de : Env → Sto → R PV} {ρ : Env} {x : PV} {st : Sto} {c : Nat} {st' : Sto} : elF tg vs dc de ρ x st ≠ .exc c st' := by
  have calm : ∀ {α β : Type} (r : R α) (f : α → Sto → R β), (∀ a s, f a s ≠ .exc c st') → r.calm.bind f ≠ .exc c st' := fun r f h => by
    cases r with
    | ok a s => exact h a s
    | exc c s => exact fun q => nomatch q
    | bad => exact fun q => nomatch q
  unfold elF
  split
  · split
    · refine calm _ _ fun b s => ?_
      split
      · exact calm _ _ fun _ _ q => nomatch q
      · exact fun q => nomatch q
      · exact fun q => nomatch q
    · exact calm _ _ fun _ _ q => nomatch q
  · exact fun q => nomatch q
theorem bind_calm {α β : Type} {r : R α} {f : α → Sto → R β} {c : Nat} {st' : Sto} (h1 : ∀ c' s, r ≠ .exc c' s) (h2 : ∀ a s, f a s ≠ .exc c st') : r.bind f ≠ .exc c st' := by
  cases r with
  | ok a s => exact h2 a s
  | exc c s => exact absurd rfl (h1 c s)
  | bad => exact fun q => nomatch q
theorem compFix_calm {f : PV → Sto → R (Option PV)} (hf : ∀ x st c st', f x st ≠ .exc c st') : ∀ (xs : List PV) (st : Sto) (c : Nat) (st' : Sto), compFix f xs st ≠ .exc c st'
  | [], st, c, st' => fun q => nomatch q
  | x :: r, st, c, st' => bind_calm (fun c' s => hf x st c' s) fun o s => bind_calm (fun c' s' => compFix_calm hf r s c' s') fun ys s' q => nomatch q
theorem compLive_calm {i : Nat} {f : PV → Sto → R (Option PV)} (hf : ∀ x st c st', f x st ≠ .exc c st') : ∀ (n k : Nat) (st : Sto) (c : Nat) (st' : Sto), compLive i f n k st ≠ .exc c st'
  | 0, k, st, c, st' => fun q => nomatch q
  | n + 1, k, st, c, st' => by
    unfold compLive
    split
    · split
      · exact bind_calm (fun c' s => hf _ st c' s) fun o s => bind_calm (fun c' s' => compLive_calm hf n (k + 1) s c' s') fun ys s' q => nomatch q
      · exact fun q => nomatch q
    · exact fun q => nomatch q

theorem more_carry {D : Addr} {ms : List Addr} {st : Sto} {H : Hp} {o : HO} (hD : H D = none) : Carry G (G.plus D) ms st H ms st (upd H D o) :=
  ⟨rfl, rfl, fun a u r f => ⟨rd_more hD r, free_more hD r f⟩, fun a vs h => (upd_ne (ne_of_none h hD)).trans h, fun _ _ h => h⟩
/-- the start: the new list is laid -/
theorem LcAt.start {ms1 : List Addr} {st1 : Sto} {H1 : Hp} {ρ : Env} {σ : L2.St} {D : Addr} (hl : lo ≤ st1.length) (S1 : SOk G ms1 st1 H1) (E1 : EOk G ms1 st1 H1 ρ σ) (hD : H1 D = none) : LcAt G lo ms1 st1 H1 ρ σ D ms1 st1 (upd H1 D (.lst [])) [] [] :=
  ⟨hl, Ext.refl.updNone hD, S1.more hD, E1.more hD _ _, more_carry hD, upd_same, by simp only [RepL]⟩

/-- the loop over what stays -/
theorem lc_fix {ms1 : List Addr} {st1 : Sto} {H1 : Hp} {ρ : Env} {σ : L2.St} {D : Addr} {Q : VK} {E : Nat → Hp → Prop} {tg : Tg} {vs : List Nat} {dc : Option (Env → Sto → R PV)} {de : Env → Sto → R PV} {bx : Bool} {K : PySem.W.Frag} {xs : List PV} {J : L2.It} (hK : K = G.K) (hv : ∀ i ∈ tgVars tg, i ∈ vs)
    (hl : lo ≤ st1.length) (S1 : SOk G ms1 st1 H1) (E1 : EOk G ms1 st1 H1 ρ σ) (hJ : SrcOk G lo ms1 st1 H1 (.fix xs) J) (hD : H1 D = none)
    (h : Res G (Rep G) lo ms1 st1 H1 ((compFix (elF tg vs dc de ρ) xs st1).bind fun ys st2 => lcFin bx ys st2) Q E) :
    ∃ W : Nat → Nat → Hp → Prop, (∃ m, W 0 m (upd H1 D (.lst []))) ∧ ∀ i m H, W i m H →
      (J.stop i H ∧ Q (.ref D) H) ∨ (J.go i H ∧ ∃ Nx : Hp → Prop, (∀ H', Nx H' → ∃ m', m' < m ∧ W (i + 1) m' H') ∧ ∀ x H', J.yld i H x H' → gOf K tg x (L2.wipe σ vs) H' fun σ2 H2 => L2.wipe σ2 vs = L2.wipe σ vs ∧ ttX G lo dc σ2 H2 fun b H3 =>
        if b = true then teX G lo de σ2 H3 fun y H4 => ∃ acc, H4 D = some (.lst acc) ∧ acc.length < PySem.sizeLine ∧ Nx (upd H4 D (.lst (acc ++ [y]))) else Nx H3) := by
  refine ⟨fun i m H => m = xs.length - i ∧ i ≤ xs.length ∧ ∃ ms st accP acc, LcAt G lo ms1 st1 H1 ρ σ D ms st H accP acc ∧ Res G (Rep G) lo ms1 st1 H1 ((compFix (elF tg vs dc de ρ) (xs.drop i) st).bind fun ys st2 => lcFin bx (accP ++ ys) st2) Q E,
    ⟨xs.length, by simp, Nat.zero_le _, ms1, st1, [], [], LcAt.start hl S1 E1 hD, by simpa using h⟩, ?_⟩
  rintro i m H ⟨rfl, hi, ms, st, accP, acc, A, hr⟩
  have hJ' := hJ (G.plus D) ms st H A.c
  by_cases hlt : i < xs.length
  · rw [List.drop_eq_getElem_cons hlt] at hr
    simp only [compFix] at hr
    obtain ⟨hg, hy⟩ := hJ'.2 i xs[i] (by simp [hlt])
    refine .inr ⟨hg, fun H' => i + 1 ≤ xs.length ∧ ∃ ms st accP acc, LcAt G lo ms1 st1 H1 ρ σ D ms st H' accP acc ∧ Res G (Rep G) lo ms1 st1 H1 ((compFix (elF tg vs dc de ρ) (xs.drop (i + 1)) st).bind fun ys st2 => lcFin bx (accP ++ ys) st2) Q E,
      fun H' ⟨h1, h2⟩ => ⟨xs.length - (i + 1), by omega, rfl, h1, h2⟩, fun x H' yl => ?_⟩
    obtain ⟨gr, rx⟩ := hy x H' yl
    have nD : H D ≠ none := by rw [A.hD]; simp
    have e0 : Ext (G.plus D).rsv lo ms st H ms st H' := Ext.grow gr
    have S' := A.S.grow gr
    have A' : LcAt G lo ms1 st1 H1 ρ σ D ms st H' accP acc := ⟨A.hl, A.e.trans (e0.drop nD), S', A.E.ext e0, A.c.trans e0.carry, (gr D nD).trans A.hD, RepL.ext e0 _ _ A.r⟩
    exact A'.turn hK hv (compFix_calm (fun _ _ _ _ => elF_calm) _) S1 hD rx hr fun ms' st' H'' accP' acc' A'' hr' => ⟨hlt, ms', st', accP', acc', A'', hr'⟩
  · obtain rfl : i = xs.length := by omega
    rw [List.drop_length] at hr
    simp only [compFix, R.bind_ok, List.append_nil] at hr
    exact .inl ⟨hJ'.1 _ (Nat.le_refl _), A.stop S1 hD hr⟩
end
end Z

set_option maxHeartbeats 2000000
/-! Comprehensions: the rule; expressions as a whole. -/
namespace Z
open PySem PySem.Spec PyProof.Rows
open L2 (V HO Hp SqL SqT Rd upd upd_same upd_ne ne_of ne_of_none Cx PE PT PS PSs PA PG PGs PI PW Inv VK TE TA TS TT TG TGs RelV Vals Dp DpAll)

section
variable {X : Cx} {G : Ctx} {Γ : Gam} {C : CC} {lo : Nat} {W : L2.WX}

/-- the loop over a list of the store -/
theorem lc_live {ms1 : List Addr} {st1 : Sto} {H1 : Hp} {ρ : Env} {σ : L2.St} {D : Addr} {Q : VK} {E : Nat → Hp → Prop} {tg : Tg} {vs : List Nat} {dc : Option (Env → Sto → R PV)} {de : Env → Sto → R PV} {bx : Bool} {K : PySem.W.Frag} {j n : Nat} {J : L2.It} (hK : K = G.K) (hv : ∀ i ∈ tgVars tg, i ∈ vs)
    (hl : lo ≤ st1.length) (S1 : SOk G ms1 st1 H1) (E1 : EOk G ms1 st1 H1 ρ σ) (hJ : SrcOk G lo ms1 st1 H1 (.live j) J) (hD : H1 D = none)
    (h : Res G (Rep G) lo ms1 st1 H1 ((compLive j (elF tg vs dc de ρ) n 0 st1).bind fun ys st2 => lcFin bx ys st2) Q E) :
    ∃ W : Nat → Nat → Hp → Prop, (∃ m, W 0 m (upd H1 D (.lst []))) ∧ ∀ i m H, W i m H →
      (J.stop i H ∧ Q (.ref D) H) ∨ (J.go i H ∧ ∃ Nx : Hp → Prop, (∀ H', Nx H' → ∃ m', m' < m ∧ W (i + 1) m' H') ∧ ∀ x H', J.yld i H x H' → gOf K tg x (L2.wipe σ vs) H' fun σ2 H2 => L2.wipe σ2 vs = L2.wipe σ vs ∧ ttX G lo dc σ2 H2 fun b H3 =>
        if b = true then teX G lo de σ2 H3 fun y H4 => ∃ acc, H4 D = some (.lst acc) ∧ acc.length < PySem.sizeLine ∧ Nx (upd H4 D (.lst (acc ++ [y]))) else Nx H3) := by
  obtain ⟨a, ha, rfl⟩ := hJ
  refine ⟨fun i m H => ∃ ms st accP acc, LcAt G lo ms1 st1 H1 ρ σ D ms st H accP acc ∧ Res G (Rep G) lo ms1 st1 H1 ((compLive j (elF tg vs dc de ρ) m i st).bind fun ys st2 => lcFin bx (accP ++ ys) st2) Q E,
    ⟨n, ms1, st1, [], [], LcAt.start hl S1 E1 hD, by simpa using h⟩, ?_⟩
  rintro i m H ⟨ms, st, accP, acc, A, hr⟩
  cases m with
  | zero => exact hr.elim
  | succ m =>
    unfold compLive at hr
    split at hr
    · rename_i xs hst
      have hma : ms[j]? = some a := pre_get A.e.pre ha
      obtain ⟨vs', hv', rl⟩ := A.S.obj j _ a hst hma
      have sq : SqL G.K H a vs' := .of hv'
      have hlen := RepL.length _ _ rl
      split at hr
      · rename_i x hx
        obtain ⟨v, ev, rx⟩ := RepL.get _ _ i x rl hx
        refine .inr ⟨⟨vs', v, sq, ev⟩, fun H' => ∃ ms st accP acc, LcAt G lo ms1 st1 H1 ρ σ D ms st H' accP acc ∧ Res G (Rep G) lo ms1 st1 H1 ((compLive j (elF tg vs dc de ρ) m (i + 1) st).bind fun ys st2 => lcFin bx (accP ++ ys) st2) Q E,
          fun H' h' => ⟨m, Nat.lt_succ_self _, h'⟩, fun x' H' ⟨eH, yl⟩ => ?_⟩
        subst eH
        have := yl vs' sq
        rw [ev] at this
        cases this
        exact A.turn hK hv (fun s c s' => compLive_calm (fun _ _ _ _ => elF_calm) _ _ s c s') S1 hD rx hr fun ms' st' H'' accP' acc' A'' hr' => ⟨ms', st', accP', acc', A'', hr'⟩
      · rename_i hx
        refine .inl ⟨⟨vs', sq, by rw [hlen]; exact List.getElem?_eq_none_iff.mp hx⟩, ?_⟩
        simp only [R.bind_ok, List.append_nil] at hr
        exact A.stop S1 hD hr
    · exact hr.elim

abbrev compD (bx : Bool) (tg : Tg) (vs : List Nat) (ds : Env → Sto → R Src) (dc : Option (Env → Sto → R PV)) (de : Env → Sto → R PV) : Env → Sto → R PV := fun ρ st => (ds ρ st).bind fun s st1 =>
  (match s with
    | .fix xs => compFix (elF tg vs dc de ρ) xs st1
    | .live i => compLive i (elF tg vs dc de ρ) (match st1[i]? with | some (.lst xs) => xs.length + 1 | _ => 0) 0 st1
    | .liveE _ => .bad).bind fun ys st2 => if ys.length ≤ sizeLine then mkLst bx ys st2 else .bad

theorem foldS {e : Expr} {env : PySem.Env} (h : isSet e = false) : ∀ x, foldedSetIterable e env x = pure x := by
  intro x
  cases e <;> first | rfl | (simp [isSet] at h)

/-- what the rule of comprehensions asks -/
theorem comp_asks (L : Lk X G Γ C) {bx : Bool} {tg : Tg} {vs : List Nat} {ds : Env → Sto → R Src} {dc : Option (Env → Sto → R PV)} {de : Env → Sto → R PV} (hv : ∀ i ∈ tgVars tg, i ∈ vs) (σ : L2.St) (H : Hp) (Q : VK)
    (h : tE G lo W (compD bx tg vs ds dc de) σ H Q) : L2.tLc (tI G lo W ds) (gOf X.K tg) (ttX G lo dc) (teX G lo de) vs σ H Q := by
  obtain ⟨ms, ρ, st, hl, S, E, q⟩ := h
  refine ⟨ms, ρ, st, hl, S, E, q.bind1 (rep := SrcOk G lo) fun s st1 ms1 H1 J e1 S1 r1 q1 => ?_⟩
  intro D hD
  cases s with
  | fix xs => exact lc_fix L.K hv (e1.le S S1 hl) S1 (E.ext e1) r1 hD q1
  | live i => exact lc_live L.K hv (e1.le S S1 hl) S1 (E.ext e1) r1 hD q1
  | liveE i => exact q1.elim
end
end Z

set_option maxHeartbeats 2000000
/-! Changes of things of the store; methods of lists, dicts, texts. -/
namespace Z
open PySem PySem.Spec PyProof.Rows
open L2 (V HO Hp SqL SqT Rd upd upd_same upd_ne ne_of ne_of_none Cx PE PT PS PSs PA PG PGs PI PW Inv VK TE TA TS TT TG TGs RelV Vals Dp DpAll)

section
variable {X : Cx} {G : Ctx} {Γ : Gam} {C : CC} {lo : Nat} {W : L2.WX}

/-! ### a thing of the store is changed -/
section
variable {ms : List Addr} {st : Sto} {H : Hp} {i : Nat} {a : Addr} {o o' : PO} {w : HO}
theorem alive_set {j : Nat} (h : alive (st.set i o') j) (al : alive st i) : alive st j := by
  by_cases e : i = j
  · subst e; exact al
  · obtain ⟨q, h1, h2⟩ := h
    rw [List.getElem?_set_ne e] at h1
    exact ⟨q, h1, h2⟩
theorem put_ne (S : SOk G ms st H) (al : alive st i) (ha : ms[i]? = some a) {b : Addr} (f : Free G.rsv ms st b) : b ≠ a := fun z => f.2 i al (by rw [z]; exact ha)
theorem put_tup (S : SOk G ms st H) (hi : st[i]? = some o) (no : o ≠ .dead) (ha : ms[i]? = some a) {b : Addr} {vs : List V} (h : H b = some (.tup vs)) : b ≠ a := fun z => by
  subst z
  have := S.obj i o b hi ha
  cases o with
  | dead => exact no rfl
  | lst xs => obtain ⟨ws, e, _⟩ := this; rw [h] at e; cases e
  | dct t kvs => cases t <;> (obtain ⟨ws, e, _⟩ := this; rw [h] at e; cases e)
  | inst c fs => obtain ⟨dx, ws, e, _⟩ := this; rw [h] at e; cases e
theorem put_carry (S : SOk G ms st H) (hi : st[i]? = some o) (no : o ≠ .dead) (ha : ms[i]? = some a) : Carry G G ms st H ms (st.set i o') (upd H a w) :=
  ⟨rfl, rfl, fun b u r f => by
    have ne := put_ne S ⟨o, hi, no⟩ ha f
    refine ⟨?_, f.1, fun j al e => f.2 j (alive_set al ⟨o, hi, no⟩) e⟩
    rcases r with r | ⟨q, r⟩
    · exact .inl ((upd_ne ne).trans r)
    · exact .inr ⟨q, (upd_ne ne).trans r⟩,
   fun b vs h => (upd_ne (put_tup S hi no ha h)).trans h, fun _ _ h => h⟩
theorem put_ext (S : SOk G ms st H) (hi : st[i]? = some o) (no : o ≠ .dead) (ha : ms[i]? = some a) (hlo : lo ≤ i) : Ext G.rsv lo ms st H ms (st.set i o') (upd H a w) where
  pre := List.prefix_refl _
  keep := fun b u r f => ((put_carry (o' := o') (w := w) S hi no ha).rd b u r f).1
  tup := fun b vs h => (upd_ne (put_tup S hi no ha h)).trans h
  dom := fun b h => by
    by_cases e : b = a
    · subst e; rw [upd_same]; simp
    · rw [upd_ne e]; exact h
  alv := fun j _ al => alive_set al ⟨o, hi, no⟩
  new := fun j b h e => by
    have := (List.getElem?_eq_some_iff.mp e).1
    omega
  low := fun j hj => by rw [List.getElem?_set_ne (by omega)]
  rsv := fun b hb _ => upd_ne fun z => by subst z; exact S.out i b ⟨o, hi, no⟩ ha hb
theorem SOk.put (S : SOk G ms st H) (hi : st[i]? = some o) (no : o ≠ .dead) (ha : ms[i]? = some a) (ho : ObjR G ms (st.set i o') (upd H a w) o' a) : SOk G ms (st.set i o') (upd H a w) := by
  have c := put_carry (o' := o') (w := w) S hi no ha
  have al0 : alive st i := ⟨o, hi, no⟩
  refine ⟨by rw [List.length_set]; exact S.len, fun j k b aj ak hj hk => S.inj j k b (alive_set aj al0) (alive_set ak al0) hj hk, fun j q b hj hb => ?_, fun j b aj hb => S.out j b (alive_set aj al0) hb, fun b hb => ?_⟩
  · by_cases e : i = j
    · subst e
      rw [List.getElem?_set_self (List.getElem?_eq_some_iff.mp hi).1] at hj
      cases hj
      rw [ha] at hb
      cases hb
      exact ho
    · rw [List.getElem?_set_ne e] at hj
      by_cases hq : q = .dead
      · subst hq; trivial
      · refine (S.obj j q b hj hb).carry c fun u h => (upd_ne fun z => ?_).trans h
        subst z
        exact e (S.inj i j b al0 ⟨q, hj, hq⟩ ha hb)
  · rw [upd_ne fun z => by subst z; exact S.out i b al0 ha hb]
    exact S.rsv b hb
end
theorem wr_lst {ms : List Addr} {st : Sto} {H : Hp} {i : Nat} {a : Addr} {ys zs : List PV} {vs : List V} {r : PV} {u : V} {Q : VK} {E : Nat → Hp → Prop} (S : SOk G ms st H) (hi : st[i]? = some (.lst ys)) (ha : ms[i]? = some a) (rz : RepL G ms st H zs vs) (rr : Rep G ms st H r u)
    (h : Res G (Rep G) lo ms st H (wr lo i (.lst zs) r st) Q E) : Q u (upd H a (.lst vs)) := by
  unfold wr at h
  split at h
  · rename_i hlo
    have c := put_carry (o' := .lst zs) (w := .lst vs) S hi (by simp) ha
    exact h ms _ u (put_ext S hi (by simp) ha hlo) (S.put hi (by simp) ha ⟨vs, upd_same, RepL.carry c _ _ rz⟩) (Rep.carry c _ _ rr)
  · exact h.elim

/-! ### methods -/
theorem notSuper_base {o : Expr} {n : Str} {env : PySem.Env} {w : Sem Value} (h : notSuper o = true) : attributeBase o n env w = w := by
  unfold attributeBase
  split
  · simp [notSuper] at h
  · rfl
theorem few_of {pos : Pos} {env : PySem.Env} {es : List Expr} (h : ∀ e ∈ es, isStar e = false) (hl : es.length < 20) : ((backTo pos (starEach es env)).all (fun x => !x.1) && (backToKw pos (keywordEach [] env)).all (fun x => x.1.isSome)
      && decide (es.length + ([] : List Keyword).length + (if ([] : List Keyword).isEmpty then 0 else 1) < 30)) = true := by
  have h1 : (backTo pos (starEach es env)).all (fun x => !x.1) = true := by
    have := star_any (pos := pos) (env := env) h
    rw [List.any_eq_false] at this
    exact List.all_eq_true.mpr fun x hx => by simpa using this x hx
  rw [h1]
  show (true && true && decide (es.length + 0 + 0 < 30)) = true
  simp
  omega
theorem lst_ty {ms : List Addr} {st : Sto} {H : Hp} {x : PV} {u : V} (S : SOk G ms st H) (r : Rep G ms st H x u) (h : (lstOf st x).isSome = true) : L2.tyV G.K "list" u H := by
  obtain ⟨xs, e⟩ := Option.isSome_iff_exists.mp h
  obtain ⟨a, vs, rfl, h1, _⟩ := lstOf_ok S r e
  exact .inl ⟨rfl, vs, .inl h1⟩

def MdF (G : Ctx) (lo : Nat) (f : PV → List PV → Sto → R PV) (r : V → List V → Hp → VK → Prop) : Prop := ∀ (ms : List Addr) (st : Sto) (H : Hp) (x : PV) (u : V) (xs : List PV) (vs : List V) (Q : VK) (E : Nat → Hp → Prop),
  lo ≤ st.length → SOk G ms st H → Rep G ms st H x u → RepL G ms st H xs vs → Res G (Rep G) lo ms st H (f x xs st) Q E → r u vs H Q

theorem t_bmL (L : Lk X G Γ C) {m : Bm} {T id : String} {name : Str} {r : V → List V → Hp → VK → Prop} {o e : Expr} {es : List Expr} {mo : ME} {da : Env → Sto → R (List PV)} {ap cp : Pos} (pa : PlainAttrs T) (slot : Slot T name id) (hty : typeOf (.builtin id) = pure (.type "method_descriptor"))
    (hm : L2.MtR X id r) (hf : MdF G lo (bmf m lo) r) (hT : ∀ ms st H x u, SOk G ms st H → Rep G ms st H x u → bmTy m st x = true → L2.tyV G.K T u H) (ho : PE X o (tE G lo W (Z.eval Γ lo mo))) (ha : PA X (e :: es) (tEs G lo W da))
    (hs : notSuper o = true) (hl : (ap.endLine == cp.line) = true) (hst : ∀ y ∈ e :: es, isStar y = false) (hlen : (e :: es).length < 20) :
    PE X (.Call (.Attribute o name ap) (e :: es) [] cp) (tE G lo W fun ρ st => (Z.eval Γ lo mo ρ st).bind fun x st1 => if bmTy m st1 x then (da ρ st1).bind fun xs st2 => bmf m lo x xs st2 else .bad) :=
  (L2.pe_bm pa slot hty hm ho ha (notSuper_base hs) (few_of hst hlen) hl (star_cons (hst e List.mem_cons_self)) (star_any fun y hy => hst y (List.mem_cons_of_mem _ hy))).weak fun σ H Q ⟨ms, ρ, st, hlo, S, E, q⟩ => by
    refine ⟨ms, ρ, st, hlo, S, E, q.bind1 (rep := Rep G) fun x st1 ms1 H1 u e1 S1 r1 q1 => ?_⟩
    split at q1
    · rename_i ht
      refine ⟨L.K ▸ hT ms1 st1 H1 x u S1 r1 ht, ms1, ρ, st1, e1.le S S1 hlo, S1, E.ext e1, q1.bind1 (rep := RepL G) fun xs st2 ms2 H2 us e2 S2 r2 q2 => ?_⟩
      exact hf ms2 st2 H2 x u xs us Q _ (e2.le S1 S2 (e1.le S S1 hlo)) S2 (Rep.ext e2 _ _ r1) r2 q2
    · exact q1.elim
theorem t_bm0 (L : Lk X G Γ C) {m : Bm} {T id : String} {name : Str} {r : V → List V → Hp → VK → Prop} {o : Expr} {mo : ME} {ap cp : Pos} (pa : PlainAttrs T) (slot : Slot T name id) (hty : typeOf (.builtin id) = pure (.type "method_descriptor"))
    (hm : L2.MtR X id r) (hf : MdF G lo (bmf m lo) r) (hT : ∀ ms st H x u, SOk G ms st H → Rep G ms st H x u → bmTy m st x = true → L2.tyV G.K T u H) (ho : PE X o (tE G lo W (Z.eval Γ lo mo)))
    (hs : notSuper o = true) (hl : (ap.endLine == cp.line) = true)  :
    PE X (.Call (.Attribute o name ap) [] [] cp) (tE G lo W fun ρ st => (Z.eval Γ lo mo ρ st).bind fun x st1 => if bmTy m st1 x then (Z.evals Γ lo .nil ρ st1).bind fun xs st2 => bmf m lo x xs st2 else .bad) :=
  (L2.pe_bm0 pa slot hty hm ho (notSuper_base hs) hl).weak fun σ H Q ⟨ms, ρ, st, hlo, S, E, q⟩ => by
    refine ⟨ms, ρ, st, hlo, S, E, q.bind1 (rep := Rep G) fun x st1 ms1 H1 u e1 S1 r1 q1 => ?_⟩
    split at q1
    · rename_i ht
      simp only [Z.evals, R.bind_ok] at q1
      exact ⟨L.K ▸ hT ms1 st1 H1 x u S1 r1 ht, hf ms1 st1 H1 x u [] [] Q _ (e1.le S S1 hlo) S1 r1 (by simp only [RepL]) q1⟩
    · exact q1.elim

theorem append_ok : MdF G lo (bmf .append lo) L2.rAppend := by
  intro ms st H x u xs vs Q E hlo S rx rs h
  simp only [bmf] at h
  unfold fAppend at h
  split at h <;> try (exact h.elim)
  obtain ⟨v, rfl, rv⟩ := rs.one
  simp only [Rep] at rx
  obtain ⟨a, rfl, ha⟩ := rx
  split at h
  · rename_i ys hi
    split at h
    · rename_i hz
      obtain ⟨ws, h1, h2⟩ := S.obj _ _ a hi ha
      refine ⟨a, ws, v, rfl, rfl, h1, by rw [RepL.length _ _ h2, ← line_eq]; exact hz, ?_⟩
      exact wr_lst S hi ha (RepL.append _ _ _ _ h2 (by simp only [RepL]; exact ⟨v, [], rfl, rv, rfl⟩)) (by simp only [Rep]) h
    · exact h.elim
  · exact h.elim
def rExtendR : V → List V → Hp → VK → Prop := fun x vs H Q => ∃ l b xs zs, x = .ref l ∧ vs = [.ref b] ∧ H l = some (.lst xs) ∧ Rd H b (.lst zs) ∧ xs.length + zs.length ≤ PySem.sizeLine ∧ Q .non (upd H l (.lst (xs ++ zs)))
open L2 in
theorem mt_extendR : L2.MtR X "list.extend" rExtendR := by
  intro pins s σ H x vs v us Q I rx rv h
  obtain ⟨l, b, xs, zs, rfl, rfl, hH, hB, hz, q⟩ := h
  cases rx
  obtain ⟨u, rfl, ru⟩ := rv.one
  cases ru
  obtain ⟨z, its, n, r, hl, e⟩ := I.lstM hH
  obtain ⟨z2, its2, n2, r2, hl2, e2⟩ := lstRd I hB
  have hsz : its.toArray.size + its2.toArray.size ≤ PySem.sizeLine := by rw [List.size_toArray, List.size_toArray]; omega
  have hlong : ¬ (!its.toArray.isEmpty && Builtin.List.listTooLong (its.toArray.size + its2.toArray.size)) = true := by
    rw [notLongL hsz, Bool.and_false]
    exact Bool.false_ne_true
  refine call_meets F.slot_list_extend ⟨_, e, rfl⟩ F.entry_list_extend (F.args_list_extend_2 _ _)
    (AutoSeq1.list_extend_list_list_0 l its.toArray n b its2.toArray n2 hlong (by rw [List.size_toArray]; omega) (by omega)) ⟨e, e2, ?_⟩
  refine ⟨.non, _, I.lset (its' := its ++ its2) hH e (by simp) (r.append r2) ?_, rfl, q⟩
  rw [List.length_append]
  omega
theorem extend_ok : MdF G lo (bmf .extend lo) rExtendR := by
  intro ms st H x u xs vs Q E hlo S rx rs h
  simp only [bmf] at h
  unfold fExtend at h
  split at h <;> try (exact h.elim)
  obtain ⟨v, rfl, rv⟩ := rs.one
  simp only [Rep] at rx
  obtain ⟨a, rfl, ha⟩ := rx
  split at h
  · rename_i ys hi
    split at h
    · rename_i zs hz'
      obtain ⟨b, us, rfl, hb, lb⟩ := lstOf_ok S rv hz'
      split at h
      · rename_i hz
        obtain ⟨ws, h1, h2⟩ := S.obj _ _ a hi ha
        refine ⟨a, b, ws, us, rfl, rfl, h1, hb, by rw [RepL.length _ _ h2, RepL.length _ _ lb, ← line_eq]; exact hz, ?_⟩
        exact wr_lst S hi ha (RepL.append _ _ _ _ h2 lb) (by simp only [Rep]) h
      · exact h.elim
    · exact h.elim
  · exact h.elim
theorem insert_ok : MdF G lo (bmf .insert lo) (fun x vs H Q => ∃ (l : Addr) (xs : List V) (i : Int) (y : V), x = .ref l ∧ vs = [.int i, y] ∧ H l = some (.lst xs) ∧ xs.length < PySem.sizeLine ∧ 0 ≤ i ∧ i < 2 ^ 63 ∧
    Q .non (upd H l (.lst (xs.take i.toNat ++ [y] ++ xs.drop i.toNat)))) := by
  intro ms st H x u xs vs Q E hlo S rx rs h
  simp only [bmf] at h
  unfold fInsert at h
  split at h <;> try (exact h.elim)
  obtain ⟨k', v, rfl, rk, rv⟩ := rs.two
  simp only [Rep] at rx rk
  subst rk
  obtain ⟨a, rfl, ha⟩ := rx
  split at h
  · rename_i ys hi
    split at h
    · rename_i hz
      obtain ⟨ws, h1, h2⟩ := S.obj _ _ a hi ha
      have hl := RepL.length _ _ h2
      refine ⟨a, ws, _, v, rfl, rfl, h1, by rw [hl, ← line_eq]; exact hz.2.2, hz.1, by have := hz.2.1; have := hz.2.2; have : (sizeLine : Nat) = 16777216 := rfl; omega, ?_⟩
      refine wr_lst S hi ha ?_ (by simp only [Rep]) h
      rw [List.append_assoc]
      refine RepL.append _ _ _ _ (RepL.take _ _ _ h2) ?_
      simp only [RepL, List.singleton_append, List.cons_append]
      exact ⟨v, _, rfl, rv, RepL.drop _ _ _ h2⟩
    · exact h.elim
  · exact h.elim
theorem RepL.dropLast {ms : List Addr} {st : Sto} {H : Hp} {xs : List PV} {vs : List V} (h : RepL G ms st H xs vs) : RepL G ms st H xs.dropLast vs.dropLast := by
  rw [List.dropLast_eq_take, List.dropLast_eq_take, RepL.length _ _ h]
  exact RepL.take _ _ _ h
theorem pop_ok : MdF G lo (bmf .pop lo) L2.rPop := by
  intro ms st H x u xs vs Q E hlo S rx rs h
  simp only [bmf] at h
  unfold fPop at h
  split at h <;> try (exact h.elim)
  simp only [RepL] at rs
  subst rs
  simp only [Rep] at rx
  obtain ⟨a, rfl, ha⟩ := rx
  split at h
  · rename_i ys hi
    split at h
    · rename_i y hy
      obtain ⟨ws, h1, h2⟩ := S.obj _ _ a hi ha
      rw [List.getLast?_eq_getElem?] at hy
      obtain ⟨v, hv, rv⟩ := RepL.get _ _ _ y h2 hy
      refine ⟨a, ws, v, rfl, rfl, h1, by rw [RepL.length _ _ h2]; exact hv, ?_⟩
      exact wr_lst S hi ha h2.dropLast rv h
    · exact h.elim
  · exact h.elim

/-! ### d.get -/
theorem dct_isD {ms : List Addr} {st : Sto} {H : Hp} {x : PV} {u : V} (S : SOk G ms st H) (r : Rep G ms st H x u) (h : (dctOf st x).isSome = true) : ∃ a, u = .ref a ∧ L2.IsD H a := by
  obtain ⟨⟨t, kvs⟩, e⟩ := Option.isSome_iff_exists.mp h
  obtain ⟨a, rfl, D⟩ := dctOf_ok S r e
  cases t with
  | false => obtain ⟨l, h1, _⟩ := D; exact ⟨a, rfl, .inl ⟨l, h1⟩⟩
  | true => obtain ⟨l, h1, _⟩ := D; exact ⟨a, rfl, .inr ⟨l, h1⟩⟩
theorem RelP.getD {ms : List Addr} {st : Sto} {H : Hp} {o : Option PV} {v : Option V} {d : PV} {u : V} (h : RelP G ms st H o v) (r : Rep G ms st H d u) : Rep G ms st H (o.getD d) (v.getD u) := by
  cases o <;> cases v <;> simp_all [RelP]
theorem t_get (L : Lk X G Γ C) {o e : Expr} {mo me : ME} {ap cp : Pos} (ho : PE X o (tE G lo W (Z.eval Γ lo mo))) (he : PE X e (tE G lo W (Z.eval Γ lo me)))
    (hs : notSuper o = true) (hl : (ap.endLine == cp.line) = true) (hst : isStar e = false) :
    PE X (.Call (.Attribute o "get" ap) [e] [] cp) (tE G lo W (Z.eval Γ lo (.bm .get mo (.cons me .nil)))) := by
  refine (L2.pe_dget1 (by have := L.hu; omega) ho he ⟨notSuper_base hs, few_of (by simpa using hst) (by simp), hl, by rw [star_cons hst] <;> rfl⟩).weak fun σ H Q ⟨ms, ρ, st, hlo, S, E, q⟩ => ?_
  simp only [Z.eval] at q
  refine ⟨ms, ρ, st, hlo, S, E, q.bind1 (rep := Rep G) fun x st1 ms1 H1 u e1 S1 r1 q1 => ?_⟩
  split at q1
  · rename_i ht
    obtain ⟨a, rfl, hd⟩ := dct_isD S1 r1 ht
    refine ⟨a, rfl, hd, ms1, ρ, st1, e1.le S S1 hlo, S1, E.ext e1, ?_⟩
    simp only [Z.evals] at q1
    have q1' : Res G (Rep G) lo ms1 st1 H1 ((Z.eval Γ lo me ρ st1).bind fun y st2 => bmf .get lo x [y] st2) Q (fun c H' => W (.ref (G.ca c)) none σ H') := by
      cases hq : Z.eval Γ lo me ρ st1 with
      | ok y st2 => rw [hq] at q1; exact q1
      | exc c st2 => rw [hq] at q1; exact q1
      | bad => rw [hq] at q1; exact q1
    refine q1'.bind1 (rep := Rep G) fun y st2 ms2 H2 w e2 S2 r2 q2 => ?_
    simp only [bmf] at q2
    unfold fGet at q2
    simp only at q2
    split at q2
    · rename_i kvs hk
      obtain ⟨t, kvs⟩ := kvs
      split at q2
      · rename_i k hk'
        split at q2
        · rename_i hkt
          obtain ⟨a', ea, D⟩ := dctOf_ok S2 (Rep.ext e2 _ _ r1) hk
          cases ea
          obtain ⟨ov, g, ro⟩ := dget_ok S2 D r2 hk' hkt
          exact ⟨ov, g, q2.done S2 (ro.getD (by simp only [Rep]))⟩
        · exact q2.elim
      · exact q2.elim
    · exact q2.elim
  · exact q1.elim
theorem t_get2 (L : Lk X G Γ C) {o e f : Expr} {mo me mf : ME} {ap cp : Pos} (ho : PE X o (tE G lo W (Z.eval Γ lo mo))) (he : PE X e (tE G lo W (Z.eval Γ lo me))) (hf : PE X f (tE G lo W (Z.eval Γ lo mf)))
    (hs : notSuper o = true) (hl : (ap.endLine == cp.line) = true) (hst : isStar e = false) (hst' : isStar f = false) :
    PE X (.Call (.Attribute o "get" ap) [e, f] [] cp) (tE G lo W (Z.eval Γ lo (.bm .get2 mo (.cons me (.cons mf .nil))))) := by
  refine (L2.pe_dget2 (by have := L.hu; omega) ho he hf ⟨notSuper_base hs, few_of (by simp [hst, hst']) (by simp), hl, by rw [star_cons hst, star_cons hst'] <;> rfl⟩).weak fun σ H Q ⟨ms, ρ, st, hlo, S, E, q⟩ => ?_
  simp only [Z.eval] at q
  refine ⟨ms, ρ, st, hlo, S, E, q.bind1 (rep := Rep G) fun x st1 ms1 H1 u e1 S1 r1 q1 => ?_⟩
  split at q1
  · rename_i ht
    obtain ⟨a, rfl, hd⟩ := dct_isD S1 r1 ht
    refine ⟨a, rfl, hd, ms1, ρ, st1, e1.le S S1 hlo, S1, E.ext e1, ?_⟩
    simp only [Z.evals] at q1
    have q1' : Res G (Rep G) lo ms1 st1 H1 ((Z.eval Γ lo me ρ st1).bind fun y st2 => (Z.eval Γ lo mf ρ st2).bind fun z st3 => bmf .get2 lo x [y, z] st3) Q (fun c H' => W (.ref (G.ca c)) none σ H') := by
      cases hq : Z.eval Γ lo me ρ st1 with
      | ok y st2 =>
        rw [hq] at q1
        simp only [R.bind_ok] at q1 ⊢
        cases hq2 : Z.eval Γ lo mf ρ st2 with
        | ok z st3 => rw [hq2] at q1; exact q1
        | exc c st3 => rw [hq2] at q1; exact q1
        | bad => rw [hq2] at q1; exact q1
      | exc c st2 => rw [hq] at q1; exact q1
      | bad => rw [hq] at q1; exact q1
    refine q1'.bind1 (rep := Rep G) fun y st2 ms2 H2 w e2 S2 r2 q2 => ?_
    refine ⟨ms2, ρ, st2, e2.le S1 S2 (e1.le S S1 hlo), S2, (E.ext e1).ext e2, q2.bind1 (rep := Rep G) fun z st3 ms3 H3 w3 e3 S3 r3 q3 => ?_⟩
    simp only [bmf] at q3
    unfold fGet2 at q3
    simp only at q3
    split at q3
    · rename_i kvs hk
      obtain ⟨t, kvs⟩ := kvs
      split at q3
      · rename_i k hk'
        split at q3
        · rename_i hkt
          obtain ⟨a', ea, D⟩ := dctOf_ok S3 (Rep.ext e3 _ _ (Rep.ext e2 _ _ r1)) hk
          cases ea
          obtain ⟨ov, g, ro⟩ := dget_ok S3 D (Rep.ext e3 _ _ r2) hk' hkt
          exact ⟨ov, g, q3.done S3 (ro.getD r3)⟩
        · exact q3.elim
      · exact q3.elim
    · exact q3.elim
  · exact q1.elim

/-! ### upper -/
theorem upper_one : ∀ c : Nat, 97 ≤ c → c ≤ 122 → Unicode.upperOf c = [c - 32] := by
  have h : ∀ c ∈ List.range' 97 26, Unicode.upperOf c = [c - 32] := by decide +kernel
  intro c h1 h2
  exact h c (List.mem_range'.mpr ⟨c - 97, by omega, by omega⟩)

theorem upper_char {c : Char} (h1 : 97 ≤ c.toNat) (h2 : c.toNat ≤ 122) : (Char.toUpper c).toNat = c.toNat - 32 := by
  have hc : c = Char.ofNat c.toNat := (Char.ofNat_toNat c).symm
  have h : ∀ n ∈ List.range' 97 26, (Char.toUpper (Char.ofNat n)).toNat = n - 32 := by decide +kernel
  rw [hc, h c.toNat (List.mem_range'.mpr ⟨c.toNat - 97, by omega, by omega⟩), ← hc]
theorem upper_toS (s : Tx) (h : ∀ c ∈ s, 97 ≤ c.toNat ∧ c.toNat ≤ 122) : Txt.upper (toS s) = toS (s.map Char.toUpper) := by
  apply Str.ext'
  show placed (toS s) _ = _
  unfold placed toS
  apply Array.toList_inj.mp
  simp only [List.mapIdx_toArray, List.map_map]
  have : ∀ l : Tx, (∀ c ∈ l, 97 ≤ c.toNat ∧ c.toNat ≤ 122) → (l.map Char.toNat).map (fun c => (Unicode.upperOf c).toArray) = l.map fun c => #[(Char.toUpper c).toNat] := by
    intro l hl
    rw [List.map_map]
    refine List.map_congr_left fun c hc => ?_
    have := hl c hc
    simp only [Function.comp]
    rw [upper_one _ this.1 this.2, upper_char this.1 this.2]
  have e2 : (List.mapIdx (fun i c => (Unicode.upperOf c).toArray) (List.map Char.toNat s)) = (s.map Char.toNat).map (fun c => (Unicode.upperOf c).toArray) := by
    rw [List.mapIdx_eq_iff]
    intro i
    simp
  rw [e2, this s h]
  simp [List.map_map, Function.comp_def]
  clear this e2 h
  induction s with
  | nil => rfl
  | cons a r ih => simp [ih]
theorem upper_ok : MdF G lo (bmf .upper lo) (fun x xs H Q => ∃ a, x = .str a ∧ xs = [] ∧ a.length ≤ 5592405 ∧ Q (.str (Txt.upper a)) H) := by
  intro ms st H x u xs vs Q E hlo S rx rs h
  simp only [bmf] at h
  unfold fUpper at h
  split at h <;> try (exact h.elim)
  simp only [RepL] at rs
  subst rs
  simp only [Rep] at rx
  subst rx
  split at h
  · rename_i s hz
    refine ⟨_, rfl, rfl, by rw [toS_len]; omega, ?_⟩
    rw [upper_toS s fun c hc => by have := List.all_eq_true.mp hz.1 c hc; simpa using this]
    exact h.done S (by simp only [Rep])
  · exact h.elim
end
end Z

set_option maxHeartbeats 4000000
/-! Expressions as a whole. -/
namespace Z
open PySem PySem.Spec PyProof.Rows
open L2 (V HO Hp SqL SqT Rd upd upd_same upd_ne ne_of ne_of_none Cx PE PT PS PSs PA PG PGs PI PW Inv VK TE TA TS TT TG TGs RelV Vals Dp DpAll)

theorem chk_star {C : CC} {m : ME} {e : Expr} (h : chk C m e = true) : isStar e = false := by
  cases e with
  | Starred a p =>
    cases m with
    | const d => cases d <;> simp [chk] at h
    | _ => simp [chk] at h
  | _ => rfl
theorem chks_star {C : CC} : ∀ {m : MEs} {es : List Expr}, chks C m es = true → ∀ y ∈ es, isStar y = false
  | .nil, [], h, y, hy => by simp at hy
  | .nil, _ :: _, h, y, hy => by simp [chks] at h
  | .cons a r, [], h, y, hy => by simp at hy
  | .cons a r, e :: es, h, y, hy => by
    simp only [chks, Bool.and_eq_true] at h
    rcases List.mem_cons.mp hy with rfl | hy
    · exact chk_star h.1
    · exact chks_star h.2 y hy
theorem noMark {op : CmpOp} {e : Expr} (h : isSet e = false) : behindInMarks op e = false := by
  cases e <;> first | rfl | (simp [isSet] at h)
def opK : COp → CmpOp
  | .eq => .Eq | .ne => .NotEq | .lt => .Lt | .le => .LtE | .gt => .Gt | .ge => .GtE | .isIn => .In | .notIn => .NotIn | .is => .Is | .isNot => .IsNot
theorem opC_eq {o : COp} {p : CmpOp} (h : opC o p = true) : p = opK o := by
  cases o <;> cases p <;> first | rfl | (simp [opC] at h)

section
variable {Γ : Gam}

/-- a comparison's rule, by its operator -/
theorem cmp_rule {X : Cx} {G : Ctx} {C : CC} (L : Lk X G Γ C) {o : COp} {p : CmpOp} (h : opC o p = true) : ∃ r, L2.OpR X (compareOp p) r ∧ CmF G (cmpV o) r := by
  have hu := L.hu
  have e := opC_eq h
  subst e
  cases o with
  | eq => exact ⟨_, L2.op_eqD (by omega), L.K ▸ eq_okc⟩
  | ne => exact ⟨_, L2.op_neD (by omega), L.K ▸ ne_okc⟩
  | lt => exact ⟨_, L2.op_lt, lt_okc⟩
  | le => exact ⟨_, L2.op_le, le_okc⟩
  | gt => exact ⟨_, L2.op_gt, gt_okc⟩
  | ge => exact ⟨_, L2.op_ge, ge_okc⟩
  | isIn => exact ⟨_, op_in (by omega), L.K ▸ in_okc⟩
  | notIn => exact ⟨_, op_notIn (by omega), L.K ▸ notIn_okc⟩
  | is => exact ⟨_, op_is, is_okc⟩
  | isNot => exact ⟨_, op_isNot, isNot_okc⟩

/-- an expression and the same as a test -/
structure Both (X : Cx) (ex : Expr) (tt : TE) : Prop where
  e : PE X ex tt
  t : PT X ex (tB tt)
theorem Both.val {X : Cx} {e : Expr} {t : TE} (h : PE X e t) (he : ∀ whole, isTrue e X.env whole = (do let v ← whole; standAt e.pos; holding [v] (truthy v)) := by intro _; rfl) : Both X e t := ⟨h, L2.pt_val h he⟩
theorem pt_ifExp {X : Cx} {c a b : Expr} {pos : Pos} {tc ta tb : TT} (hc : PT X c tc) (ha : PT X a ta) (hb : PT X b tb) : PT X (.IfExp c a b pos) (fun σ H Q => tc σ H fun d H1 => if d = true then ta σ H1 Q else tb σ H1 Q) := by
  refine ⟨fun pins s σ H Q I h => ?_⟩
  show wpAny (model X.prog X.w) X.A (do if ← isTrue c X.env (PySem.eval c X.env) then isTrue a X.env (PySem.eval a X.env) else isTrue b X.env (PySem.eval b X.env)) _ _ s
  refine wpAny_bind (L2.thn (hc.run pins s σ H _ I h) fun d s1 ⟨H1, I1, q1⟩ => ?_)
  cases d with
  | true => exact ha.run pins s1 σ H1 Q I1 q1
  | false => exact hb.run pins s1 σ H1 Q I1 q1

theorem bm_get_chk {n : Str} {s : String} (h : n = Str.ofString s) : n = Str.ofString s := h

theorem eval_comp {Γ : Gam} {lo : Nat} {bx : Bool} {tg : Tg} {vs : List Nat} {it : MI} {cond : Option ME} {elt : ME} {ρ : Env} {st : Sto} : Z.eval Γ lo (.comp bx tg vs it cond elt) ρ st = compD bx tg vs (source Γ lo it) (cond.map (Z.eval Γ lo)) (Z.eval Γ lo elt) ρ st := by
  rw [Z.eval.eq_def]
  cases cond <;> rfl

theorem bmAr_le {m : Bm} {n : Nat} (h : bmAr m n = true) : n ≤ 2 := by
  unfold bmAr at h
  split at h <;> first | omega | (exact absurd h (by simp))

mutual
theorem sndE (m : ME) (e : Expr) (X : Cx) (G : Ctx) (C : CC) (lo : Nat) (W : L2.WX) (L : Lk X G Γ C) (tk : L2.Takes X W) (h : chk C m e = true) : Both X e (tE G lo W (Z.eval Γ lo m)) := by
  match m with
  | .const d =>
    cases e with
    | Constant c j pos =>
      cases d with
      | int i =>
        cases c with
        | int k => simp only [chk, decide_eq_true_eq] at h; subst h; exact .val (t_const L2.pe_int fun _ _ _ => by simp only [Rep])
        | _ => simp [chk] at h
      | str s =>
        cases c with
        | str k => simp only [chk, decide_eq_true_eq] at h; subst h; exact .val (t_const L2.pe_str fun _ _ _ => by simp only [Rep])
        | _ => simp [chk] at h
      | bool s =>
        cases c with
        | bool k => simp only [chk, beq_iff_eq] at h; subst h; exact .val (t_const L2.pe_bl fun _ _ _ => by simp only [Rep])
        | _ => simp [chk] at h
      | none =>
        cases c with
        | none => exact .val (t_const L2.pe_non fun _ _ _ => by simp only [Rep])
        | _ => simp [chk] at h
      | _ => simp [chk] at h
    | _ => cases d <;> simp [chk] at h
  | .var i =>
    cases e with
    | Name x pos =>
      simp only [chk, Bool.and_eq_true] at h
      have hn := nameAt_d h.1
      exact .val (t_var (L2.pe_var (by rw [L.N]; exact hn.1) (L.vis h.2) (sane_d hn.2).1 (sane_d hn.2).2.1))
    | _ => simp [chk] at h
  | .glob n d =>
    cases e with
    | Name x pos =>
      simp only [chk, Bool.and_eq_true, decide_eq_true_eq] at h
      obtain ⟨⟨⟨rfl, hs⟩, hg⟩, hd⟩ := h
      split at hd
      · rename_i i j hgl
        obtain ⟨u, v, h1, h2, h3⟩ := L.gl n _ hgl
        have : i = j := of_decide_eq_true hd
        subst this
        simp only at h3
        subst h3
        refine .val ((L2.pe_glob (L.glo hg) h1 h2 (sane_d hs).1).weak fun σ H Q ⟨ms, ρ, st, hl, S, E, q⟩ => ?_)
        simp only [Z.eval] at q
        exact q.done S (by simp only [Rep])
      · rename_i i j hgl
        obtain ⟨u, v, h1, h2, h3⟩ := L.gl n _ hgl
        have : i = j := of_decide_eq_true hd
        subst this
        simp only at h3
        subst h3
        refine .val ((L2.pe_glob (L.glo hg) h1 h2 (sane_d hs).1).weak fun σ H Q ⟨ms, ρ, st, hl, S, E, q⟩ => ?_)
        simp only [Z.eval] at q
        exact q.done S (by simp only [Rep])
      · cases hd
    | _ => simp [chk] at h
  | .bin op bx a b =>
    cases e with
    | BinOp l o r pos =>
      simp only [chk, Bool.and_eq_true] at h
      have ha := (sndE a l X G C lo W L tk h.1.2).e
      have hb := (sndE b r X G C lo W L tk h.2).e
      have ho := h.1.1
      refine .val ?_
      cases op with
      | add => cases o <;> first | (simp [opB] at ho; done) | exact t_bin op_add (L.K ▸ add_ok) ha hb
      | sub => cases o <;> first | (simp [opB] at ho; done) | exact t_bin L2.op_sub sub_ok ha hb
      | mul => cases o <;> first | (simp [opB] at ho; done) | exact t_bin op_mul (L.K ▸ mul_ok) ha hb
      | mod => cases o <;> first | (simp [opB] at ho; done) | exact t_bin L2.op_mod mod_ok ha hb
      | fdiv => cases o <;> first | (simp [opB] at ho; done) | exact t_bin L2.op_fdiv div_ok ha hb
      | pow => cases o <;> first | (simp [opB] at ho; done) | exact t_bin L2.op_pow pow_ok ha hb
    | _ => simp [chk] at h
  | .neg a =>
    cases e with
    | UnaryOp o x pos =>
      cases o <;> first | (simp [chk] at h; done) | skip
      simp only [chk] at h
      exact .val (t_neg (sndE a x X G C lo W L tk h).e)
    | _ => simp [chk] at h
  | .nt a =>
    cases e with
    | UnaryOp o x pos =>
      cases o <;> first | (simp [chk] at h; done) | skip
      simp only [chk] at h
      have ha := sndE a x X G C lo W L tk h
      exact ⟨t_not ha.e, t_notT ha.t⟩
    | _ => simp [chk] at h
  | .and a b =>
    cases e with
    | BoolOp o es pos =>
      cases o with
      | Or => simp [chk] at h
      | And =>
        match es, h with
        | [], h => simp [chk] at h
        | [_], h => simp [chk] at h
        | [x, y], h =>
          simp only [chk, Bool.and_eq_true] at h
          have ha := sndE a x X G C lo W L tk h.1
          have hb := sndE b y X G C lo W L tk h.2
          exact ⟨t_and ha.e (L2.pe_one hb.e), (t_andT ha.t (L2.pw_and1 hb.t)).pt⟩
        | x :: y :: z :: r, h =>
          simp only [chk, Bool.and_eq_true] at h
          have ha := sndE a x X G C lo W L tk h.1
          have hb := sndE b (.BoolOp .And (y :: z :: r) pos) X G C lo W L tk h.2
          exact ⟨t_and ha.e hb.e, (t_andT ha.t ⟨fun wh => hb.t.run⟩).pt⟩
    | _ => simp [chk] at h
  | .or a b =>
    cases e with
    | BoolOp o es pos =>
      cases o with
      | And => simp [chk] at h
      | Or =>
        match es, h with
        | [], h => simp [chk] at h
        | [_], h => simp [chk] at h
        | [x, y], h =>
          simp only [chk, Bool.and_eq_true] at h
          have ha := sndE a x X G C lo W L tk h.1
          have hb := sndE b y X G C lo W L tk h.2
          exact ⟨t_or ha.e (L2.pe_one hb.e), (t_orT ha.t (L2.pw_or1 hb.t)).pt⟩
        | x :: y :: z :: r, h =>
          simp only [chk, Bool.and_eq_true] at h
          have ha := sndE a x X G C lo W L tk h.1
          have hb := sndE b (.BoolOp .Or (y :: z :: r) pos) X G C lo W L tk h.2
          exact ⟨t_or ha.e hb.e, (t_orT ha.t ⟨fun wh => hb.t.run⟩).pt⟩
    | _ => simp [chk] at h
  | .cmp op a b =>
    cases e with
    | Compare l os rs pos =>
      match os, rs, h with
      | [o], [r], h =>
        simp only [chk, Bool.and_eq_true, Bool.not_eq_true'] at h
        have ha := (sndE a l X G C lo W L tk h.1.1.2).e
        have hb := (sndE b r X G C lo W L tk h.1.2).e
        obtain ⟨rr, h1, h2⟩ := cmp_rule L h.1.1.1
        exact ⟨t_cmp h1 h2 (noMark h.2) ha hb, t_cmpT h1 h2 (noMark h.2) ha hb⟩
      | [], _, h => simp [chk] at h
      | _ :: _ :: _, _, h => simp [chk] at h
      | [_], [], h => simp [chk] at h
      | [_], _ :: _ :: _, h => simp [chk] at h
    | _ => simp [chk] at h
  | .chain op op' a b c =>
    cases e with
    | Compare l os rs pos =>
      match os, rs, h with
      | [o, o'], [r, r'], h =>
        simp only [chk, Bool.and_eq_true, Bool.not_eq_true'] at h
        obtain ⟨⟨⟨⟨⟨⟨h1, h2⟩, h3⟩, h4⟩, h5⟩, h6⟩, h7⟩ := h
        have ha := (sndE a l X G C lo W L tk h3).e
        have hb := (sndE b r X G C lo W L tk h4).e
        have hc := (sndE c r' X G C lo W L tk h5).e
        obtain ⟨rr, g1, g2⟩ := cmp_rule L h1
        obtain ⟨rr', g3, g4⟩ := cmp_rule L h2
        have hm : lastMarks [o, o'] [r, r'] = false := noMark h7
        exact ⟨(L2.pe_chain g1 g3 ha hb hc hm).weak fun σ H Q q => chain_asks g2 g4 σ H Q q, (L2.pt_chain g1 g3 ha hb hc hm).weak fun σ H Q q => chain_asks g2 g4 σ H _ q⟩
      | [], _, h => simp [chk] at h
      | [_], _, h => simp [chk] at h
      | _ :: _ :: _ :: _, _, h => simp [chk] at h
      | [_, _], [], h => simp [chk] at h
      | [_, _], [_], h => simp [chk] at h
      | [_, _], _ :: _ :: _ :: _, h => simp [chk] at h
    | _ => simp [chk] at h
  | .ite c a b =>
    cases e with
    | IfExp t x y pos =>
      simp only [chk, Bool.and_eq_true] at h
      have hc := sndE c t X G C lo W L tk h.1.1
      have ha := sndE a x X G C lo W L tk h.1.2
      have hb := sndE b y X G C lo W L tk h.2
      refine ⟨t_ite hc.t ha.e hb.e, (pt_ifExp hc.t ha.t hb.t).weak fun σ H Q ⟨ms, ρ, st, hl, S, E, q⟩ => ?_⟩
      simp only [Z.eval] at q
      refine ⟨ms, ρ, st, hl, S, E, q.bind1 (rep := Rep G) fun x st1 ms1 H1 u e1 S1 r1 q1 => ?_⟩
      split at q1
      · refine ⟨true, rep_bool r1, L2.iteT ?_⟩
        exact ⟨ms1, ρ, st1, e1.le S S1 hl, S1, E.ext e1, q1⟩
      · refine ⟨false, rep_bool r1, L2.iteF ?_⟩
        exact ⟨ms1, ρ, st1, e1.le S S1 hl, S1, E.ext e1, q1⟩
      · exact q1.elim
    | _ => simp [chk] at h
  | .tup es =>
    cases e with
    | Tuple xs k pos => simp only [chk] at h; exact .val (t_tup (sndEs es xs X G C lo W L tk h))
    | _ => simp [chk] at h
  | .lst bx es =>
    cases e with
    | List xs pos => simp only [chk] at h; exact .val (t_lst (sndEs es xs X G C lo W L tk h))
    | _ => simp [chk] at h
  | .dict0 t =>
    cases e with
    | Dict ks vs pos =>
      match ks, vs, h with
      | [], [], h => exact .val t_dict0
      | _ :: _, _, h => simp [chk] at h
      | [], _ :: _, h => simp [chk] at h
    | _ => simp [chk] at h
  | .call f es =>
    cases e with
    | Call fe as ks pos =>
      cases fe with
      | Name x p =>
        cases as with
        | nil => simp [chk] at h
        | cons a r =>
          cases ks with
          | cons _ _ => simp [chk] at h
          | nil =>
            simp only [chk, Bool.and_eq_true] at h
            obtain ⟨⟨⟨h1, h2⟩, h3⟩, h4⟩ := h
            split at h3
            · rename_i n hn
              exact .val (t_call L tk hn (of_decide_eq_true h3) h1 h2 (sndEs es (a :: r) X G C lo W L tk h4) (chks_star h4))
            · cases h3
      | _ => simp [chk] at h
    | _ => simp [chk] at h
  | .make c es => cases e <;> simp [chk] at h
  | .meth o m' es => cases e <;> simp [chk] at h
  | .attr o f => cases e <;> simp [chk] at h
  | .bi b bx es =>
    cases e with
    | Call fe as ks pos =>
      cases fe with
      | Name x p =>
        cases as with
        | nil => simp [chk] at h
        | cons a r =>
          cases ks with
          | cons _ _ => simp [chk] at h
          | nil =>
            simp only [chk, Bool.and_eq_true, decide_eq_true_eq] at h
            obtain ⟨⟨⟨h1, h2⟩, h3⟩, h4⟩ := h
            exact .val (t_bi L b bx h3 h1 h2 (sndEs es (a :: r) X G C lo W L tk h4) (chks_star h4))
      | _ => simp [chk] at h
    | _ => simp [chk] at h
  | .isinst a t =>
    cases e with
    | Call fe as ks pos =>
      cases fe with
      | Name x p =>
        cases as with
        | nil => simp [chk] at h
        | cons y r =>
          cases r with
          | nil => simp [chk] at h
          | cons z r =>
            cases r with
            | cons _ _ => simp [chk] at h
            | nil =>
              cases ks with
              | cons _ _ => cases z <;> simp [chk] at h
              | nil =>
                cases z with
                | Name z p2 =>
                  simp only [chk, Bool.and_eq_true, decide_eq_true_eq] at h
                  obtain ⟨⟨⟨⟨⟨⟨⟨h1, h2⟩, h3⟩, h4⟩, h5⟩, h6⟩, h7⟩, h8⟩ := h
                  exact .val (t_isinst L h5 h1 h2 h6 h3 h4 h7 (sndE a y X G C lo W L tk h8).e (chk_star h8))
                | _ => simp [chk] at h
      | _ => simp [chk] at h
    | _ => simp [chk] at h
  | .bm m' o es =>
    cases e with
    | Call fe as ks cp =>
      cases fe with
      | Attribute ob n ap =>
        cases ks with
        | cons _ _ => simp [chk] at h
        | nil =>
          simp only [chk, Bool.and_eq_true, decide_eq_true_eq] at h
          obtain ⟨⟨⟨⟨⟨h1, h2⟩, h3⟩, h4⟩, h5⟩, h6⟩ := h
          have ho := (sndE o ob X G C lo W L tk h5).e
          have hst := chks_star h6
          subst h2
          have lstT : ∀ (ms : List Addr) (st : Sto) (H : Hp) (x : PV) (u : V), SOk G ms st H → Rep G ms st H x u → bmTy m' st x = true → (m' = .append ∨ m' = .extend ∨ m' = .insert ∨ m' = .pop) → L2.tyV G.K "list" u H := fun ms st H x u S r hb hm => by
            refine lst_ty S r ?_
            rcases hm with rfl | rfl | rfl | rfl <;> (cases x <;> simp [bmTy] at hb ⊢ <;> exact hb)
          have hes := sndEs es as X G C lo W L tk h6
          cases as with
          | nil =>
            cases es with
            | cons _ _ => simp [chks] at h6
            | nil =>
              cases m' with
              | pop => exact .val (t_bm0 L PySem.F.plainAttrs_list PySem.F.slot_list_pop PySem.F.type_list_pop L2.mt_pop pop_ok (fun ms st H x u S r hb => lstT ms st H x u S r hb (by simp)) ho h1 h3)
              | upper => exact .val (t_bm0 L PySem.F.plainAttrs_str PySem.F.slot_str_upper PySem.F.type_str_upper L2.mt_upper upper_ok (fun ms st H x u S r hb => by
                  cases x <;> simp [bmTy] at hb
                  simp only [Rep] at r
                  subst r
                  rfl) ho h1 h3)
              | _ => simp [bmAr] at h4
          | cons a r =>
            have h20 : (a :: r).length < 20 := by
              have : (a :: r).length ≤ 2 := by
                exact bmAr_le h4
              omega
            cases m' with
            | append => exact .val (t_bmL L PySem.F.plainAttrs_list PySem.F.slot_list_append PySem.F.type_list_append L2.mt_append append_ok (fun ms st H x u S r hb => lstT ms st H x u S r hb (by simp)) ho hes h1 h3 hst h20)
            | extend => exact .val (t_bmL L PySem.F.plainAttrs_list PySem.F.slot_list_extend PySem.F.type_list_extend mt_extendR extend_ok (fun ms st H x u S r hb => lstT ms st H x u S r hb (by simp)) ho hes h1 h3 hst h20)
            | insert => exact .val (t_bmL L PySem.F.plainAttrs_list PySem.F.slot_list_insert PySem.F.type_list_insert L2.mt_insert insert_ok (fun ms st H x u S r hb => lstT ms st H x u S r hb (by simp)) ho hes h1 h3 hst h20)
            | get =>
              cases r with
              | cons _ _ => simp [bmAr] at h4
              | nil =>
                cases es with
                | nil => simp [chks] at h6
                | cons me es =>
                  cases es with
                  | cons _ _ => simp [chks] at h6
                  | nil =>
                    simp only [chks, Bool.and_eq_true] at h6
                    exact .val (t_get L ho (sndE me a X G C lo W L tk h6.1).e h1 h3 (chk_star h6.1))
            | get2 =>
              cases r with
              | nil => simp [bmAr] at h4
              | cons b r =>
                cases r with
                | cons _ _ => simp [bmAr] at h4
                | nil =>
                  cases es with
                  | nil => simp [chks] at h6
                  | cons me es =>
                    cases es with
                    | nil => simp [chks] at h6
                    | cons mf es =>
                      cases es with
                      | cons _ _ => simp [chks] at h6
                      | nil =>
                        simp only [chks, Bool.and_eq_true] at h6
                        exact .val (t_get2 L ho (sndE me a X G C lo W L tk h6.1).e (sndE mf b X G C lo W L tk h6.2.1).e h1 h3 (chk_star h6.1) (chk_star h6.2.1))
            | _ => cases r <;> simp [bmAr] at h4
      | _ => simp [chk] at h
    | _ => simp [chk] at h
  | .idx a i =>
    cases e with
    | Subscript x y pos =>
      simp only [chk, Bool.and_eq_true, Bool.not_eq_true'] at h
      exact .val (t_idx L h.1.1 (sndE a x X G C lo W L tk h.1.2).e (sndE i y X G C lo W L tk h.2).e)
    | _ => simp [chk] at h
  | .slice bx a l u =>
    cases e with
    | Subscript x y pos =>
      cases y with
      | Slice l' u' s' p2 =>
        cases s' with
        | some _ => simp [chk] at h
        | none =>
          simp only [chk, Bool.and_eq_true] at h
          exact .val (t_slice L (sndE a x X G C lo W L tk h.1.1).e (sndO l l' X G C lo W L tk h.1.2) (sndO u u' X G C lo W L tk h.2))
      | _ => simp [chk] at h
    | _ => simp [chk] at h
  | .comp bx tg vs it cond elt =>
    cases e with
    | ListComp ex gens scope pos =>
      match gens, h with
      | [⟨t, ie, ifs, a⟩], h =>
        simp only [chk, Bool.and_eq_true, decide_eq_true_eq] at h
        obtain ⟨⟨⟨⟨⟨⟨⟨h1, h2⟩, h3⟩, h4⟩, h5⟩, h6⟩, h7⟩, h8⟩ := h
        subst h8
        have hi := sndI it t ie X G C lo W L tk h2
        have ok : L2.BlkOk X.N X.env.scope scope (vs.map fun i => (C.N.getD i Str.empty, i)) := L2.blkOk_by (by rw [L.N, L.sc]; exact h1)
        have ev : (vs.map fun i => (C.N.getD i Str.empty, i)).map (·.2) = vs := by
          rw [List.map_map]
          exact (List.map_congr_left fun _ _ => rfl).trans (List.map_id _)
        have hv : ∀ i ∈ tgVars tg, i ∈ vs := fun i hi => by simpa using List.all_eq_true.mp h4 i hi
        have he : ∀ (s : Shared) (H : Hp) (A : Addr) (cl : List (Str × Addr)) (fp : List Addr), PE (X.blk s H scope (compEnvC scope cl A X.env) fp) ex (teX G lo (Z.eval Γ lo elt)) := fun s H A cl fp =>
          pe_ex fun D => (sndE elt ex _ (G.plus D) _ lo WF (L.blk (D := D)) takesF h5).e
        have hg : ∀ (s : Shared) (H : Hp) (A : Addr) (cl : List (Str × Addr)) (fp : List Addr), PG (X.blk s H scope (compEnvC scope cl A X.env) fp) t (gOf X.K tg) := fun s H A cl fp => pg_of (L.blk (G := G) (D := 0)) tg t h3
        have ht : ∀ (s : Shared) (H : Hp) (A : Addr) (cl : List (Str × Addr)) (fp : List Addr), L2.PTs (X.blk s H scope (compEnvC scope cl A X.env) fp) ifs (ttX G lo (cond.map (Z.eval Γ lo))) := fun s H A cl fp => by
          match cond, ifs, h6 with
          | none, [], _ => exact L2.pts_nil
          | some c, [x], h6 =>
            simp only [chkF] at h6
            exact pts_ex fun D => L2.pts_one (sndE c x _ (G.plus D) _ lo WF (L.blk (D := D)) takesF h6).t
          | none, _ :: _, h6 => simp [chkF] at h6
          | some _, [], h6 => simp [chkF] at h6
          | some _, _ :: _ :: _, h6 => simp [chkF] at h6
        refine .val ((L2.pe_lc L.calm (by rw [L.N]; exact L.nd) hi.1 ok hg ht he (foldS hi.2)).weak fun σ H Q q => ?_)
        rw [ev]
        refine comp_asks L hv σ H Q (bx := bx) ?_
        obtain ⟨ms, ρ, st, hl, S, E, q⟩ := q
        refine ⟨ms, ρ, st, hl, S, E, ?_⟩
        rw [eval_comp] at q
        exact q
      | [], h => simp [chk] at h
      | _ :: _ :: _, h => simp [chk] at h
    | _ => simp [chk] at h
theorem sndEs (m : MEs) (es : List Expr) (X : Cx) (G : Ctx) (C : CC) (lo : Nat) (W : L2.WX) (L : Lk X G Γ C) (tk : L2.Takes X W) (h : chks C m es = true) : PA X es (tEs G lo W (Z.evals Γ lo m)) := by
  match m, es, h with
  | .nil, [], h => exact t_nil
  | .nil, _ :: _, h => simp [chks] at h
  | .cons a r, [], h => simp [chks] at h
  | .cons a r, e :: es, h =>
    simp only [chks, Bool.and_eq_true] at h
    exact t_cons (sndE a e X G C lo W L tk h.1).e (sndEs r es X G C lo W L tk h.2) (chk_star h.1)
theorem sndO (m : Option ME) (e : Option Expr) (X : Cx) (G : Ctx) (C : CC) (lo : Nat) (W : L2.WX) (L : Lk X G Γ C) (tk : L2.Takes X W) (h : chkO C m e = true) : L2.PO X e (tO G lo W (evalO Γ lo m)) := by
  match m, e, h with
  | none, none, h => exact t_none
  | none, some _, h => simp [chkO] at h
  | some _, none, h => simp [chkO] at h
  | some m, some e, h =>
    simp only [chkO] at h
    exact t_some (sndE m e X G C lo W L tk h).e
theorem sndI (m : MI) (tg e : Expr) (X : Cx) (G : Ctx) (C : CC) (lo : Nat) (W : L2.WX) (L : Lk X G Γ C) (tk : L2.Takes X W) (h : chkI C m tg e = true) : PI X tg e (tI G lo W (source Γ lo m)) ∧ isSet e = false := by
  match m with
  | .seq a =>
    simp only [chkI, Bool.and_eq_true, Bool.not_eq_true'] at h
    exact ⟨t_seq L (sndE a e X G C lo W L tk h.1).e, h.2⟩
  | .range1 a =>
    cases e with
    | Call fe as ks pos =>
      cases fe with
      | Name x p =>
        match as, ks, h with
        | [y], [], h =>
          simp only [chkI, Bool.and_eq_true, decide_eq_true_eq] at h
          exact ⟨t_range1 L h.1.2 h.1.1 (sndE a y X G C lo W L tk h.2).e (chk_star h.2), rfl⟩
        | [], _, h => simp [chkI] at h
        | _ :: _ :: _, _, h => simp [chkI] at h
        | [_], _ :: _, h => simp [chkI] at h
      | _ => simp [chkI] at h
    | _ => simp [chkI] at h
  | .range2 a b =>
    cases e with
    | Call fe as ks pos =>
      cases fe with
      | Name x p =>
        match as, ks, h with
        | [y, z], [], h =>
          simp only [chkI, Bool.and_eq_true, decide_eq_true_eq] at h
          exact ⟨t_range2 L h.1.1.2 h.1.1.1 (sndE a y X G C lo W L tk h.1.2).e (sndE b z X G C lo W L tk h.2).e (chk_star h.1.2) (chk_star h.2), rfl⟩
        | [], _, h => simp [chkI] at h
        | [_], _, h => simp [chkI] at h
        | _ :: _ :: _ :: _, _, h => simp [chkI] at h
        | [_, _], _ :: _, h => simp [chkI] at h
      | _ => simp [chkI] at h
    | _ => simp [chkI] at h
  | .enum a =>
    cases e with
    | Call fe as ks pos =>
      cases fe with
      | Name x p =>
        match as, ks, h with
        | [y], [], h =>
          simp only [chkI, Bool.and_eq_true, decide_eq_true_eq] at h
          exact ⟨t_enum L h.1.1.1 h.1.2 h.1.1.2 (sndE a y X G C lo W L tk h.2).e (chk_star h.2), rfl⟩
        | [], _, h => simp [chkI] at h
        | _ :: _ :: _, _, h => simp [chkI] at h
        | [_], _ :: _, h => simp [chkI] at h
      | _ => simp [chkI] at h
    | _ => simp [chkI] at h
  | .zip a b =>
    cases e with
    | Call fe as ks pos =>
      cases fe with
      | Name x p =>
        match as, ks, h with
        | [y, z], [], h =>
          simp only [chkI, Bool.and_eq_true, decide_eq_true_eq] at h
          exact ⟨t_zip L h.1.1.1.1 h.1.1.2 h.1.1.1.2 (sndE a y X G C lo W L tk h.1.2).e (sndE b z X G C lo W L tk h.2).e (chk_star h.1.2) (chk_star h.2), rfl⟩
        | [], _, h => simp [chkI] at h
        | [_], _, h => simp [chkI] at h
        | _ :: _ :: _ :: _, _, h => simp [chkI] at h
        | [_, _], _ :: _, h => simp [chkI] at h
      | _ => simp [chkI] at h
    | _ => simp [chkI] at h
end
end
end Z

/-! Whether a text of the small language is a text of the program: statements. -/
namespace Z
open PySem (Str Expr Stmt Scope NameKind CmpOp Operator UnaryOp Const Comprehension ScopeKind)

def isTup : Expr → Bool
  | .Tuple .. => true
  | _ => false
def isComp : Expr → Bool
  | .ListComp .. | .SetComp .. | .DictComp .. => true
  | _ => false
mutual
def chkS (C : CC) : MS → Stmt → Bool
  | .asg (.name i) e, .Assign [t] x _ => chkG C (.name i) t && chk C e x
  | .asg (.tup l) e, .Assign [t] x _ => chkG C (.tup l) t && chk C e x && !isTup x
  | .expr e, .Expr x _ => chk C e x && !isComp x
  | .ite c a b, .If x p q _ => chk C c x && chkSs C a p && chkSs C b q
  | .whl _ c b, .While x p [] _ => chk C c x && chkSs C b p
  | .for_ tg it b, .For t x p [] _ => chkG C tg t && chkI C it t x && chkSs C b p
  | .ret e, .Return (some x) _ => chk C e x
  | .retN, .Return none _ => true
  | .pass, .Pass _ => true
  | _, _ => false
def chkSs (C : CC) : MSs → List Stmt → Bool
  | .nil, [] => true
  | .frz _ r, sts => chkSs C r sts
  | .cons s r, st :: sts => chkS C s st && chkSs C r sts
  | _, _ => false
end
end Z

set_option maxHeartbeats 4000000
/-! Statements: what they come to. -/
namespace Z
open PySem PySem.Spec PyProof.Rows
open L2 (V HO Hp SqL SqT Rd upd upd_same upd_ne ne_of ne_of_none Cx PE PT PS PSs PA PG PGs PI PW Inv VK TE TA TS TT TG TGs RelV Vals Dp DpAll)

theorem _root_.L2.PS.weak {X : Cx} {e : Stmt} {t t' : TS} (h : PS X e t) (m : ∀ D σ H, t' D σ H → t D σ H) : PS X e t' := ⟨fun pins s σ H D I q => h.run pins s σ H D I (m D σ H q)⟩
theorem _root_.L2.PSs.weak {X : Cx} {e : List Stmt} {t t' : TS} (h : PSs X e t) (m : ∀ D σ H, t' D σ H → t D σ H) : PSs X e t' := ⟨fun pins s σ H D I q => h.run pins s σ H D I (m D σ H q)⟩

section
variable {G : Ctx} {lo : Nat} {ms ms1 : List Addr} {st st1 : Sto} {H H1 : Hp}
/-- r leads to the ends N, R, or to E -/
def ResS (G : Ctx) (lo : Nat) (ms : List Addr) (st : Sto) (H : Hp) (r : RS) (N : L2.St → Hp → Prop) (T : V → Hp → Prop) (E : Nat → L2.St → Hp → Prop) : Prop := match r with
  | .nx ρ st' => ∀ ms' H' σ', Ext G.rsv lo ms st H ms' st' H' → SOk G ms' st' H' → EOk G ms' st' H' ρ σ' → N σ' H'
  | .ret v st' => ∀ ms' H' u, Ext G.rsv lo ms st H ms' st' H' → SOk G ms' st' H' → Rep G ms' st' H' v u → T u H'
  | .exc c ρ st' => ∀ ms' H' σ', Ext G.rsv lo ms st H ms' st' H' → SOk G ms' st' H' → EOk G ms' st' H' ρ σ' → E c σ' H'
  | .bad => False
variable {N N' : L2.St → Hp → Prop} {T : V → Hp → Prop} {E : Nat → L2.St → Hp → Prop}
theorem ResS.after {r : RS} (h : ResS G lo ms st H r N T E) (e : Ext G.rsv lo ms st H ms1 st1 H1) : ResS G lo ms1 st1 H1 r N T E := by
  cases r with
  | nx ρ st' => exact fun ms' H' u e' => h ms' H' u (e.trans e')
  | ret ρ st' => exact fun ms' H' u e' => h ms' H' u (e.trans e')
  | exc c ρ st' => exact fun ms' H' u e' => h ms' H' u (e.trans e')
  | bad => exact h
theorem ResS.then1 {α β : Type} {rep : List Addr → Sto → Hp → α → β → Prop} {r : R α} {ρ : Env} {σ : L2.St} {f : α → Sto → RS} {Q1 : β → Hp → Prop} (h : ResS G lo ms st H (r.then ρ f) N T E) (EO : EOk G ms st H ρ σ)
    (k : ∀ x st1 ms1 H1 u, Ext G.rsv lo ms st H ms1 st1 H1 → SOk G ms1 st1 H1 → rep ms1 st1 H1 x u → ResS G lo ms1 st1 H1 (f x st1) N T E → Q1 u H1) : Res G rep lo ms st H r Q1 (fun c H' => E c σ H') := by
  cases r with
  | ok x st1 => exact fun ms1 H1 u e S r => k x st1 ms1 H1 u e S r (h.after e)
  | exc c st1 => exact fun ms1 H1 e S => h ms1 H1 σ e S (EO.ext e)
  | bad => exact h
theorem ResS.next1 {r : RS} {f : Env → Sto → RS} (h : ResS G lo ms st H (r.next f) N T E)
    (k : ∀ ρ' st' ms' H' σ', Ext G.rsv lo ms st H ms' st' H' → SOk G ms' st' H' → EOk G ms' st' H' ρ' σ' → ResS G lo ms' st' H' (f ρ' st') N T E → N' σ' H') : ResS G lo ms st H r N' T E := by
  cases r with
  | nx ρ st' => exact fun ms' H' σ' e S EO => k ρ st' ms' H' σ' e S EO (h.after e)
  | ret v st' => exact h
  | exc c ρ st' => exact h
  | bad => exact h
theorem ResS.nx {ρ : Env} {σ : L2.St} (h : ResS G lo ms st H (.nx ρ st) N T E) (S : SOk G ms st H) (EO : EOk G ms st H ρ σ) : N σ H := h ms H σ Ext.refl S EO
theorem ResS.rt {v : PV} {u : V} (h : ResS G lo ms st H (.ret v st) N T E) (S : SOk G ms st H) (r : Rep G ms st H v u) : T u H := h ms H u Ext.refl S r
end

/-- what a statement comes to -/
def tS (G : Ctx) (lo : Nat) (W : L2.WX) (d : Env → Sto → RS) : TS := fun D σ H => ∃ ms ρ st, lo ≤ st.length ∧ SOk G ms st H ∧ EOk G ms st H ρ σ ∧ ResS G lo ms st H (d ρ st) D.nx D.rt fun c σ H' => W (.ref (G.ca c)) none σ H'

section
variable {X : Cx} {G : Ctx} {Γ : Gam} {C : CC} {lo : Nat} {W : L2.WX} {pos : Pos}

theorem s_nil : PSs X [] (tS G lo W (execs Γ lo .nil)) := L2.pss_nil.weak fun D σ H ⟨ms, ρ, st, hl, S, E, q⟩ => by
  simp only [execs] at q
  exact q.nx S E
theorem s_cons {s : Stmt} {sts : List Stmt} {d d' : Env → Sto → RS} (h1 : PS X s (tS G lo W d)) (h2 : PSs X sts (tS G lo W d')) : PSs X (s :: sts) (tS G lo W fun ρ st => (d ρ st).next d') :=
  (L2.pss_cons h1 h2).weak fun D σ H ⟨ms, ρ, st, hl, S, E, q⟩ => ⟨ms, ρ, st, hl, S, E, q.next1 fun ρ' st' ms' H' σ' e S' E' q' => ⟨ms', ρ', st', e.le S S' hl, S', E', q'⟩⟩
theorem s_expr {e : Expr} {d : Env → Sto → R PV} (he : PE X e (tE G lo W d)) (hc : isComp e = false) : PS X (.Expr e pos) (tS G lo W fun ρ st => (d ρ st).then ρ fun _ st1 => .nx ρ st1) :=
  (L2.ps_expr he (by cases e <;> first | rfl | (simp [isComp] at hc))).weak fun D σ H ⟨ms, ρ, st, hl, S, E, q⟩ => ⟨ms, ρ, st, hl, S, E, q.then1 (rep := Rep G) E fun x st1 ms1 H1 u e1 S1 r1 q1 => q1.nx S1 (E.ext e1)⟩
theorem s_ret {e : Expr} {d : Env → Sto → R PV} (he : PE X e (tE G lo W d)) : PS X (.Return (some e) pos) (tS G lo W fun ρ st => (d ρ st).then ρ fun v st1 => .ret v st1) :=
  (L2.ps_ret he).weak fun D σ H ⟨ms, ρ, st, hl, S, E, q⟩ => ⟨ms, ρ, st, hl, S, E, q.then1 (rep := Rep G) E fun x st1 ms1 H1 u e1 S1 r1 q1 => q1.rt S1 r1⟩
theorem s_retN : PS X (.Return none pos) (tS G lo W fun ρ st => .ret .none st) :=
  L2.ps_retN.weak fun D σ H ⟨ms, ρ, st, hl, S, E, q⟩ => q.rt S (by simp only [Rep])
theorem s_pass : PS X (.Pass pos) (tS G lo W fun ρ st => .nx ρ st) := L2.ps_pass.weak fun D σ H ⟨ms, ρ, st, hl, S, E, q⟩ => q.nx S E
theorem s_if {c : Expr} {a b : List Stmt} {dc : Env → Sto → R PV} {da db : Env → Sto → RS} (hc : PT X c (tB (tE G lo W dc))) (ha : PSs X a (tS G lo W da)) (hb : PSs X b (tS G lo W db)) :
    PS X (.If c a b pos) (tS G lo W fun ρ st => (dc ρ st).then ρ fun x st1 => match x with | .bool true => da ρ st1 | .bool false => db ρ st1 | _ => .bad) :=
  (L2.ps_if hc ha hb).weak fun D σ H ⟨ms, ρ, st, hl, S, E, q⟩ => ⟨ms, ρ, st, hl, S, E, q.then1 (rep := Rep G) E fun x st1 ms1 H1 u e1 S1 r1 q1 => by
    split at q1
    · refine ⟨true, rep_bool r1, ?_⟩
      refine L2.iteT ?_
      exact ⟨ms1, ρ, st1, e1.le S S1 hl, S1, E.ext e1, q1⟩
    · refine ⟨false, rep_bool r1, ?_⟩
      refine L2.iteF ?_
      exact ⟨ms1, ρ, st1, e1.le S S1 hl, S1, E.ext e1, q1⟩
    · exact q1.elim⟩
theorem s_while {c : Expr} {b : List Stmt} {n : Nat} {dc : Env → Sto → R PV} {db : Env → Sto → RS} (hp : PassesOwn (model X.prog X.w) X.A X.env X.xe) (hc : PT X c (tB (tE G lo W dc))) (hb : PSs X b (tS G lo W db)) :
    PS X (.While c b [] pos) (tS G lo W fun ρ st => whlF dc db n ρ st) :=
  (L2.ps_while hp hc hb).weak fun D σ H ⟨ms, ρ, st, hl, S, E, q⟩ => by
    refine ⟨fun m σ H => ∃ ms ρ st, lo ≤ st.length ∧ SOk G ms st H ∧ EOk G ms st H ρ σ ∧ ResS G lo ms st H (whlF dc db m ρ st) D.nx D.rt fun c σ H' => W (.ref (G.ca c)) none σ H', ⟨n, ms, ρ, st, hl, S, E, q⟩, ?_⟩
    rintro m σ H ⟨ms, ρ, st, hl, S, E, q⟩
    cases m with
    | zero => exact q.elim
    | succ m =>
      unfold whlF at q
      refine ⟨ms, ρ, st, hl, S, E, q.then1 (rep := Rep G) E fun x st1 ms1 H1 u e1 S1 r1 q1 => ?_⟩
      split at q1
      · refine ⟨true, rep_bool r1, ?_⟩
        refine L2.iteT ?_
        refine ⟨fun σ H => ∃ ms ρ st, lo ≤ st.length ∧ SOk G ms st H ∧ EOk G ms st H ρ σ ∧ ResS G lo ms st H (whlF dc db m ρ st) D.nx D.rt fun c σ H' => W (.ref (G.ca c)) none σ H', fun σ' H' z => ⟨m, Nat.lt_succ_self m, z⟩, ?_⟩
        exact ⟨ms1, ρ, st1, e1.le S S1 hl, S1, E.ext e1, q1.next1 fun ρ' st' ms' H' σ' e' S' E' q' => ⟨ms', ρ', st', e'.le S1 S' (e1.le S S1 hl), S', E', q'⟩⟩
      · refine ⟨false, rep_bool r1, ?_⟩
        refine L2.iteF ?_
        exact q1.nx S1 (E.ext e1)
      · exact q1.elim

/-- a turn of a loop: the target's store, the body -/
theorem turn_ok {tg : Tg} {b : Env → Sto → RS} {K : PySem.W.Frag} {x : PV} {u : V} {ms : List Addr} {st : Sto} {H : Hp} {ρ : Env} {σ : L2.St} {D D' : L2.Ends} {f : Env → Sto → RS} (hK : K = G.K) (hl : lo ≤ st.length) (S : SOk G ms st H) (E : EOk G ms st H ρ σ) (rx : Rep G ms st H x u)
    (h : ResS G lo ms st H ((match assign tg x ρ with | some ρ2 => b ρ2 st | none => .bad : RS).next f) D.nx D.rt fun c σ H' => W (.ref (G.ca c)) none σ H') (hr : D'.rt = D.rt)
    (k : ∀ ρ' st' ms' H' σ', Ext G.rsv lo ms st H ms' st' H' → SOk G ms' st' H' → EOk G ms' st' H' ρ' σ' → ResS G lo ms' st' H' (f ρ' st') D.nx D.rt (fun c σ H' => W (.ref (G.ca c)) none σ H') → D'.nx σ' H') :
    gOf K tg u σ H fun σ2 H2 => tS G lo W b D' σ2 H2 := by
  cases ha : assign tg x ρ with
  | none => simp only [ha] at h; exact h.elim
  | some ρ2 =>
    simp only [ha] at h
    refine assign_ok hK tg x u _ ρ2 _ _ rx E ha fun σ2 E2 k2 => ?_
    refine ⟨ms, ρ2, st, hl, S, E2, ?_⟩
    rw [hr]
    exact h.next1 k

theorem s_for {tg : Tg} {t iter : Expr} {body : List Stmt} {ds : Env → Sto → R Src} {db : Env → Sto → RS} (L : Lk X G Γ C) (hp : PassesOwn (model X.prog X.w) X.A X.env X.xe) (hi : PI X t iter (tI G lo W ds)) (hs : isSet iter = false) (hg : PG X t (gOf X.K tg)) (hb : PSs X body (tS G lo W db)) :
    PS X (.For t iter body [] pos) (tS G lo W fun ρ st => (ds ρ st).then ρ fun s st1 =>
      let body : PV → Env → Sto → RS := fun x ρ1 st2 => match assign tg x ρ1 with
        | some ρ2 => db ρ2 st2
        | none => .bad
      match s with
      | .fix xs => forFix body xs ρ st1
      | .live i => forLive i body (match st1[i]? with | some (.lst xs) => xs.length + 1 | _ => 0) 0 ρ st1
      | .liveE _ => .bad) :=
  (L2.ps_for hp L.calm hi hg hb (foldS hs)).weak fun D σ H ⟨ms, ρ, st, hl, S, E, q⟩ => ⟨ms, ρ, st, hl, S, E, q.then1 (rep := SrcOk G lo) E fun s st1 ms1 H1 J e1 S1 r1 q1 => by
    have hl1 := e1.le S S1 hl
    have E1 := E.ext e1
    simp only at q1
    generalize hbd : (fun (x : PV) (ρ1 : Env) (st2 : Sto) => match assign tg x ρ1 with
        | some ρ2 => db ρ2 st2
        | none => (.bad : RS)) = bd at q1
    cases s with
    | fix xs =>
      simp only at q1
      refine ⟨fun i m σ H => m = xs.length - i ∧ i ≤ xs.length ∧ ∃ ms ρ st, Ext G.rsv lo ms1 st1 H1 ms st H ∧ lo ≤ st.length ∧ SOk G ms st H ∧ EOk G ms st H ρ σ ∧ ResS G lo ms st H (forFix bd (xs.drop i) ρ st) D.nx D.rt fun c σ H' => W (.ref (G.ca c)) none σ H',
        ⟨xs.length, by simp, Nat.zero_le _, ms1, ρ, st1, Ext.refl, hl1, S1, E1, q1⟩, ?_⟩
      rintro i m σ H ⟨rfl, hi, ms, ρ, st, e, hl, S, E, q⟩
      have hJ' := r1 G ms st H e.carry
      by_cases hlt : i < xs.length
      · rw [List.drop_eq_getElem_cons hlt] at q
        simp only [forFix] at q
        obtain ⟨hg, hy⟩ := hJ'.2 i xs[i] (by simp [hlt])
        refine .inr ⟨hg, fun σ' H' => i + 1 ≤ xs.length ∧ ∃ ms ρ st, Ext G.rsv lo ms1 st1 H1 ms st H' ∧ lo ≤ st.length ∧ SOk G ms st H' ∧ EOk G ms st H' ρ σ' ∧ ResS G lo ms st H' (forFix bd (xs.drop (i + 1)) ρ st) D.nx D.rt fun c σ H' => W (.ref (G.ca c)) none σ H',
          fun σ' H' ⟨h1, h2⟩ => ⟨xs.length - (i + 1), by omega, rfl, h1, h2⟩, fun x H' yl => ?_⟩
        obtain ⟨gr, rx⟩ := hy x H' yl
        have e0 : Ext G.rsv lo ms st H ms st H' := Ext.grow gr
        have S' := S.grow gr
        have q' := q.after e0
        rw [← hbd] at q'
        refine turn_ok L.K hl S' (E.ext e0) rx q' rfl fun ρ' st' ms' H'' σ' e' S'' E' q'' => ⟨hlt, ms', ρ', st', (e.trans e0).trans e', e'.le S' S'' hl, S'', E', ?_⟩
        rw [← hbd]
        exact q''
      · obtain rfl : i = xs.length := by omega
        rw [List.drop_length] at q
        simp only [forFix] at q
        exact .inl ⟨hJ'.1 _ (Nat.le_refl _), q.nx S E⟩
    | live j =>
      simp only at q1
      obtain ⟨a, ha, rfl⟩ := r1
      generalize hn : (match st1[j]? with | some (.lst xs) => xs.length + 1 | _ => 0 : Nat) = n at q1
      refine ⟨fun i m σ H => ∃ ms ρ st, Ext G.rsv lo ms1 st1 H1 ms st H ∧ lo ≤ st.length ∧ SOk G ms st H ∧ EOk G ms st H ρ σ ∧ ResS G lo ms st H (forLive j bd m i ρ st) D.nx D.rt fun c σ H' => W (.ref (G.ca c)) none σ H',
        ⟨n, ms1, ρ, st1, Ext.refl, hl1, S1, E1, q1⟩, ?_⟩
      rintro i m σ H ⟨ms, ρ, st, e, hl, S, E, q⟩
      cases m with
      | zero => exact q.elim
      | succ m =>
        unfold forLive at q
        split at q
        · rename_i xs hst
          have hma : ms[j]? = some a := pre_get e.pre ha
          obtain ⟨vs', hv', rl⟩ := S.obj j _ a hst hma
          have sq : SqL G.K H a vs' := .of hv'
          have hlen := RepL.length _ _ rl
          split at q
          · rename_i x hx
            obtain ⟨v, ev, rx⟩ := RepL.get _ _ i x rl hx
            refine .inr ⟨⟨vs', v, sq, ev⟩, fun σ' H' => ∃ ms ρ st, Ext G.rsv lo ms1 st1 H1 ms st H' ∧ lo ≤ st.length ∧ SOk G ms st H' ∧ EOk G ms st H' ρ σ' ∧ ResS G lo ms st H' (forLive j bd m (i + 1) ρ st) D.nx D.rt fun c σ H' => W (.ref (G.ca c)) none σ H',
              fun σ' H' h' => ⟨m, Nat.lt_succ_self _, h'⟩, fun x' H' ⟨eH, yl⟩ => ?_⟩
            subst eH
            have := yl vs' sq
            rw [ev] at this
            cases this
            rw [← hbd] at q
            refine turn_ok L.K hl S E rx q rfl fun ρ' st' ms' H'' σ' e' S'' E' q'' => ⟨ms', ρ', st', e.trans e', e'.le S S'' hl, S'', E', ?_⟩
            rw [← hbd]
            exact q''
          · rename_i hx
            exact .inl ⟨⟨vs', sq, by rw [hlen]; exact List.getElem?_eq_none_iff.mp hx⟩, q.nx S E⟩
        · exact q.elim
    | liveE i => exact r1.elim⟩

/-- a thing of the store becomes a tree: nothing of the program -/
theorem s_frz {i : Nat} {sts : List Stmt} {d : Env → Sto → RS} (h : PSs X sts (tS G lo W d)) : PSs X sts (tS G lo W fun ρ st => (frzf lo i ρ st).next d) := h.weak fun D σ H ⟨ms, ρ, st, hl, S, E, q⟩ => by
  have dead : ∀ {j : Nat} {o : PO} {a : Addr}, st[j]? = some o → o ≠ .dead → lo ≤ j → ms[j]? = some a → Ext G.rsv lo ms st H ms (st.set j .dead) H ∧ SOk G ms (st.set j .dead) H ∧ Free G.rsv ms (st.set j .dead) a := fun {j o a} h1 h2 h3 h4 => by
    have hj := (List.getElem?_eq_some_iff.mp h1).1
    have al : ∀ k, alive (st.set j .dead) k → alive st k ∧ k ≠ j := fun k ⟨o', e1, e2⟩ => by
      by_cases z : k = j
      · subst z
        rw [List.getElem?_set_self hj] at e1
        cases e1
        exact absurd rfl e2
      · rw [List.getElem?_set_ne (Ne.symm z)] at e1
        exact ⟨⟨o', e1, e2⟩, z⟩
    have e : Ext G.rsv lo ms st H ms (st.set j .dead) H := ⟨List.prefix_refl _, fun a u r _ => r, fun _ _ h => h, fun _ h => h, fun k _ q => (al k q).1, fun k a hk e => by
      have := (List.getElem?_eq_some_iff.mp e).1
      omega, fun k hk => List.getElem?_set_ne (by omega), fun _ _ _ => rfl⟩
    refine ⟨e, ⟨by rw [List.length_set]; exact S.len, fun k l b q1 q2 => S.inj k l b (al k q1).1 (al l q2).1, fun k o' b q1 q2 => ?_, fun k b q1 => S.out k b (al k q1).1, S.rsv⟩, fun hz => S.out j a ⟨o, h1, h2⟩ h4 hz, fun k q1 q2 => (al k q1).2 (S.inj k j a (al k q1).1 ⟨o, h1, h2⟩ q2 h4)⟩
    by_cases z : k = j
    · subst z
      rw [List.getElem?_set_self hj] at q1
      cases q1
      trivial
    · rw [List.getElem?_set_ne (Ne.symm z)] at q1
      exact (S.obj k o' b q1 q2).carry e.carry fun _ q => q
  replace q : ResS G lo ms st H ((frzf lo i ρ st).next d) D.nx D.rt (fun c σ H' => W (.ref (G.ca c)) none σ H') := q
  unfold frzf at q
  split at q
  · rename_i j hj
    obtain ⟨v, hv, rv⟩ := E.get hj
    simp only [Rep] at rv
    obtain ⟨a, rfl, ha⟩ := rv
    have sv : ∀ {d : PV} {ρ : Env}, Rep G ms (st.set j .dead) H d (.ref a) → EOk G ms (st.set j .dead) H ρ σ → ρ[i]? = some (some (.box j)) → EOk G ms (st.set j .dead) H (ρ.set i (some d)) σ := fun {d ρ} r E hj => by
      have := EOk.set (i := i) r E
      have hi := (List.getElem?_eq_some_iff.mp hv).1
      have e2 : σ.set i (some (.ref a)) = σ := by
        rw [List.getElem?_eq_some_iff] at hv
        obtain ⟨h1, h2⟩ := hv
        rw [← h2]
        exact List.set_getElem_self h1
      rw [e2] at this
      exact this
    split at q
    · rename_i xs hst
      split at q
      · rename_i hlo
        obtain ⟨e, S', f⟩ := dead hst (by simp) hlo ha
        obtain ⟨vs, h1, h2⟩ := S.obj j _ a hst ha
        refine ⟨ms, _, _, e.le S S' hl, S', sv (d := .lst xs) ?_ (E.ext e) hj, ?_⟩
        · simp only [Rep]
          exact ⟨a, vs, rfl, ⟨.inl h1, f⟩, RepL.ext e _ _ h2⟩
        · exact q.after e
      · exact q.elim
    · rename_i t kvs hst
      split at q
      · rename_i hlo
        obtain ⟨e, S', f⟩ := dead hst (by simp) hlo ha
        have ho := S.obj j _ a hst ha
        refine ⟨ms, _, _, e.le S S' hl, S', sv (d := .dct t kvs) ?_ (E.ext e) hj, q.after e⟩
        cases t with
        | false =>
          obtain ⟨l, h1, h2⟩ := ho
          simp only [Rep]
          exact ⟨a, l, rfl, f, .inl h1, RepK.ext e _ _ h2⟩
        | true =>
          obtain ⟨l, h1, h2⟩ := ho
          simp only [Rep]
          exact ⟨a, l, rfl, f, .inl h1, RepT.ext e _ _ h2⟩
      · exact q.elim
    · exact q.elim
  · exact ⟨ms, ρ, st, hl, S, E, q⟩
  · exact q.elim
end
end Z

set_option maxHeartbeats 4000000
/-! Statements as a whole. -/
namespace Z
open PySem PySem.Spec PyProof.Rows
open L2 (V HO Hp SqL SqT Rd upd upd_same upd_ne ne_of ne_of_none Cx PE PT PS PSs PA PG PGs PI PW Inv VK TE TA TS TT TG TGs RelV Vals Dp DpAll)

section
variable {X : Cx} {G : Ctx} {Γ : Gam} {C : CC} {lo : Nat} {W : L2.WX} {pos : Pos}

theorem asg_asks {tg : Tg} {d : Env → Sto → R PV} {K : PySem.W.Frag} (hK : K = G.K) (D : L2.Ends) (σ : L2.St) (H : Hp) (h : tS G lo W (fun ρ st => (d ρ st).then ρ fun v st1 => match assign tg v ρ with | some ρ' => .nx ρ' st1 | none => .bad) D σ H) :
    L2.tAsg (tE G lo W d) (gOf K tg) D σ H := by
  obtain ⟨ms, ρ, st, hl, S, E, q⟩ := h
  refine ⟨ms, ρ, st, hl, S, E, q.then1 (rep := Rep G) E fun x st1 ms1 H1 u e1 S1 r1 q1 => ?_⟩
  cases ha : assign tg x ρ with
  | none => simp only [ha] at q1; exact q1.elim
  | some ρ' =>
    simp only [ha] at q1
    exact assign_ok hK tg x u _ ρ' _ _ r1 (E.ext e1) ha fun σ' E' _ => q1.nx S1 E'

/-- what swapsWith says of a list comprehension and a name -/
theorem swaps_lc {y : Str} {py : Pos} {elt : Expr} {gens : List Comprehension} {scope : Scope} {p : Pos} {line : Nat} {env : PySem.Env} :
    swapsWith (.ListComp elt gens scope p) (some (.Name y py)) line env = pure true ∧ env.scope.names.lookup y = some .local ∨ swapsWith (.ListComp elt gens scope p) (some (.Name y py)) line env = pure false := by
  show ((pure (env.blockKind == .function && env.kindOf y == some .local && py.line == p.line && !(scope.names.any fun (n, k) => n == y && (k == .local || k == .cell))) : Sem Bool) = pure true ∧ _) ∨ (pure (env.blockKind == .function && env.kindOf y == some .local && py.line == p.line && !(scope.names.any fun (n, k) => n == y && (k == .local || k == .cell))) : Sem Bool) = pure false
  cases h : (env.blockKind == .function && env.kindOf y == some .local && py.line == p.line && !(scope.names.any fun (n, k) => n == y && (k == .local || k == .cell)))
  · exact .inr rfl
  · simp only [Bool.and_eq_true] at h
    refine .inl ⟨rfl, ?_⟩
    exact (beq_iff_eq.mp h.1.1.2 : env.kindOf y = some .local)

theorem s_asgName (L : Lk X G Γ C) (tk : L2.Takes X W) {i : Nat} {e : ME} {t x : Expr} (hg : chkG C (.name i) t = true) (he : chk C e x = true) : PS X (.Assign [t] x pos) (tS G lo W (exec Γ lo (.asg (.name i) e))) := by
  cases t with
  | Name y py =>
    have hg' := hg
    simp only [chkG, Bool.and_eq_true] at hg
    obtain ⟨hn, hs⟩ := hg
    have hn := nameAt_d hn
    have hi : X.N[i]? = some y := by rw [L.N]; exact hn.1
    have hN : X.N.Nodup := by rw [L.N]; exact L.nd
    have key : ∀ {t : TE}, PE X x t → (swapsWith x (some (.Name y py)) pos.line X.env = pure false) → PS X (.Assign [.Name y py] x pos) (L2.tAsg t (L2.gName i)) := fun h1 h2 => L2.ps_set hN hi (L.loc' hs) h1 h2 (L.loc _ hs)
    have fin : PS X (.Assign [.Name y py] x pos) (L2.tAsg (tE G lo W (eval Γ lo e)) (L2.gName i)) → PS X (.Assign [.Name y py] x pos) (tS G lo W (exec Γ lo (.asg (.name i) e))) := fun h => h.weak fun D σ H q => asg_asks (tg := .name i) L.K D σ H (by simp only [exec] at q; exact q)
    cases x with
    | ListComp ex gens scope p =>
      cases e with
      | comp bx tg vs it cond elt =>
        rcases swaps_lc (y := y) (py := py) (elt := ex) (gens := gens) (scope := scope) (p := p) (line := pos.line) (env := X.env) with ⟨sw, hyl⟩ | sw
        · refine fin ?_
          match gens, he with
          | [⟨t, ie, ifs, a⟩], h =>
            simp only [chk, Bool.and_eq_true, decide_eq_true_eq] at h
            obtain ⟨⟨⟨⟨⟨⟨⟨h1, h2⟩, h3⟩, h4⟩, h5⟩, h6⟩, h7⟩, h8⟩ := h
            subst h8
            have hi' := sndI it t ie X G C lo W L tk h2
            have ok : L2.BlkOk X.N X.env.scope scope (vs.map fun i => (C.N.getD i Str.empty, i)) := L2.blkOk_by (by rw [L.N, L.sc]; exact h1)
            have ev : (vs.map fun i => (C.N.getD i Str.empty, i)).map (·.2) = vs := by
              rw [List.map_map]
              exact (List.map_congr_left fun _ _ => rfl).trans (List.map_id _)
            have hv : ∀ i ∈ tgVars tg, i ∈ vs := fun i hi => by simpa using List.all_eq_true.mp h4 i hi
            have he : ∀ (s : Shared) (H : Hp) (A : Addr) (cl : List (Str × Addr)) (fp : List Addr), PE (X.blk s H scope (compEnvC scope cl A X.env) fp) ex (teX G lo (Z.eval Γ lo elt)) := fun s H A cl fp =>
              pe_ex fun D => (sndE elt ex _ (G.plus D) _ lo WF (L.blk (D := D)) takesF h5).e
            have hg : ∀ (s : Shared) (H : Hp) (A : Addr) (cl : List (Str × Addr)) (fp : List Addr), PG (X.blk s H scope (compEnvC scope cl A X.env) fp) t (gOf X.K tg) := fun s H A cl fp => pg_of (L.blk (G := G) (D := 0)) tg t h3
            have ht : ∀ (s : Shared) (H : Hp) (A : Addr) (cl : List (Str × Addr)) (fp : List Addr), L2.PTs (X.blk s H scope (compEnvC scope cl A X.env) fp) ifs (ttX G lo (cond.map (Z.eval Γ lo))) := fun s H A cl fp => by
              match cond, ifs, h6 with
              | none, [], _ => exact L2.pts_nil
              | some c, [x], h6 =>
                simp only [chkF] at h6
                exact pts_ex fun D => L2.pts_one (sndE c x _ (G.plus D) _ lo WF (L.blk (D := D)) takesF h6).t
              | none, _ :: _, h6 => simp [chkF] at h6
              | some _, [], h6 => simp [chkF] at h6
              | some _, _ :: _ :: _, h6 => simp [chkF] at h6
            refine (L2.ps_setLc L.calm hN hi hyl sw hi'.1 ok hg ht he (foldS hi'.2)).weak fun D σ H q => ?_
            rw [ev]
            refine comp_asks L hv σ H _ (bx := bx) ?_
            obtain ⟨ms, ρ, st, hl, S, E, q⟩ := q
            refine ⟨ms, ρ, st, hl, S, E, ?_⟩
            rw [eval_comp] at q
            exact q
          | [], h => simp [chk] at h
          | _ :: _ :: _, h => simp [chk] at h
        · exact fin (key (sndE _ _ X G C lo W L tk he).e sw)
      | const d => cases d <;> simp [chk] at he
      | _ => simp [chk] at he
    | SetComp _ _ _ _ =>
      cases e with
      | const d => cases d <;> simp [chk] at he
      | _ => simp [chk] at he
    | DictComp _ _ _ _ _ =>
      cases e with
      | const d => cases d <;> simp [chk] at he
      | _ => simp [chk] at he
    | _ => exact fin (key (sndE _ _ X G C lo W L tk he).e rfl)
  | _ => simp [chkG] at hg

theorem s_asgTup (L : Lk X G Γ C) (tk : L2.Takes X W) {l : List Tg} {e : ME} {t x : Expr} (hg : chkG C (.tup l) t = true) (he : chk C e x = true) (hx : isTup x = false) : PS X (.Assign [t] x pos) (tS G lo W (exec Γ lo (.asg (.tup l) e))) := by
  have hpg := pg_of L _ _ hg
  have hpe := (sndE _ _ X G C lo W L tk he).e
  cases t with
  | Tuple ts k p =>
    refine (L2.ps_asg hpe hpg ?_ ?_ rfl).weak fun D σ H q => asg_asks (tg := .tup l) L.K D σ H (by simp only [exec] at q; exact q)
    · cases x <;> rfl
    · cases x <;> first | rfl | (simp [isTup] at hx)
  | _ => simp [chkG] at hg
end

section
variable {Γ : Gam}
mutual
theorem sndS (m : MS) (e : Stmt) (X : Cx) (G : Ctx) (C : CC) (lo : Nat) (W : L2.WX) (L : Lk X G Γ C) (tk : L2.Takes X W) (hp : PassesOwn (model X.prog X.w) X.A X.env X.xe) (h : chkS C m e = true) : PS X e (tS G lo W (exec Γ lo m)) := by
  match m with
  | .asg (.name i) em =>
    cases e with
    | Assign ts x pos =>
      match ts, h with
      | [t], h =>
        simp only [chkS, Bool.and_eq_true] at h
        exact s_asgName L tk h.1 h.2
      | [], h => simp [chkS] at h
      | _ :: _ :: _, h => simp [chkS] at h
    | _ => simp [chkS] at h
  | .asg (.tup l) em =>
    cases e with
    | Assign ts x pos =>
      match ts, h with
      | [t], h =>
        simp only [chkS, Bool.and_eq_true, Bool.not_eq_true'] at h
        exact s_asgTup L tk h.1.1 h.1.2 h.2
      | [], h => simp [chkS] at h
      | _ :: _ :: _, h => simp [chkS] at h
    | _ => simp [chkS] at h
  | .expr em =>
    cases e with
    | Expr x pos =>
      simp only [chkS, Bool.and_eq_true, Bool.not_eq_true'] at h
      have := s_expr (pos := pos) (sndE em x X G C lo W L tk h.1).e h.2
      simp only [exec]
      exact this
    | _ => simp [chkS] at h
  | .ite c a b =>
    cases e with
    | If x p q pos =>
      simp only [chkS, Bool.and_eq_true] at h
      have := s_if (pos := pos) (sndE c x X G C lo W L tk h.1.1).t (sndSs a p X G C lo W L tk hp h.1.2) (sndSs b q X G C lo W L tk hp h.2)
      simp only [exec]
      exact this
    | _ => simp [chkS] at h
  | .whl n c b =>
    cases e with
    | While x p q pos =>
      cases q with
      | cons _ _ => simp [chkS] at h
      | nil =>
        simp only [chkS, Bool.and_eq_true] at h
        have := s_while (pos := pos) (n := n) hp (sndE c x X G C lo W L tk h.1).t (sndSs b p X G C lo W L tk hp h.2)
        simp only [exec]
        exact this
    | _ => simp [chkS] at h
  | .for_ tg it b =>
    cases e with
    | For t x p q pos =>
      cases q with
      | cons _ _ => simp [chkS] at h
      | nil =>
        simp only [chkS, Bool.and_eq_true] at h
        have hi := sndI it t x X G C lo W L tk h.1.2
        have := s_for (pos := pos) L hp hi.1 hi.2 (pg_of L _ _ h.1.1) (sndSs b p X G C lo W L tk hp h.2)
        simp only [exec]
        exact this
    | _ => simp [chkS] at h
  | .ret em =>
    cases e with
    | Return v pos =>
      cases v with
      | none => simp [chkS] at h
      | some x =>
        simp only [chkS] at h
        have := s_ret (pos := pos) (sndE em x X G C lo W L tk h).e
        simp only [exec]
        exact this
    | _ => simp [chkS] at h
  | .retN =>
    cases e with
    | Return v pos =>
      cases v with
      | none => simpa only [exec] using (s_retN (X := X) (G := G) (lo := lo) (W := W) (pos := pos))
      | some x => simp [chkS] at h
    | _ => simp [chkS] at h
  | .pass =>
    cases e with
    | Pass pos => simpa only [exec] using (s_pass (X := X) (G := G) (lo := lo) (W := W) (pos := pos))
    | _ => simp [chkS] at h
  | .asgN _ _ => simp [chkS] at h
  | .setItem _ _ _ => simp [chkS] at h
  | .setAttr _ _ _ => simp [chkS] at h
  | .raise _ => simp [chkS] at h
  | .tryAs _ _ _ _ => simp [chkS] at h
  | .tryOnly _ _ _ => simp [chkS] at h
theorem sndSs (m : MSs) (es : List Stmt) (X : Cx) (G : Ctx) (C : CC) (lo : Nat) (W : L2.WX) (L : Lk X G Γ C) (tk : L2.Takes X W) (hp : PassesOwn (model X.prog X.w) X.A X.env X.xe) (h : chkSs C m es = true) : PSs X es (tS G lo W (execs Γ lo m)) := by
  match m, h with
  | .nil, h =>
    cases es with
    | nil => exact s_nil
    | cons _ _ => simp [chkSs] at h
  | .frz i r, h =>
    simp only [chkSs] at h
    have := s_frz (i := i) (sndSs r es X G C lo W L tk hp h)
    simpa only [execs] using this
  | .cons s r, h =>
    cases es with
    | nil => simp [chkSs] at h
    | cons e es =>
      simp only [chkSs, Bool.and_eq_true] at h
      have := s_cons (sndS s e X G C lo W L tk hp h.1) (sndSs r es X G C lo W L tk hp h.2)
      simpa only [execs] using this
end
end
end Z

set_option maxHeartbeats 4000000
/-! A def holds its promise. -/
namespace Z
open PySem PySem.Spec PyProof.Rows
open L2 (V HO Hp SqL SqT Rd upd upd_same upd_ne ne_of ne_of_none Cx PE PT PS PSs PA PG PGs PI PW Inv VK TE TA TS TT TG TGs RelV Vals Dp DpAll)

section
variable {G : Ctx} {lo : Nat} {ms ms' : List Addr} {st st' : Sto} {H H' : Hp}
/-- back to the store of the entry -/
structure Back (G : Ctx) (ms : List Addr) (st : Sto) (ms' : List Addr) (st' : Sto) (H' : Hp) : Prop where
  pre : ms <+: ms'
  fr : ∀ a, Free G.rsv ms' st' a → Free G.rsv ms st a
mutual
theorem Rep.back (b : Back G ms st ms' st' H') : ∀ (d : PV) (v : V), boxLt ms.length d = true → Rep G ms' st' H' d v → Rep G ms st H' d v
  | .none, v, _, h => by simpa only [Rep] using h
  | .bool _, v, _, h => by simpa only [Rep] using h
  | .int i, v, _, h => by simpa only [Rep] using h
  | .str s, v, _, h => by simpa only [Rep] using h
  | .tup ds, v, z, h => by
    simp only [Rep] at h ⊢
    simp only [boxLt] at z
    obtain ⟨a, vs, e1, e2, e3⟩ := h
    exact ⟨a, vs, e1, e2, RepL.back b ds vs z e3⟩
  | .lst ds, v, z, h => by
    simp only [Rep] at h ⊢
    simp only [boxLt] at z
    obtain ⟨a, vs, e1, e2, e3⟩ := h
    exact ⟨a, vs, e1, ⟨e2.1, b.fr _ e2.2⟩, RepL.back b ds vs z e3⟩
  | .dct false kvs, v, z, h => by
    simp only [Rep] at h ⊢
    simp only [boxLt] at z
    obtain ⟨a, l, e1, f, r, h⟩ := h
    exact ⟨a, l, e1, b.fr _ f, r, RepK.back b kvs l z h⟩
  | .dct true kvs, v, z, h => by
    simp only [Rep] at h ⊢
    simp only [boxLt] at z
    obtain ⟨a, l, e1, f, r, h⟩ := h
    exact ⟨a, l, e1, b.fr _ f, r, RepT.back b kvs l z h⟩
  | .box i, v, z, h => by
    simp only [Rep] at h ⊢
    simp only [boxLt, decide_eq_true_eq] at z
    obtain ⟨a, e1, e2⟩ := h
    exact ⟨a, e1, pre_back b.pre z e2⟩
  | .exc k, v, _, h => by
    simp only [Rep] at h ⊢
    obtain ⟨a, e1, e2, f⟩ := h
    exact ⟨a, e1, e2, b.fr _ f⟩
  | .kls ns, v, _, h => by
    simp only [Rep] at h ⊢
    obtain ⟨a, e1, e2⟩ := h
    exact ⟨a, e1, e2.imp (fun e2 => ⟨e2.1, b.fr _ e2.2⟩) id⟩
theorem RepL.back (b : Back G ms st ms' st' H') : ∀ (ds : List PV) (vs : List V), boxLtL ms.length ds = true → RepL G ms' st' H' ds vs → RepL G ms st H' ds vs
  | [], vs, _, h => by simpa only [RepL] using h
  | d :: ds, vs, z, h => by
    simp only [RepL] at h ⊢
    simp only [boxLtL, Bool.and_eq_true] at z
    obtain ⟨v, r, e1, e2, e3⟩ := h
    exact ⟨v, r, e1, Rep.back b d v z.1 e2, RepL.back b ds r z.2 e3⟩
theorem RepK.back (b : Back G ms st ms' st' H') : ∀ (ds : List (DK × PV)) (vs : List (L2.Key × V)), boxLtD ms.length ds = true → RepK G ms' st' H' ds vs → RepK G ms st H' ds vs
  | [], vs, _, h => by simpa only [RepK] using h
  | (k, d) :: ds, vs, z, h => by
    simp only [RepK] at h ⊢
    simp only [boxLtD, Bool.and_eq_true] at z
    obtain ⟨ka, v, l', e1, e2, e3, e4⟩ := h
    exact ⟨ka, v, l', e1, e2, Rep.back b d v z.1 e3, RepK.back b ds l' z.2 e4⟩
theorem RepT.back (b : Back G ms st ms' st' H') : ∀ (ds : List (DK × PV)) (vs : List (List L2.Key × V)), boxLtD ms.length ds = true → RepT G ms' st' H' ds vs → RepT G ms st H' ds vs
  | [], vs, _, h => by simpa only [RepT] using h
  | (k, d) :: ds, vs, z, h => by
    simp only [RepT] at h ⊢
    simp only [boxLtD, Bool.and_eq_true] at z
    obtain ⟨ka, v, l', e1, e2, e3, e4⟩ := h
    exact ⟨ka, v, l', e1, e2, Rep.back b d v z.1 e3, RepT.back b ds l' z.2 e4⟩
end
mutual
theorem Rep.boxes : ∀ (d : PV) (v : V), Rep G ms st H d v → boxLt ms.length d = true
  | .none, v, h => rfl
  | .bool _, v, h => rfl
  | .int i, v, h => rfl
  | .str s, v, h => rfl
  | .tup ds, v, h => by
    simp only [Rep] at h
    simp only [boxLt]
    obtain ⟨a, vs, e1, e2, e3⟩ := h
    exact RepL.boxes ds vs e3
  | .lst ds, v, h => by
    simp only [Rep] at h
    simp only [boxLt]
    obtain ⟨a, vs, e1, e2, e3⟩ := h
    exact RepL.boxes ds vs e3
  | .dct false kvs, v, h => by
    simp only [Rep] at h
    simp only [boxLt]
    obtain ⟨a, l, e1, f, r, h⟩ := h
    exact RepK.boxes kvs l h
  | .dct true kvs, v, h => by
    simp only [Rep] at h
    simp only [boxLt]
    obtain ⟨a, l, e1, f, r, h⟩ := h
    exact RepT.boxes kvs l h
  | .box i, v, h => by
    simp only [Rep] at h
    simp only [boxLt, decide_eq_true_eq]
    obtain ⟨a, e1, e2⟩ := h
    exact (List.getElem?_eq_some_iff.mp e2).1
  | .exc k, v, h => rfl
  | .kls k, v, h => rfl
theorem RepL.boxes : ∀ (ds : List PV) (vs : List V), RepL G ms st H ds vs → boxLtL ms.length ds = true
  | [], vs, h => rfl
  | d :: ds, vs, h => by
    simp only [RepL] at h
    simp only [boxLtL, Bool.and_eq_true]
    obtain ⟨v, r, e1, e2, e3⟩ := h
    exact ⟨Rep.boxes d v e2, RepL.boxes ds r e3⟩
theorem RepK.boxes : ∀ (ds : List (DK × PV)) (vs : List (L2.Key × V)), RepK G ms st H ds vs → boxLtD ms.length ds = true
  | [], vs, h => rfl
  | (k, d) :: ds, vs, h => by
    simp only [RepK] at h
    simp only [boxLtD, Bool.and_eq_true]
    obtain ⟨ka, v, l', e1, e2, e3, e4⟩ := h
    exact ⟨Rep.boxes d v e3, RepK.boxes ds l' e4⟩
theorem RepT.boxes : ∀ (ds : List (DK × PV)) (vs : List (List L2.Key × V)), RepT G ms st H ds vs → boxLtD ms.length ds = true
  | [], vs, h => rfl
  | (k, d) :: ds, vs, h => by
    simp only [RepT] at h
    simp only [boxLtD, Bool.and_eq_true]
    obtain ⟨ka, v, l', e1, e2, e3, e4⟩ := h
    exact ⟨Rep.boxes d v e3, RepT.boxes ds l' e4⟩
end
def boxLtF (n : Nat) : List (String × PV) → Bool
  | [] => true
  | (_, x) :: xs => boxLt n x && boxLtF n xs
theorem RepF.boxes : ∀ (ds : List (String × PV)) (vs : List (Str × V)), RepF G ms st H ds vs → boxLtF ms.length ds = true
  | [], vs, h => rfl
  | (k, d) :: ds, vs, h => by
    simp only [RepF] at h
    simp only [boxLtF, Bool.and_eq_true]
    obtain ⟨v, l', e2, e3, e4⟩ := h
    exact ⟨Rep.boxes d v e3, RepF.boxes ds l' e4⟩
theorem RepF.back (b : Back G ms st ms' st' H') : ∀ (ds : List (String × PV)) (vs : List (Str × V)), boxLtF ms.length ds = true → RepF G ms' st' H' ds vs → RepF G ms st H' ds vs
  | [], vs, _, h => by simpa only [RepF] using h
  | (k, d) :: ds, vs, z, h => by
    simp only [RepF] at h ⊢
    simp only [boxLtF, Bool.and_eq_true] at z
    obtain ⟨v, l', e2, e3, e4⟩ := h
    exact ⟨v, l', e2, Rep.back b d v z.1 e3, RepF.back b ds l' z.2 e4⟩

theorem pure_back (S : SOk G ms st H) (e : Ext G.rsv st.length ms st H ms' st' H') (S' : SOk G ms' st' H') : Back G ms st ms' st' H' ∧ Ext G.rsv lo ms st H ms st H' ∧ SOk G ms st H' := by
  have low : ∀ i, i < st.length → st'[i]? = st[i]? := e.low
  have al : ∀ i, alive st i → alive st' i := fun i ⟨o, h1, h2⟩ => ⟨o, (low i (List.getElem?_eq_some_iff.mp h1).1).trans h1, h2⟩
  have b : Back G ms st ms' st' H' := ⟨e.pre, fun a f => ⟨f.1, fun i h q => f.2 i (al i h) (pre_get e.pre q)⟩⟩
  refine ⟨b, ⟨List.prefix_refl _, e.keep, e.tup, e.dom, fun _ _ h => h, fun i a hi q => ?_, fun _ _ => rfl, e.rsv⟩, ⟨S.len, S.inj, fun i o a h1 h2 => ?_, S.out, S'.rsv⟩⟩
  · have := (List.getElem?_eq_some_iff.mp q).1
    omega
  · have h0 := S.obj i o a h1 h2
    have h3 := S'.obj i o a ((low i (List.getElem?_eq_some_iff.mp h1).1).trans h1) (pre_get e.pre h2)
    cases o with
    | dead => trivial
    | lst xs =>
      obtain ⟨vs, q1, q2⟩ := h0
      obtain ⟨vs', q3, q4⟩ := h3
      exact ⟨vs', q3, RepL.back b _ _ (RepL.boxes _ _ q2) q4⟩
    | dct t kvs =>
      cases t with
      | false =>
        obtain ⟨vs, q1, q2⟩ := h0
        obtain ⟨vs', q3, q4⟩ := h3
        exact ⟨vs', q3, RepK.back b _ _ (RepK.boxes _ _ q2) q4⟩
      | true =>
        obtain ⟨vs, q1, q2⟩ := h0
        obtain ⟨vs', q3, q4⟩ := h3
        exact ⟨vs', q3, RepT.back b _ _ (RepT.boxes _ _ q2) q4⟩
    | inst k fs =>
      obtain ⟨dx, vs, q1, q2⟩ := h0
      obtain ⟨dx', vs', q3, q4⟩ := h3
      exact ⟨dx', vs', q3, RepF.back b _ _ (RepF.boxes _ _ q2) q4⟩

theorem EOk.start : ∀ {ds : List PV} {vs : List V} (n : Nat), RepL G ms st H ds vs → EOk G ms st H (ds.map some ++ List.replicate n none) (vs.map some ++ List.replicate n none)
  | [], vs, n, h => by
    simp only [RepL] at h
    subst h
    simp only [List.map_nil, List.nil_append]
    induction n with
    | zero => simp only [List.replicate_zero, EOk]
    | succ n ih =>
      simp only [List.replicate_succ, EOk]
      exact ⟨none, _, rfl, (fun d e => nomatch e), ih⟩
  | d :: ds, vs, n, h => by
    simp only [RepL] at h
    obtain ⟨v, r, rfl, h1, h2⟩ := h
    simp only [List.map_cons, List.cons_append, EOk]
    exact ⟨some v, _, rfl, (fun d' e => by cases e; exact ⟨v, rfl, h1⟩), EOk.start n h2⟩
end

section
variable {P : Program} {w : World} {K : PySem.W.Frag} {mg : Str → Option Value} {base : Heap}

/-- a def of the text, by its text in the small language -/
theorem fn_ok {x qual : Str} {s : Stmt} {f : Addr} {fd : FuncData} {N ps : List Str} {k : Nat} (ca : Nat → Addr) (Γ : Gam) (C : CC) (d : MD) (F : L2.Fun K x qual s f fd) (S : L2.FnScope N ps (L2.defScope s))
    (hN : C.N = N) (hsc : C.sc = L2.defScope s) (hm : chkSs C d.body (L2.defBody s) = true) (hsl : d.slots = N.length) (har : d.args = ps.length)
    (fns : ∀ f x, C.fnm f = some x → ∃ fa fd ps j, mg (Str.ofString x) = some (.ref fa) ∧ PySem.W.keepIn K (.ref fa) = true ∧ L2.Binds K fd ps [] ∧ j ≤ k ∧ L2.FnOk P w K mg base (L2.CX P w) j fa fd ps (spOf K ca (Γ.fn f)))
    (bi : ∀ n ∈ biNames, mg (Str.ofString n) = none)
    (gl : ∀ n d, C.glb n = some d → ∃ u v, mg (Str.ofString n) = some u ∧ RelV v u ∧ (match d with | .int i => v = .int i | .str s => v = .str (toS s) | _ => False)) :
    L2.FnOk P w K mg base (L2.CX P w) (k + 1) f fd ps (spOf K ca (runFn Γ d)) := by
  have len : ∀ vs H Q E, spOf K ca (runFn Γ d) vs H Q E → vs.length = ps.length := by
    rintro vs H Q E ⟨rs, lo, ms, st, ds, hl, S, r, h⟩
    unfold runFn at h
    split at h
    · rename_i hd
      rw [RepL.length _ _ r, hd, har]
    · exact h.elim
  refine F.okX S len (fun cdv A outer s H vs Q E hr h => ?_)
  have hlen := len vs H Q E h
  obtain ⟨rs, lo, ms, st, ds, hl, SS, r, h⟩ := h
  have L : Lk (L2.cxOf (L2.CX P w) P w K mg base N qual (L2.defScope _) f cdv A outer s H E) ⟨K, ca, rs⟩ Γ C := {
    K := rfl
    N := hN.symm
    nd := hN ▸ S.nd
    sc := hsc.symm
    calm := rfl
    loc := fun x _ => .inl rfl
    room := hr.mono (Nat.zero_le _)
    fn := fun f x e => by
      obtain ⟨fa, fd, ps, j, h1, h2, h3, h4, h5⟩ := fns f x e
      exact ⟨fa, fd, ps, j, h1, h2, h3, hr.mono h4, h5⟩
    bi := bi
    gl := gl }
  refine ⟨tS ⟨K, ca, rs⟩ (if d.pure then st.length else lo) (fun cls dd _ H' => E cls dd H') (execs Γ (if d.pure then st.length else lo) d.body), sndSs d.body _ _ _ C _ _ L (L2.takes_of rfl rfl rfl rfl) (L2.passes_of rfl) hm, ?_⟩
  have hd : ds.length = d.args := by
    unfold runFn at h
    split at h
    · assumption
    · exact h.elim
  have hv : vs.length = d.args := by rw [hlen, har]
  have hst : L2.start N vs = vs.map some ++ List.replicate (d.slots - d.args) none := by
    unfold L2.start
    rw [hsl, hv]
  refine ⟨ms, ds.map some ++ List.replicate (d.slots - d.args) none, st, ?_, SS, ?_, ?_⟩
  · split
    · exact Nat.le_refl _
    · exact hl
  · rw [hst]
    exact EOk.start _ r
  · unfold runFn at h
    rw [if_pos hd] at h
    cases hp : d.pure with
    | false =>
      simp only [hp, Bool.false_eq_true, if_false] at h ⊢
      cases he : execs Γ lo d.body (ds.map some ++ List.replicate (d.slots - d.args) none) st with
      | nx ρ st' =>
        simp only [he, fin, Bool.false_eq_true, if_false] at h
        exact fun ms' H' σ' e S' _ => h ms' H' .non e S' (by simp only [Rep])
      | ret v st' =>
        simp only [he, fin, Bool.false_eq_true, if_false] at h
        exact fun ms' H' u e S' r => h ms' H' u e S' r
      | exc c ρ st' =>
        simp only [he] at h
        exact fun ms' H' u e S' r => h ms' H' e S'
      | bad => simp only [he] at h; exact h.elim
    | true =>
      simp only [hp, if_true] at h ⊢
      cases he : execs Γ st.length d.body (ds.map some ++ List.replicate (d.slots - d.args) none) st with
      | nx ρ st' =>
        simp only [he, fin, if_true] at h
        split at h
        · intro ms' H' σ' e S' _
          obtain ⟨b, e2, S2⟩ := pure_back (lo := lo) SS e S'
          exact h ms H' .non e2 S2 (by simp only [Rep])
        · exact h.elim
      | ret v st' =>
        simp only [he, fin, if_true] at h
        split at h
        · rename_i hb
          intro ms' H' u e S' r
          obtain ⟨b, e2, S2⟩ := pure_back (lo := lo) SS e S'
          exact h ms H' u e2 S2 (Rep.back b _ _ (by rw [SS.len]; exact hb) r)
        · exact h.elim
      | exc c ρ st' =>
        simp only [he, if_true] at h
        intro ms' H' u e S' r
        obtain ⟨b, e2, S2⟩ := pure_back (lo := lo) SS e S'
        exact h ms H' e2 S2
      | bad => simp only [he] at h; exact h.elim
end
end Z

set_option maxHeartbeats 4000000
/-! Defs one after another; the law's end. -/
namespace Z
open PySem PySem.Spec PyProof.Rows
open L2 (V HO Hp SqL SqT Rd upd upd_same upd_ne ne_of ne_of_none Cx PE PT PS PSs PA PG PGs PI PW Inv VK TE TA TS TT TG TGs RelV Vals Dp DpAll)

/-- the defs so far: their names and what they come to -/
abbrev Fns := List (String × (Nat → List PV → Sto → R PV))
def gamOf (T : Fns) : Gam := ⟨fun f => match T[f]? with | some p => p.2 | none => fun _ _ _ => .bad, fun _ _ => none, fun _ => 0, fun c d => c == d⟩
/-- where a def stands -/
def ccOf (N : List Str) (s : Stmt) (nms : List String) (gs : List (String × PV)) : CC := ⟨N, L2.defScope s, fun _ => true, fun f => nms[f]?, fun _ => none, fun n => gs.lookup n⟩

section
variable {P : Program} {w : World} {K : PySem.W.Frag} {mg : Str → Option Value} {base : Heap}

structure KnownF (P : Program) (w : World) (K : PySem.W.Frag) (mg : Str → Option Value) (base : Heap) (ca : Nat → Addr) (k : Nat) (n : String) (D : Nat → List PV → Sto → R PV) : Prop where
  ex : ∃ fa fd ps j, mg (Str.ofString n) = some (.ref fa) ∧ PySem.W.keepIn K (.ref fa) = true ∧ L2.Binds K fd ps [] ∧ j ≤ k ∧ L2.FnOk P w K mg base (L2.CX P w) j fa fd ps (spOf K ca D)
def Known (P : Program) (w : World) (K : PySem.W.Frag) (mg : Str → Option Value) (base : Heap) (ca : Nat → Addr) (k : Nat) (T : Fns) : Prop := ∀ p ∈ T, KnownF P w K mg base ca k p.1 p.2
def glbV : PV → V → Prop := fun d v => match d with | .int i => v = .int i | .str s => v = .str (toS s) | _ => False
structure GlbF (mg : Str → Option Value) (n : String) (d : PV) : Prop where
  ex : ∃ u v, mg (Str.ofString n) = some u ∧ RelV v u ∧ (match d with | .int i => v = .int i | .str s => v = .str (toS s) | _ => False)
def GlbOk (mg : Str → Option Value) (gs : List (String × PV)) : Prop := ∀ p ∈ gs, GlbF mg p.1 p.2
theorem GlbOk.nil : GlbOk mg [] := fun p h => by simp at h
theorem GlbOk.int {gs : List (String × PV)} {n : String} {i : Int} {t : Tok} (h : mg (Str.ofString n) = some (.int i t)) (g : GlbOk mg gs) : GlbOk mg ((n, .int i) :: gs) := fun p hp => by
  rcases List.mem_cons.mp hp with rfl | hp
  · exact ⟨_, .int i, h, ⟨t, rfl⟩, rfl⟩
  · exact g p hp
theorem GlbOk.str {gs : List (String × PV)} {n : String} {s : Tx} {z : Str} {t : Tok} (h : mg (Str.ofString n) = some (.str z t)) (e : z = toS s) (g : GlbOk mg gs) : GlbOk mg ((n, .str s) :: gs) := fun p hp => by
  subst e
  rcases List.mem_cons.mp hp with rfl | hp
  · exact ⟨_, .str (toS s), h, ⟨t, rfl⟩, rfl⟩
  · exact g p hp
theorem lookup_mem {gs : List (String × PV)} {n : String} {d : PV} (h : gs.lookup n = some d) : (n, d) ∈ gs := by
  induction gs with
  | nil => simp at h
  | cons p gs ih =>
    obtain ⟨m, e⟩ := p
    rw [List.lookup_cons] at h
    split at h
    · rename_i q
      cases h
      obtain rfl : n = m := by simpa using q
      exact List.mem_cons_self
    · exact List.mem_cons_of_mem _ (ih h)

theorem Known.nil {ca : Nat → Addr} {k : Nat} : Known P w K mg base ca k [] := fun p h => by simp at h
theorem Known.mono {ca : Nat → Addr} {j k : Nat} {T : Fns} (h : Known P w K mg base ca j T) (l : j ≤ k) : Known P w K mg base ca k T := fun p hp => by
  obtain ⟨fa, fd, ps, i, h1, h2, h3, h4, h5⟩ := (h p hp).ex
  exact ⟨fa, fd, ps, i, h1, h2, h3, Nat.le_trans h4 l, h5⟩
theorem fn_known {x : Str} {s : Stmt} {f : Addr} {fd : FuncData} {N ps : List Str} {k : Nat} {ca : Nat → Addr} {T : Fns} {nms : List String} {gs : List (String × PV)} (d : MD) (h : Known P w K mg base ca k T) (hn : T.map (·.1) = nms)
    (bi : ∀ n ∈ biNames, mg (Str.ofString n) = none) (gl : GlbOk mg gs) (F : L2.Fun K x x s f fd) (S : L2.FnScope N ps (L2.defScope s)) (hm : chkSs (ccOf N s nms gs) d.body (L2.defBody s) = true) (hsl : d.slots = N.length) (har : d.args = ps.length) :
    L2.FnOk P w K mg base (L2.CX P w) (k + 1) f fd ps (spOf K ca (runFn (gamOf T) d)) :=
  fn_ok ca (gamOf T) (ccOf N s nms gs) d F S rfl rfl hm hsl har (fun g y e => by
    have e : nms[g]? = some y := e
    subst hn
    rw [List.getElem?_map] at e
    obtain ⟨p, hp, rfl⟩ := Option.map_eq_some_iff.mp e
    obtain ⟨fa, fd, ps, j, h1, h2, h3, h4, h5⟩ := (h p (List.mem_of_getElem? hp)).ex
    refine ⟨fa, fd, ps, j, h1, h2, h3, h4, ?_⟩
    have e2 : (gamOf T).fn g = p.2 := by
      show (match T[g]? with | some p => p.2 | none => fun _ _ _ => .bad) = p.2
      rw [hp]
    rw [e2]
    exact h5) bi fun n d e => (gl _ (lookup_mem e)).ex
theorem Known.add {x : String} {s : Stmt} {f : Addr} {fd : FuncData} {N ps : List Str} {k : Nat} {ca : Nat → Addr} {T : Fns} {nms : List String} {gs : List (String × PV)} (d : MD) (h : Known P w K mg base ca k T) (hn : T.map (·.1) = nms)
    (bi : ∀ n ∈ biNames, mg (Str.ofString n) = none) (gl : GlbOk mg gs) (F : L2.Fun K (Str.ofString x) (Str.ofString x) s f fd) (S : L2.FnScope N ps (L2.defScope s)) (hm : chkSs (ccOf N s nms gs) d.body (L2.defBody s) = true) (hsl : d.slots = N.length) (har : d.args = ps.length)
    (hf : mg (Str.ofString x) = some (.ref f)) (hb : L2.Binds K fd ps []) : Known P w K mg base ca (k + 1) (T ++ [(x, runFn (gamOf T) d)]) := fun p hp => by
  rcases List.mem_append.mp hp with hp | hp
  · exact h.mono (Nat.le_succ k) p hp
  · obtain rfl : p = (x, runFn (gamOf T) d) := by simpa using hp
    exact ⟨f, fd, ps, k + 1, hf, F.kp, hb, Nat.le_refl _, fn_known d h hn bi gl F S hm hsl har⟩
end

/-- the goal that the head leaves, by what the law's own def comes to -/
theorem law_walk {l : PySem.W.OpenLaw} {q : Program} {loose : List Str} {XP : (Str → Option Value) → Heap → Prop} {YP : World → Heap → Prop} {d : DefRec} {K : Params → PySem.W.Frag} {x : Str} {k : Nat} (ca : World → Nat → Addr) (D : Nat → List PV → Sto → R PV)
    (hn : l.most = some 63) (hdf : d.params.defaults = []) (hr : L2.Room k callerA) (hY : ∀ (w : World) (h : Heap), YP w h → (K w.params).In h)
    (F : ∀ (w : World) (mg : Str → Option Value) (fa : Addr) (h : Heap), (K w.params).In h → h.Ns mainGlobals mg → mg d.name = some (.ref fa) →
      ∃ fd : FuncData, (∀ (s : Shared) (u : Value), BindsTo s fd ⟨[u], []⟩ [(x, u)]) ∧ ∀ base : Heap, (K w.params).In base → base.Ns mainGlobals mg → L2.FnOk l.prog w (K w.params) mg base (L2.CX l.prog w) k fa fd [x] (spOf (K w.params) (ca w) D))
    (hD : ∀ ns : List Int, ns.length ≤ 63 → ∃ st, D 0 [.kls ns] [] = .ok (.bool true) st) :
    PySem.W.WalkO q loose XP YP l.row.toRowW d [] (fun f vs => PySem.call f vs) :=
  L2.walk_of (n := 63) (k := k) (x := x) (CX := fun w => L2.CX l.prog w) (sp := fun w => spOf (K w.params) (ca w) D) hn (by decide) hdf hr hY F (fun w H a ns hl _ hS => by
    obtain ⟨st', h⟩ := hD ns hl
    refine ⟨[], 0, [], [], [.kls ns], Nat.le_refl _, ⟨rfl, fun i j a ⟨o, e, _⟩ => by simp at e, fun i o a e => by simp at e, fun i a ⟨o, e, _⟩ => by simp at e, fun a h => by simp at h⟩, ?_, ?_⟩
    · simp only [RepL]
      refine ⟨.ref a, [], rfl, ?_, rfl⟩
      simp only [Rep]
      exact ⟨a, rfl, hS.imp (fun r => ⟨r, by simp, fun i ⟨o, e, _⟩ => by simp at e⟩) id⟩
    · rw [h]
      intro ms' H' u e S r
      exact rep_bool r) fun w H s e s' z => by
    obtain ⟨_, _, _, _, _, _, _, _, _, _, _, _, z⟩ := z
    exact z.elim
end Z

/-! What the small language's texts come to: steps for the mirrors. -/
namespace Z
theorem run_pure {Γ : Gam} {d : MD} {lo : Nat} {xs : List PV} {st st' : Sto} {v : PV} (hp : d.pure = true) (hl : xs.length = d.args) (h : execs Γ st.length d.body (xs.map some ++ List.replicate (d.slots - d.args) none) st = .ret v st') (hb : boxLt st.length v = true) :
    runFn Γ d lo xs st = .ok v st := by
  unfold runFn
  rw [if_pos hl]
  simp only [hp, if_true, h, fin, hb]
theorem atI_nn {α : Type} (xs : List α) (k : Int) (h : 0 ≤ k) : L2.atI xs k = xs[k.toNat]? := by
  unfold L2.atI L2.ixN
  rw [if_pos h]
  by_cases h1 : k < xs.length
  · rw [if_pos h1]; rfl
  · rw [if_neg h1]
    rw [List.getElem?_eq_none (by omega)]
    rfl
/-- the number at k of a script -/
def cell (ns : List Int) (k : Int) : Int := if k < ns.length then ns.getD k.toNat 0 else if ns = [] then 0 else ns.getD (k % ns.length).toNat 0 * 31 + k
/-- a number below m, drawn at k -/
def pick (ns : List Int) (k m : Int) : Int := (((cell ns k + 6151 * (k + 1)) * 40692 % 2147483399) * ((cell ns k + 6151 * (k + 1)) * 40692 % 2147483399) + ((cell ns k + 6151 * (k + 1)) * 40692 % 2147483399) / 31) % 2147483629 % m
theorem pick_nn (ns : List Int) (k m : Int) (h : 0 < m) : 0 ≤ pick ns k m := Int.emod_nonneg _ (by omega)
theorem pick_lt (ns : List Int) (k m : Int) (h : 0 < m) : pick ns k m < m := Int.emod_lt_of_pos _ h

section
variable {st : Sto} {bx : Bool} {i j : Int} {x y : Tx} {xs ys : List PV} {ns : List Int} {v w : PV} {lo : Nat} {b c : Bool}
@[simp] theorem szl : sizeLine = 16777216 := rfl
@[simp] theorem b_add : binop .add bx (.int i) (.int j) st = .ok (.int (i + j)) st := rfl
@[simp] theorem b_sub : binop .sub bx (.int i) (.int j) st = .ok (.int (i - j)) st := rfl
theorem b_mul : binop .mul bx (.int i) (.int j) st = if (-big < i ∧ i < big) ∨ (-big < j ∧ j < big) then .ok (.int (i * j)) st else .bad := rfl
theorem b_mulR (h : -big < j ∧ j < big) : binop .mul bx (.int i) (.int j) st = .ok (.int (i * j)) st := if_pos (.inr h)
theorem b_mulL (h : -big < i ∧ i < big) : binop .mul bx (.int i) (.int j) st = .ok (.int (i * j)) st := if_pos (.inl h)
theorem b_mod (h : 0 < j) : binop .mod bx (.int i) (.int j) st = .ok (.int (i % j)) st := if_pos h
theorem b_div (h : 0 < j ∧ j < 1073741824) : binop .fdiv bx (.int i) (.int j) st = .ok (.int (i / j)) st := if_pos h
theorem b_cat (h : x.length + y.length ≤ sizeLine) : binop .add bx (.str x) (.str y) st = .ok (.str (x ++ y)) st := if_pos h
theorem b_catL (h : xs.length + ys.length ≤ sizeLine) : binop .add bx (.lst xs) (.lst ys) st = mkLst bx (xs ++ ys) st := if_pos h
@[simp] theorem l_lt : cmpV .lt (.int i) (.int j) st = some (decide (i < j)) := rfl
@[simp] theorem l_le : cmpV .le (.int i) (.int j) st = some (decide (i ≤ j)) := rfl
@[simp] theorem l_gt : cmpV .gt (.int i) (.int j) st = some (decide (j < i)) := rfl
@[simp] theorem l_ge : cmpV .ge (.int i) (.int j) st = some (decide (j ≤ i)) := rfl
@[simp] theorem l_eqI : cmpV .eq (.int i) (.int j) st = some (decide (i = j)) := by
  simp only [cmpV, res, plain, eqv, Bool.and_self, if_true]
  rfl
@[simp] theorem l_neI : cmpV .ne (.int i) (.int j) st = some (!decide (i = j)) := by
  simp only [cmpV, res, plain, eqv, Bool.and_self, if_true]
  rfl
@[simp] theorem l_isB : cmpV .is (.bool b) (.bool c) st = some (decide (b = c)) := rfl
@[simp] theorem l_isNotB : cmpV .isNot (.bool b) (.bool c) st = some (!decide (b = c)) := rfl
@[simp] theorem f_lenL : bfn .len bx [.lst xs] st = .ok (.int xs.length) st := rfl
@[simp] theorem f_lenT : bfn .len bx [.tup xs] st = .ok (.int xs.length) st := rfl
@[simp] theorem f_lenK : bfn .len bx [.kls ns] st = .ok (.int ns.length) st := by
  show R.ok (PV.int ((ns.map PV.int).length : Nat)) st = _
  rw [List.length_map]
@[simp] theorem m_lst : mkLst false xs st = .ok (.lst xs) st := rfl
@[simp] theorem m_box : mkLst true xs st = .ok (.box st.length) (st ++ [.lst xs]) := rfl
theorem i_lst (h : 0 ≤ i) : idxf (.lst xs) (.int i) st = ofOpt xs[i.toNat]? st := by
  show ofOpt (L2.atI xs i) st = _
  rw [atI_nn _ _ h]
theorem i_tup (h : 0 ≤ i) : idxf (.tup xs) (.int i) st = ofOpt xs[i.toNat]? st := by
  show ofOpt (L2.atI xs i) st = _
  rw [atI_nn _ _ h]
theorem i_kls (h : 0 ≤ i) (h2 : i < ns.length) : idxf (.kls ns) (.int i) st = .ok (.int (ns.getD i.toNat 0)) st := by
  show ofOpt (L2.atI (ns.map PV.int) i) st = _
  have : i.toNat < ns.length := by omega
  rw [atI_nn _ _ h, List.getElem?_map, List.getElem?_eq_getElem this]
  simp [List.getD, this]
theorem last_get {st0 : Sto} {o : PO} : (st0 ++ [o])[st0.length]? = some o := by simp
theorem last_set {st0 : Sto} {o o' : PO} : (st0 ++ [o]).set st0.length o' = st0 ++ [o'] := by simp
theorem k_append (h : ys.length < sizeLine) : bmf .append st.length (.box st.length) [v] (st ++ [.lst ys]) = .ok .none (st ++ [.lst (ys ++ [v])]) := by
  simp only [bmf, fAppend, last_get, h, if_true, wr, Nat.le_refl, last_set]
@[simp] theorem k_ty : bmTy .append (st ++ [.lst ys]) (.box st.length) = true := by
  simp only [bmTy, lstOf, last_get, Option.isSome]
theorem k_extend {zs : List PV} (h : ys.length + zs.length ≤ sizeLine) : bmf .extend st.length (.box st.length) [.lst zs] (st ++ [.lst ys]) = .ok .none (st ++ [.lst (ys ++ zs)]) := by
  simp only [bmf, fExtend, last_get, lstOf, h, if_true, wr, Nat.le_refl, last_set]
@[simp] theorem k_tyE : bmTy .extend (st ++ [.lst ys]) (.box st.length) = true := by
  simp only [bmTy, lstOf, last_get, Option.isSome]
@[simp] theorem k_tyI : bmTy .insert (st ++ [.lst ys]) (.box st.length) = true := by
  simp only [bmTy, lstOf, last_get, Option.isSome]
@[simp] theorem k_tyP : bmTy .pop (st ++ [.lst ys]) (.box st.length) = true := by
  simp only [bmTy, lstOf, last_get, Option.isSome]
theorem k_insert {k : Int} (h : 0 ≤ k ∧ k ≤ ys.length ∧ ys.length < sizeLine) : bmf .insert st.length (.box st.length) [.int k, v] (st ++ [.lst ys]) = .ok .none (st ++ [.lst (ys.take k.toNat ++ v :: ys.drop k.toNat)]) := by
  simp only [bmf, fInsert, last_get, h, and_self, if_true, wr, Nat.le_refl, last_set]
theorem k_pop {y : PV} (h : ys.getLast? = some y) : bmf .pop st.length (.box st.length) [] (st ++ [.lst ys]) = .ok y (st ++ [.lst ys.dropLast]) := by
  simp only [bmf, fPop, last_get, h, wr, Nat.le_refl, if_true, last_set]
@[simp] theorem f_lenB : bfn .len bx [.box st.length] (st ++ [.lst ys]) = .ok (.int ys.length) (st ++ [.lst ys]) := by
  show (match seqOf (st ++ [.lst ys]) (.box st.length) with | some xs => R.ok (PV.int xs.length) _ | none => _) = _
  simp only [seqOf, last_get]
theorem i_box {k : Int} (h : 0 ≤ k) : idxf (.box st.length) (.int k) (st ++ [.lst ys]) = ofOpt ys[k.toNat]? (st ++ [.lst ys]) := by
  simp only [idxf, dctOf, seqOf, last_get, atI_nn _ _ h]
theorem z_frz {ρ : Env} {n : Nat} (h : ρ[n]? = some (some (.box st.length))) : frzf st.length n ρ (st ++ [.lst ys]) = .nx (ρ.set n (some (.lst ys))) (st ++ [.dead]) := by
  simp only [frzf, h, last_get, Nat.le_refl, if_true, last_set]
/-! comprehensions and loops -/
theorem comp_filter {F : PV → Sto → R (Option PV)} {p : PV → Bool} {g : PV → PV} {st : Sto} : ∀ {xs : List PV}, (∀ x ∈ xs, F x st = .ok (if p x then some (g x) else none) st) → compFix F xs st = .ok ((xs.filter p).map g) st
  | [], _ => rfl
  | x :: xs, h => by
    unfold compFix
    rw [h x List.mem_cons_self, R.bind_ok, comp_filter fun y hy => h y (List.mem_cons_of_mem _ hy), R.bind_ok]
    by_cases e : p x = true
    · simp [e]
    · simp [e]
theorem comp_map {F : PV → Sto → R (Option PV)} {g : PV → PV} {st : Sto} {xs : List PV} (h : ∀ x ∈ xs, F x st = .ok (some (g x)) st) : compFix F xs st = .ok (xs.map g) st := by
  have := comp_filter (p := fun _ => true) (g := g) (F := F) (xs := xs) (st := st) fun x hx => by rw [h x hx]; rfl
  rw [List.filter_eq_self.mpr fun _ _ => rfl] at this
  exact this
/-- one turn's element -/
def elM (Γ : Gam) (lo : Nat) (tg : Tg) (vs : List Nat) (cond : Option ME) (elt : ME) (ρ : Env) : PV → Sto → R (Option PV) := fun x st2 => match assign tg x (wipe ρ vs) with
  | some ρ' => (match cond with
    | some c => (eval Γ lo c ρ' st2).calm.bind fun b st3 => match b with
      | .bool true => (eval Γ lo elt ρ' st3).calm.bind fun y st4 => .ok (some y) st4
      | .bool false => .ok none st3
      | _ => .bad
    | none => (eval Γ lo elt ρ' st2).calm.bind fun y st4 => .ok (some y) st4)
  | none => .bad
theorem ev_fix {Γ : Gam} {lo : Nat} {tg : Tg} {vs : List Nat} {it : MI} {cond : Option ME} {elt : ME} {ρ : Env} {st : Sto} {bx : Bool} {xs ys : List PV} (hs : source Γ lo it ρ st = .ok (.fix xs) st) (hc : compFix (elM Γ lo tg vs cond elt ρ) xs st = .ok ys st) (hz : ys.length ≤ sizeLine) :
    eval Γ lo (.comp bx tg vs it cond elt) ρ st = mkLst bx ys st := by
  have e : eval Γ lo (.comp bx tg vs it cond elt) ρ st = (source Γ lo it ρ st).bind fun s st1 => (match s with
      | .fix xs => compFix (elM Γ lo tg vs cond elt ρ) xs st1
      | .live i => compLive i (elM Γ lo tg vs cond elt ρ) (match st1[i]? with | some (.lst xs) => xs.length + 1 | _ => 0) 0 st1
      | .liveE _ => .bad).bind fun ys st2 => if ys.length ≤ sizeLine then mkLst bx ys st2 else .bad := by
    rw [eval.eq_def]
    cases cond <;> rfl
  rw [e, hs, R.bind_ok]
  show (compFix (elM Γ lo tg vs cond elt ρ) xs st).bind _ = _
  rw [hc, R.bind_ok, if_pos hz]
end
end Z

set_option maxRecDepth 100000
namespace Z
open PySem PySem.Spec PyProof.Rows
/-! ### the defs of the text -/
def m_is_whole : MD := ⟨true, 3, 3,
 (.cons (.ret (.and (.isinst (.var 0) .int) (.and (.nt (.isinst (.var 0) .bool)) (.chain .le .le (.var 1) (.var 0) (.var 2)))))
 .nil)⟩
def c_is_key_0 : ME := (.comp false (.name 1) [1] (.seq (.var 0)) .none (.cmp .isIn (.var 1) (.glob "SMALL" (.str ['a', 'b', 'c', 'd', 'e', 'f', 'g', 'h', 'i', 'j', 'k', 'l', 'm', 'n', 'o', 'p', 'q', 'r', 's', 't', 'u', 'v', 'w', 'x', 'y', 'z']))))
def m_is_key : MD := ⟨true, 2, 1,
 (.cons (.ret (.and (.isinst (.var 0) .str) (.and (.chain .le .le (.const (.int 1)) (.bi .len false (.cons (.var 0) .nil)) (.const (.int 2))) (.bi .all false (.cons c_is_key_0 .nil)))))
 .nil)⟩
def m_is_row : MD := ⟨true, 1, 1,
 (.cons (.ite (.or (.nt (.isinst (.var 0) .tuple)) (.or (.cmp .ne (.bi .len false (.cons (.var 0) .nil)) (.const (.int 3))) (.nt (.call 1 (.cons (.idx (.var 0) (.const (.int 1))) .nil))))) (.cons (.ret (.const (.bool false)))
 .nil) .nil)
 (.cons (.ret (.and (.call 0 (.cons (.idx (.var 0) (.const (.int 0))) (.cons (.const (.int 0)) (.cons (.glob "FARTHEST" (.int 99)) .nil)))) (.call 0 (.cons (.idx (.var 0) (.const (.int 2))) (.cons (.bin .sub false (.const (.int 0)) (.glob "GREATEST" (.int 99))) (.cons (.glob "GREATEST" (.int 99)) .nil))))))
 .nil))⟩
def c_is_log_0 : ME := (.comp false (.tup [(.name 1), (.name 2)]) [1, 2] (.zip (.var 0) (.slice false (.var 0) (some (.const (.int 1))) .none)) .none (.cmp .le (.idx (.var 1) (.const (.int 0))) (.idx (.var 2) (.const (.int 0)))))
def m_is_log : MD := ⟨true, 3, 1,
 (.cons (.ret (.bi .all false (.cons c_is_log_0 .nil)))
 .nil)⟩
def w_in_order_0 : ME := (.and (.cmp .gt (.var 3) (.const (.int 0))) (.cmp .gt (.idx (.idx (.var 1) (.bin .sub false (.var 3) (.const (.int 1)))) (.const (.int 0))) (.idx (.var 2) (.const (.int 0)))))
def b_in_order_0 : MSs := (.cons (.asg (.name 3) (.bin .sub false (.var 3) (.const (.int 1))))
 .nil)
def b_in_order_1 : MSs := (.cons (.asg (.name 3) (.bi .len false (.cons (.var 1) .nil)))
 (.cons (.whl 1000 w_in_order_0 b_in_order_0)
 (.cons (.expr (.bm .insert (.var 1) (.cons (.var 3) (.cons (.var 2) .nil))))
 .nil)))
def m_in_order : MD := ⟨true, 4, 1,
 (.cons (.asg (.name 1) (.lst true .nil))
 (.cons (.for_ (.name 2) (.seq (.var 0)) b_in_order_1)
 (.frz 1 (.cons (.ret (.var 1))
 .nil))))⟩
def m__law_cell : MD := ⟨true, 2, 2,
 (.cons (.ite (.cmp .lt (.var 1) (.bi .len false (.cons (.var 0) .nil))) (.cons (.ret (.idx (.var 0) (.var 1)))
 .nil) .nil)
 (.cons (.ite (.cmp .eq (.var 0) (.lst false .nil)) (.cons (.ret (.const (.int 0)))
 .nil) .nil)
 (.cons (.ret (.bin .add false (.bin .mul false (.idx (.var 0) (.bin .mod false (.var 1) (.bi .len false (.cons (.var 0) .nil)))) (.const (.int 31))) (.var 1)))
 .nil)))⟩
def m__law_pick : MD := ⟨true, 4, 3,
 (.cons (.asg (.name 3) (.bin .mod false (.bin .mul false (.bin .add false (.call 5 (.cons (.var 0) (.cons (.var 1) .nil))) (.bin .mul false (.const (.int 6151)) (.bin .add false (.var 1) (.const (.int 1))))) (.const (.int 40692))) (.const (.int 2147483399))))
 (.cons (.ret (.bin .mod false (.bin .mod false (.bin .add false (.bin .mul false (.var 3) (.var 3)) (.bin .fdiv false (.var 3) (.const (.int 31)))) (.const (.int 2147483629))) (.var 2)))
 .nil))⟩
def m__law_key : MD := ⟨true, 5, 2,
 (.cons (.asg (.name 2) (.const (.str ['a', 'b', 'c', 'd', 'e', 'f', 'g', 'h', 'i', 'j', 'k', 'l', 'm', 'n', 'o', 'p', 'q', 'r', 's', 't', 'u', 'v', 'w', 'x', 'y', 'z'])))
 (.cons (.asg (.name 3) (.call 6 (.cons (.var 0) (.cons (.var 1) (.cons (.const (.int 16)) .nil)))))
 (.cons (.ite (.cmp .gt (.var 3) (.const (.int 0))) (.cons (.ret (.idx (.lst false (.cons (.const (.str ['a'])) (.cons (.const (.str ['b'])) (.cons (.const (.str ['a', 'b'])) .nil)))) (.bin .mod false (.var 3) (.const (.int 3)))))
 .nil) .nil)
 (.cons (.asg (.name 4) (.idx (.var 2) (.call 6 (.cons (.var 0) (.cons (.bin .add false (.var 1) (.const (.int 1))) (.cons (.const (.int 26)) .nil))))))
 (.cons (.ite (.cmp .eq (.call 6 (.cons (.var 0) (.cons (.bin .add false (.var 1) (.const (.int 2))) (.cons (.const (.int 2)) .nil)))) (.const (.int 0))) (.cons (.ret (.var 4))
 .nil) .nil)
 (.cons (.ret (.bin .add false (.var 4) (.idx (.var 2) (.call 6 (.cons (.var 0) (.cons (.bin .add false (.var 1) (.const (.int 3))) (.cons (.const (.int 26)) .nil)))))))
 .nil))))))⟩
def m__law_number : MD := ⟨true, 3, 3,
 (.cons (.ite (.cmp .eq (.call 6 (.cons (.var 0) (.cons (.var 1) (.cons (.const (.int 8)) .nil)))) (.const (.int 0))) (.cons (.ret (.bin .sub false (.call 6 (.cons (.var 0) (.cons (.bin .add false (.var 1) (.const (.int 1))) (.cons (.bin .add false (.bin .mul false (.const (.int 2)) (.var 2)) (.const (.int 1))) .nil)))) (.var 2)))
 .nil) .nil)
 (.cons (.ret (.bin .sub false (.call 6 (.cons (.var 0) (.cons (.bin .add false (.var 1) (.const (.int 1))) (.cons (.const (.int 9)) .nil)))) (.const (.int 4))))
 .nil))⟩
def b__law_rows_0 : MSs := (.cons (.asg (.name 7) (.bin .add false (.bin .add false (.var 1) (.const (.int 10))) (.bin .mul false (.const (.int 8)) (.var 6))))
 (.cons (.asg (.name 4) (.bi .min2 false (.cons (.const (.int 99)) (.cons (.bin .add false (.var 4) (.call 6 (.cons (.var 0) (.cons (.var 7) (.cons (.var 5) .nil))))) .nil))))
 (.cons (.expr (.bm .append (.var 3) (.cons (.tup (.cons (.var 4) (.cons (.call 7 (.cons (.var 0) (.cons (.bin .add false (.var 7) (.const (.int 1))) .nil))) (.cons (.call 8 (.cons (.var 0) (.cons (.bin .add false (.var 7) (.const (.int 5))) (.cons (.const (.int 99)) .nil)))) .nil)))) .nil)))
 .nil)))
def m__law_rows : MD := ⟨true, 8, 3,
 (.cons (.asg (.name 3) (.lst true .nil))
 (.cons (.asg (.name 4) (.call 6 (.cons (.var 0) (.cons (.var 1) (.cons (.const (.int 9)) .nil)))))
 (.cons (.asg (.name 5) (.idx (.lst false (.cons (.const (.int 1)) (.cons (.const (.int 3)) (.cons (.const (.int 6)) (.cons (.const (.int 14)) .nil))))) (.call 6 (.cons (.var 0) (.cons (.bin .add false (.var 1) (.const (.int 1))) (.cons (.const (.int 4)) .nil))))))
 (.cons (.for_ (.name 6) (.range1 (.call 6 (.cons (.var 0) (.cons (.bin .add false (.var 1) (.const (.int 2))) (.cons (.bin .add false (.var 2) (.const (.int 1))) .nil))))) b__law_rows_0)
 (.frz 3 (.cons (.ret (.var 3))
 .nil))))))⟩
def b_law_0 : MSs := (.cons (.expr (.bm .insert (.var 7) (.cons (.call 6 (.cons (.var 0) (.cons (.bin .add false (.const (.int 200)) (.var 8)) (.cons (.bi .len false (.cons (.var 7) .nil)) .nil)))) (.cons (.bm .pop (.var 7) .nil) .nil))))
 .nil)
def c_law_0 : ME := (.comp false (.name 11) [11] (.seq (.var 7)) (some (.cmp .eq (.idx (.var 11) (.const (.int 0))) (.var 3))) (.var 11))
def b_law_1 : MSs := (.cons (.expr (.bm .extend (.var 9) (.cons c_law_0 .nil)))
 .nil)
def c_law_1 : ME := (.comp false (.name 8) [8] (.range2 (.const (.int 1)) (.bi .len false (.cons (.var 7) .nil))) (some (.cmp .lt (.idx (.idx (.var 7) (.var 8)) (.const (.int 0))) (.idx (.idx (.var 7) (.bin .sub false (.var 8) (.const (.int 1)))) (.const (.int 0))))) (.var 8))
def m_law : MD := ⟨true, 12, 1,
 (.cons (.asg (.name 1) (.const (.str ['a', 'b', 'c', 'd', 'e', 'f', 'g', 'h', 'i', 'j', 'k', 'l', 'm', 'n', 'o', 'p', 'q', 'r', 's', 't', 'u', 'v', 'w', 'x', 'y', 'z'])))
 (.cons (.asg (.name 2) (.bin .add false (.idx (.var 1) (.call 6 (.cons (.var 0) (.cons (.const (.int 0)) (.cons (.const (.int 26)) .nil))))) (.idx (.var 1) (.call 6 (.cons (.var 0) (.cons (.const (.int 1)) (.cons (.const (.int 26)) .nil)))))))
 (.cons (.asg (.name 3) (.idx (.lst false (.cons (.const (.int 0)) (.cons (.const (.int 99)) (.cons (.const (.int 100)) (.cons (.neg (.const (.int 1))) (.cons (.call 6 (.cons (.var 0) (.cons (.const (.int 2)) (.cons (.const (.int 100)) .nil)))) .nil)))))) (.call 6 (.cons (.var 0) (.cons (.const (.int 3)) (.cons (.const (.int 5)) .nil))))))
 (.cons (.asg (.name 4) (.idx (.lst false (.cons (.const (.int 99)) (.cons (.neg (.const (.int 99))) (.cons (.const (.int 100)) (.cons (.neg (.const (.int 100))) (.cons (.call 6 (.cons (.var 0) (.cons (.const (.int 4)) (.cons (.const (.int 99)) .nil)))) .nil)))))) (.call 6 (.cons (.var 0) (.cons (.const (.int 5)) (.cons (.const (.int 5)) .nil))))))
 (.cons (.ite (.cmp .ne (.call 2 (.cons (.tup (.cons (.var 3) (.cons (.var 2) (.cons (.var 4) .nil)))) .nil)) (.and (.chain .le .le (.const (.int 0)) (.var 3) (.const (.int 99))) (.chain .le .le (.neg (.const (.int 99))) (.var 4) (.const (.int 99))))) (.cons (.ret (.const (.bool false)))
 .nil) .nil)
 (.cons (.ite (.cmp .isNot (.call 2 (.cons (.tup (.cons (.const (.int 5)) (.cons (.slice false (.var 2) .none (some (.const (.int 1)))) (.cons (.const (.int 0)) .nil)))) .nil)) (.const (.bool true))) (.cons (.ret (.const (.bool false)))
 .nil) .nil)
 (.cons (.asg (.name 5) (.lst true (.cons (.tup (.cons (.const (.int 1)) (.cons (.const (.str [])) (.cons (.const (.int 2)) .nil)))) (.cons (.tup (.cons (.const (.int 1)) (.cons (.bin .add false (.var 2) (.const (.str ['a']))) (.cons (.const (.int 2)) .nil)))) (.cons (.tup (.cons (.const (.int 1)) (.cons (.bm .upper (.var 2) .nil) (.cons (.const (.int 2)) .nil)))) (.cons (.tup (.cons (.const (.int 1)) (.cons (.const (.str ['a', '1'])) (.cons (.const (.int 2)) .nil)))) (.cons (.tup (.cons (.const (.int 1)) (.cons (.const (.str ['a'])) .nil))) (.cons (.tup (.cons (.const (.int 1)) (.cons (.const (.str ['a'])) (.cons (.const (.int 2)) (.cons (.const (.int 3)) .nil))))) .nil))))))))
 (.cons (.expr (.bm .extend (.var 5) (.cons (.lst false (.cons (.lst false (.cons (.const (.int 1)) (.cons (.const (.str ['a'])) (.cons (.const (.int 2)) .nil)))) (.cons (.const .none) .nil))) .nil)))
 (.cons (.expr (.bm .extend (.var 5) (.cons (.lst false (.cons (.tup (.cons (.const (.bool true)) (.cons (.const (.str ['a'])) (.cons (.const (.int 2)) .nil)))) (.cons (.tup (.cons (.const (.int 1)) (.cons (.const (.str ['a'])) (.cons (.const (.bool false)) .nil)))) (.cons (.tup (.cons (.const (.int 1)) (.cons (.const .none) (.cons (.const (.int 2)) .nil)))) (.cons (.tup (.cons (.const (.str ['1'])) (.cons (.const (.str ['a'])) (.cons (.const (.int 2)) .nil)))) (.cons (.tup (.cons (.const (.int 1)) (.cons (.const (.str ['a'])) (.cons (.const .none) .nil)))) (.cons (.tup (.cons (.const (.str ['a'])) (.cons (.const (.int 1)) (.cons (.const (.int 2)) .nil)))) (.cons (.tup .nil) (.cons (.const (.str ['1', ' ', 'a', ' ', '2'])) .nil))))))))) .nil)))
 (.frz 5 (.cons (.ite (.cmp .isNot (.call 2 (.cons (.idx (.var 5) (.call 6 (.cons (.var 0) (.cons (.const (.int 6)) (.cons (.const (.int 16)) .nil))))) .nil)) (.const (.bool false))) (.cons (.ret (.const (.bool false)))
 .nil) .nil)
 (.cons (.asg (.name 6) (.call 9 (.cons (.var 0) (.cons (.const (.int 20)) (.cons (.const (.int 8)) .nil)))))
 (.cons (.ite (.cmp .isNot (.call 3 (.cons (.var 6) .nil)) (.const (.bool true))) (.cons (.ret (.const (.bool false)))
 .nil) .nil)
 (.cons (.asg (.name 7) (.bi .listOf true (.cons (.var 6) .nil)))
 (.cons (.for_ (.name 8) (.range1 (.bi .len false (.cons (.var 7) .nil))) b_law_0)
 (.frz 7 (.cons (.asg (.name 9) (.lst true .nil))
 (.cons (.for_ (.name 3) (.range1 (.const (.int 100))) b_law_1)
 (.frz 9 (.cons (.asg (.name 10) c_law_1)
 (.cons (.ret (.and (.cmp .eq (.call 4 (.cons (.var 7) .nil)) (.var 9)) (.and (.cmp .eq (.call 3 (.cons (.var 7) .nil)) (.cmp .eq (.var 10) (.lst false .nil))) (.cmp .eq (.call 4 (.cons (.var 9) .nil)) (.var 9)))))
 .nil)))))))))))))))))))))⟩
def tab0 : Fns := []
def tab1 : Fns := tab0 ++ [("is_whole", runFn (gamOf tab0) m_is_whole)]
def tab2 : Fns := tab1 ++ [("is_key", runFn (gamOf tab1) m_is_key)]
def tab3 : Fns := tab2 ++ [("is_row", runFn (gamOf tab2) m_is_row)]
def tab4 : Fns := tab3 ++ [("is_log", runFn (gamOf tab3) m_is_log)]
def tab5 : Fns := tab4 ++ [("in_order", runFn (gamOf tab4) m_in_order)]
def tab6 : Fns := tab5 ++ [("_law_cell", runFn (gamOf tab5) m__law_cell)]
def tab7 : Fns := tab6 ++ [("_law_pick", runFn (gamOf tab6) m__law_pick)]
def tab8 : Fns := tab7 ++ [("_law_key", runFn (gamOf tab7) m__law_key)]
def tab9 : Fns := tab8 ++ [("_law_number", runFn (gamOf tab8) m__law_number)]
def tab10 : Fns := tab9 ++ [("_law_rows", runFn (gamOf tab9) m__law_rows)]
abbrev G__law_cell : Gam := gamOf tab5
abbrev G__law_pick : Gam := gamOf tab6
theorem g_pick_cell : (gamOf tab6).fn 5 = runFn G__law_cell m__law_cell := rfl
theorem r__law_cell (lo : Nat) (st : Sto) (ns : List Int) (k : Int) (hk : 0 ≤ k) : runFn G__law_cell m__law_cell lo [.kls ns, .int k] st = .ok (.int (cell ns k)) st := by
  have key : execs G__law_cell st.length m__law_cell.body [some (.kls ns), some (.int k)] st = .ret (.int (cell ns k)) st := by
    unfold cell
    by_cases h1 : k < ns.length
    · simp [m__law_cell, execs, exec, eval, evals, h1, i_kls hk h1]
    · have h1' : decide (k < (ns.length : Int)) = false := by simp; omega
      rw [if_neg h1]
      by_cases h2 : ns = []
      · subst h2
        have h3 : cmpV .eq (.kls []) (.lst []) st = some true := rfl
        simp [m__law_cell, execs, exec, eval, evals, Int.not_lt.mpr hk, h3]
      · have h3 : cmpV .eq (.kls ns) (.lst []) st = some false := by
          cases ns with
          | nil => exact absurd rfl h2
          | cons n ns =>
            have hp : ∀ l : List Int, plainL 59 (l.map PV.int) = true := fun l => by
              induction l with
              | nil => rfl
              | cons a l ih => simp [plainL, plain, ih]
            have := hp (n :: ns)
            simp only [cmpV, res, plain, this, plainL, Bool.and_self, if_true]
            rfl
        have h4 : 0 < (ns.length : Int) := by have := List.length_pos_iff.mpr h2; omega
        rw [if_neg h2]
        simp [m__law_cell, execs, exec, eval, evals, h1', h3, b_mod h4, i_kls (Int.emod_nonneg k (by omega)) (Int.emod_lt_of_pos k h4), b_mulR (j := 31) (by decide)]
  exact run_pure rfl rfl key rfl

theorem r__law_pick (lo : Nat) (st : Sto) (ns : List Int) (k m : Int) (hk : 0 ≤ k) (hm : 0 < m) : runFn G__law_pick m__law_pick lo [.kls ns, .int k, .int m] st = .ok (.int (pick ns k m)) st := by
  have key : execs G__law_pick st.length m__law_pick.body [some (.kls ns), some (.int k), some (.int m), none] st = .ret (.int (pick ns k m)) st := by
    have e1 := r__law_cell st.length st ns k hk
    have h0 : 0 ≤ (cell ns k + 6151 * (k + 1)) * 40692 % 2147483399 := Int.emod_nonneg _ (by decide)
    have h1 : (cell ns k + 6151 * (k + 1)) * 40692 % 2147483399 < 2147483399 := Int.emod_lt_of_pos _ (by decide)
    unfold pick
    generalize hd : (cell ns k + 6151 * (k + 1)) * 40692 % 2147483399 = d at h0 h1
    have hd' : -big < d ∧ d < big := by unfold big; omega
    simp [m__law_pick, execs, exec, eval, evals, g_pick_cell, e1, b_mulL (i := 6151) (by decide), b_mulR (j := 40692) (by decide), b_mod (j := 2147483399) (by decide), hd, assign, b_mulL hd', b_div (j := 31) (by decide), b_mod (j := 2147483629) (by decide), b_mod hm]

  exact run_pure rfl rfl key rfl

abbrev G__law_key : Gam := gamOf tab7
abbrev G__law_number : Gam := gamOf tab8
abbrev G__law_rows : Gam := gamOf tab9
theorem g_key_pick : (gamOf tab7).fn 6 = runFn G__law_pick m__law_pick := rfl
theorem g_number_pick : (gamOf tab8).fn 6 = runFn G__law_pick m__law_pick := rfl
theorem g_rows_pick : (gamOf tab9).fn 6 = runFn G__law_pick m__law_pick := rfl
theorem g_rows_key : (gamOf tab9).fn 7 = runFn G__law_key m__law_key := rfl
theorem g_rows_number : (gamOf tab9).fn 8 = runFn G__law_number m__law_number := rfl
def drawNum (ns : List Int) (k most : Int) : Int := if pick ns k 8 = 0 then pick ns (k + 1) (2 * most + 1) - most else pick ns (k + 1) 9 - 4
theorem r__law_number (lo : Nat) (st : Sto) (ns : List Int) (k m : Int) (hk : 0 ≤ k) (hm : 0 ≤ m) : runFn G__law_number m__law_number lo [.kls ns, .int k, .int m] st = .ok (.int (drawNum ns k m)) st := by
  have key : execs G__law_number st.length m__law_number.body [some (.kls ns), some (.int k), some (.int m)] st = .ret (.int (drawNum ns k m)) st := by
    unfold drawNum
    have e1 := r__law_pick st.length st ns k 8 hk (by decide)
    have e2 := r__law_pick st.length st ns (k + 1) 9 (by omega) (by decide)
    have e3 := r__law_pick st.length st ns (k + 1) (2 * m + 1) (by omega) (by omega)
    by_cases h : pick ns k 8 = 0
    · simp [m__law_number, execs, exec, eval, evals, g_number_pick, e1, e3, h, b_mulL (i := 2) (by decide)]
    · simp [m__law_number, execs, exec, eval, evals, g_number_pick, e1, e2, h]
  exact run_pure rfl rfl key rfl

def abc : Tx := ['a', 'b', 'c', 'd', 'e', 'f', 'g', 'h', 'i', 'j', 'k', 'l', 'm', 'n', 'o', 'p', 'q', 'r', 's', 't', 'u', 'v', 'w', 'x', 'y', 'z']
def letter (i : Int) : Char := abc.getD i.toNat 'a'
theorem i_abc {st : Sto} {i : Int} (h : 0 ≤ i) (h2 : i < 26) : idxf (.str abc) (.int i) st = .ok (.str [letter i]) st := by
  have h3 : i.toNat < abc.length := by show i.toNat < 26; omega
  show (if abc.length ≤ sizeLine then (match L2.atI abc i with | some c => R.ok (PV.str [c]) st | none => .bad) else .bad) = _
  rw [atI_nn _ _ h, List.getElem?_eq_getElem h3, if_pos (by decide)]
  simp [letter, List.getD, h3]
def drawKey (ns : List Int) (k : Int) : Tx := if pick ns k 16 > 0 then (if pick ns k 16 % 3 = 0 then ['a'] else if pick ns k 16 % 3 = 1 then ['b'] else ['a', 'b'])
  else if pick ns (k + 2) 2 = 0 then [letter (pick ns (k + 1) 26)] else [letter (pick ns (k + 1) 26), letter (pick ns (k + 3) 26)]
theorem r__law_key (lo : Nat) (st : Sto) (ns : List Int) (k : Int) (hk : 0 ≤ k) : runFn G__law_key m__law_key lo [.kls ns, .int k] st = .ok (.str (drawKey ns k)) st := by
  have key : execs G__law_key st.length m__law_key.body [some (.kls ns), some (.int k), none, none, none] st = .ret (.str (drawKey ns k)) st := by
    unfold drawKey
    have e1 := r__law_pick st.length st ns k 16 hk (by decide)
    have e2 := r__law_pick st.length st ns (k + 1) 26 (by omega) (by decide)
    have e3 := r__law_pick st.length st ns (k + 2) 2 (by omega) (by decide)
    have e4 := r__law_pick st.length st ns (k + 3) 26 (by omega) (by decide)
    have n1 := pick_nn ns (k + 1) 26 (by decide)
    have n2 := pick_lt ns (k + 1) 26 (by decide)
    have n3 := pick_nn ns (k + 3) 26 (by decide)
    have n4 := pick_lt ns (k + 3) 26 (by decide)
    change execs G__law_key st.length (.cons (.asg (.name 2) (.const (.str abc))) _) _ _ = _
    by_cases h : pick ns k 16 > 0
    · have h0 := Int.emod_nonneg (pick ns k 16) (by decide : (3 : Int) ≠ 0)
      have h1 := Int.emod_lt_of_pos (pick ns k 16) (by decide : (0 : Int) < 3)
      have h5 : (pick ns k 16 % 3 = 0) ∨ (pick ns k 16 % 3 = 1) ∨ (pick ns k 16 % 3 = 2) := by omega
      rcases h5 with h5 | h5 | h5 <;> simp [execs, exec, eval, evals, g_key_pick, e1, h, assign, b_mod (j := 3) (by decide), h5, i_lst]
    · by_cases h6 : pick ns (k + 2) 2 = 0
      · simp [execs, exec, eval, evals, g_key_pick, e1, e2, e3, h, assign, i_abc n1 n2, h6]
      · simp [execs, exec, eval, evals, g_key_pick, e1, e2, e3, e4, h, assign, i_abc n1 n2, i_abc n3 n4, h6, b_cat]
  exact run_pure rfl rfl key rfl

/-- a row: moment, key, number -/
abbrev Row := Int × Tx × Int
def rowV (r : Row) : PV := .tup [.int r.1, .str r.2.1, .int r.2.2]
def rowsFrom (ns : List Int) (p far : Int) : Nat → Nat → Int → List Row
  | 0, _, _ => []
  | n + 1, k, mo =>
    let mo' := if mo + pick ns (p + 10 + 8 * k) far < 99 then mo + pick ns (p + 10 + 8 * k) far else 99
    (mo', drawKey ns (p + 10 + 8 * k + 1), drawNum ns (p + 10 + 8 * k + 5) 99) :: rowsFrom ns p far n (k + 1) mo'
def farOf (i : Int) : Int := if i = 0 then 1 else if i = 1 then 3 else if i = 2 then 6 else 14
def drawRows (ns : List Int) (p most : Int) : List Row := rowsFrom ns p (farOf (pick ns (p + 1) 4)) (pick ns (p + 2) (most + 1)).toNat 0 (pick ns p 9)
theorem rowsFrom_len (ns : List Int) (p far : Int) : ∀ (n k : Nat) (mo : Int), (rowsFrom ns p far n k mo).length = n
  | 0, _, _ => rfl
  | n + 1, k, mo => by simp [rowsFrom, rowsFrom_len ns p far n]
theorem rows_loop (ns : List Int) (p most far : Int) (hp : 0 ≤ p) (hf : 0 < far) (st : Sto) : ∀ (n k : Nat) (mo : Int) (acc : List PV) (x6 x7 : Option PV), acc.length + n < 1000 →
    ∃ y6 y7 mo', forFix (fun x ρ1 st2 => execs G__law_rows st.length b__law_rows_0 (ρ1.set 6 (some x)) st2) ((List.range' k n).map fun (k : Nat) => .int k)
      [some (.kls ns), some (.int p), some (.int most), some (.box st.length), some (.int mo), some (.int far), x6, x7] (st ++ [.lst acc]) =
      .nx [some (.kls ns), some (.int p), some (.int most), some (.box st.length), some (.int mo'), some (.int far), y6, y7] (st ++ [.lst (acc ++ (rowsFrom ns p far n k mo).map rowV)])
  | 0, k, mo, acc, x6, x7, h => ⟨x6, x7, mo, by simp [forFix, rowsFrom]⟩
  | n + 1, k, mo, acc, x6, x7, h => by
    have e1 := fun s => r__law_pick st.length s ns (p + 10 + 8 * k) far (by omega) hf
    have e2 := fun s => r__law_key st.length s ns (p + 10 + 8 * k + 1) (by omega)
    have e3 := fun s => r__law_number st.length s ns (p + 10 + 8 * k + 5) 99 (by omega) (by decide)
    have hz : acc.length < sizeLine := by simp; omega
    have e4 : ∀ a b : Int, ∀ s, bfn .min2 false [.int a, .int b] s = .ok (.int (if b < a then b else a)) s := fun _ _ _ => rfl
    obtain ⟨y6, y7, mo', ih⟩ := rows_loop ns p most far hp hf st n (k + 1) (if mo + pick ns (p + 10 + 8 * k) far < 99 then mo + pick ns (p + 10 + 8 * k) far else 99) (acc ++ [rowV (if mo + pick ns (p + 10 + 8 * k) far < 99 then mo + pick ns (p + 10 + 8 * k) far else 99, drawKey ns (p + 10 + 8 * k + 1), drawNum ns (p + 10 + 8 * k + 5) 99)]) (some (.int k)) (some (.int (p + 10 + 8 * k))) (by simp; omega)
    refine ⟨y6, y7, mo', ?_⟩
    have step : execs G__law_rows st.length b__law_rows_0 [some (.kls ns), some (.int p), some (.int most), some (.box st.length), some (.int mo), some (.int far), some (.int k), x7] (st ++ [.lst acc]) =
        .nx [some (.kls ns), some (.int p), some (.int most), some (.box st.length), some (.int (if mo + pick ns (p + 10 + 8 * k) far < 99 then mo + pick ns (p + 10 + 8 * k) far else 99)), some (.int far), some (.int k), some (.int (p + 10 + 8 * k))] (st ++ [.lst (acc ++ [rowV (if mo + pick ns (p + 10 + 8 * k) far < 99 then mo + pick ns (p + 10 + 8 * k) far else 99, drawKey ns (p + 10 + 8 * k + 1), drawNum ns (p + 10 + 8 * k + 5) 99)])]) := by
      simp [b__law_rows_0, execs, exec, eval, evals, assign, b_mulL (i := 8) (by decide), g_rows_pick, g_rows_key, g_rows_number, e1, e2, e3, e4, k_append hz, rowV]
    rw [List.range'_succ, List.map_cons, forFix]
    simp only [List.set_cons_succ, List.set_cons_zero, step, RS.next_nx]
    rw [ih]
    simp [rowsFrom, List.append_assoc]

theorem rows_boxes (n : Nat) : ∀ l : List Row, boxLtL n (l.map rowV) = true
  | [] => rfl
  | r :: l => by simp [boxLtL, rowV, boxLt, rows_boxes n l]
theorem far_idx {st : Sto} {i : Int} (h : 0 ≤ i) (h2 : i < 4) : idxf (.lst [.int 1, .int 3, .int 6, .int 14]) (.int i) st = .ok (.int (farOf i)) st := by
  have h3 : i = 0 ∨ i = 1 ∨ i = 2 ∨ i = 3 := by omega
  rcases h3 with rfl | rfl | rfl | rfl <;> rfl
theorem far_pos (i : Int) : 0 < farOf i := by unfold farOf; split <;> (try split) <;> (try split) <;> decide
theorem r__law_rows (lo : Nat) (st : Sto) (ns : List Int) (p most : Int) (hp : 0 ≤ p) (hm : 0 ≤ most) (hm2 : most ≤ 900) : runFn G__law_rows m__law_rows lo [.kls ns, .int p, .int most] st = .ok (.lst ((drawRows ns p most).map rowV)) st := by
  have n1 := pick_nn ns (p + 2) (most + 1) (by omega)
  have n2 := pick_lt ns (p + 2) (most + 1) (by omega)
  have key : ∃ st', execs G__law_rows st.length m__law_rows.body [some (.kls ns), some (.int p), some (.int most), none, none, none, none, none] st = .ret (.lst ((drawRows ns p most).map rowV)) st' := by
    have e1 := fun s => r__law_pick st.length s ns p 9 hp (by decide)
    have e2 := fun s => r__law_pick st.length s ns (p + 1) 4 (by omega) (by decide)
    have e3 := fun s => r__law_pick st.length s ns (p + 2) (most + 1) (by omega) (by omega)
    have e4 := fun s => @far_idx s _ (pick_nn ns (p + 1) 4 (by decide)) (pick_lt ns (p + 1) 4 (by decide))
    obtain ⟨y6, y7, mo', loop⟩ := rows_loop ns p most (farOf (pick ns (p + 1) 4)) hp (far_pos _) st (pick ns (p + 2) (most + 1)).toNat 0 (pick ns p 9) [] none none (by simp; omega)
    refine ⟨st ++ [.dead], ?_⟩
    have hr : (pick ns (p + 2) (most + 1) < 1000000000 ∧ -1000000000 < pick ns (p + 2) (most + 1)) := by omega
    rw [← List.range_eq_range'] at loop
    simp only [List.nil_append] at loop
    simp [m__law_rows, execs, exec, eval, evals, assign, g_rows_pick, e1, e2, e3, e4, source, hr, loop, z_frz, drawRows]
  obtain ⟨_, key⟩ := key
  exact run_pure rfl rfl key (by simp only [boxLt]; exact rows_boxes _ _)

abbrev G_is_whole : Gam := gamOf tab0
abbrev G_is_key : Gam := gamOf tab1
abbrev G_is_row : Gam := gamOf tab2
abbrev G_is_log : Gam := gamOf tab3
abbrev G_in_order : Gam := gamOf tab4
theorem g_row_whole : (gamOf tab2).fn 0 = runFn G_is_whole m_is_whole := rfl
theorem g_row_key : (gamOf tab2).fn 1 = runFn G_is_key m_is_key := rfl
/-- no thing of the store, no exception, no dict -/
def flat : PV → Bool
  | .none | .bool _ | .int _ | .str _ | .tup _ | .lst _ => true
  | _ => false
def wholeV (v : PV) (a b : Int) : Bool := match v with | .int i => decide (a ≤ i) && decide (i ≤ b) | _ => false
theorem r_is_whole (lo : Nat) (st : Sto) (v : PV) (a b : Int) (hv : flat v = true) : runFn G_is_whole m_is_whole lo [v, .int a, .int b] st = .ok (.bool (wholeV v a b)) st := by
  have key : execs G_is_whole st.length m_is_whole.body [some v, some (.int a), some (.int b)] st = .ret (.bool (wholeV v a b)) st := by
    cases v with
    | int i => by_cases h : a ≤ i <;> simp [m_is_whole, execs, exec, eval, evals, isTy, wholeV, h]
    | bool i => simp [m_is_whole, execs, exec, eval, evals, isTy, wholeV]
    | none => simp [m_is_whole, execs, exec, eval, evals, isTy, wholeV]
    | str s => simp [m_is_whole, execs, exec, eval, evals, isTy, wholeV]
    | tup s => simp [m_is_whole, execs, exec, eval, evals, isTy, wholeV]
    | lst s => simp [m_is_whole, execs, exec, eval, evals, isTy, wholeV]
    | _ => simp [flat] at hv
  exact run_pure rfl rfl key rfl
def keyT (s : Tx) : Bool := decide (1 ≤ s.length) && decide (s.length ≤ 2) && s.all fun c => decide (c ∈ abc)
def keyV (v : PV) : Bool := match v with | .str s => keyT s | _ => false
def bitsL (s : Tx) : List PV := s.map fun c => PV.bool (decide (c ∈ abc))
theorem bools_map : ∀ s : Tx, boolsOf (bitsL s) = some (s.map fun c => decide (c ∈ abc))
  | [] => rfl
  | c :: s => by
    have ih := bools_map s
    unfold bitsL at ih ⊢
    simp only [List.map_cons, boolsOf, ih] <;> rfl
theorem ev_key (lo : Nat) (st : Sto) (s : Tx) (hs : s.length ≤ 1000) : eval G_is_key lo c_is_key_0 [some (.str s), none] st = .ok (.lst (bitsL s)) st := by
  have e0 : (s.map fun c => PV.str [c]).map (fun x => match x with | .str [c] => PV.bool (decide (c ∈ abc)) | _ => .none) = bitsL s := by
    rw [List.map_map]
    rfl
  rw [← e0]
  refine ev_fix (xs := s.map fun c => PV.str [c]) ?_ (comp_map fun x hx => ?_) (by simp; omega)
  · simp [source, eval, srcOf]
  · obtain ⟨c, _, rfl⟩ := List.mem_map.mp hx
    have e : inV st (.str [c]) (.str abc) = some (decide (c ∈ abc)) := rfl
    show elM _ _ _ _ _ (.cmp .isIn (.var 1) (.glob "SMALL" (.str abc))) _ _ _ = _
    simp [elM, assign, wipe, eval, cmpV, e]
theorem r_is_key (lo : Nat) (st : Sto) (v : PV) (hv : flat v = true) (hz : ∀ s, v = .str s → s.length ≤ 1000) : runFn G_is_key m_is_key lo [v] st = .ok (.bool (keyV v)) st := by
  have key : execs G_is_key st.length m_is_key.body [some v, none] st = .ret (.bool (keyV v)) st := by
    cases v with
    | str s =>
      have hs := hz s rfl
      have e1 : bfn .len false [.str s] st = .ok (.int s.length) st := by simp [bfn, seqOf]; omega
      have e2 : bfn .all false [.lst (bitsL s)] st = .ok (.bool ((s.map fun c => decide (c ∈ abc)).all id)) st := by
        show (match (lstOf st (.lst _)).bind boolsOf with | some bs => R.ok (PV.bool (bs.all id)) st | none => .bad) = _
        simp only [lstOf, Option.bind_some, bools_map]
      by_cases h1 : 1 ≤ s.length
      · by_cases h2 : s.length ≤ 2
        · have h1' : decide ((1 : Int) ≤ s.length) = true := by simp; omega
          have h2' : decide ((s.length : Int) ≤ 2) = true := by simp; omega
          simp [m_is_key, execs, exec, eval, evals, isTy, keyV, keyT, e1, ev_key _ _ _ hs, e2, h1, h2, h1', h2', List.all_map]
        · have h1' : decide ((1 : Int) ≤ s.length) = true := by simp; omega
          have h2' : decide ((s.length : Int) ≤ 2) = false := by simp; omega
          simp [m_is_key, execs, exec, eval, evals, isTy, keyV, keyT, e1, h1, h2, h1', h2']
      · have h1' : decide ((1 : Int) ≤ s.length) = false := by simp; omega
        simp [m_is_key, execs, exec, eval, evals, isTy, keyV, keyT, e1, h1, h1']
    | int i => simp [m_is_key, execs, exec, eval, evals, isTy, keyV]
    | bool i => simp [m_is_key, execs, exec, eval, evals, isTy, keyV]
    | none => simp [m_is_key, execs, exec, eval, evals, isTy, keyV]
    | tup s => simp [m_is_key, execs, exec, eval, evals, isTy, keyV]
    | lst s => simp [m_is_key, execs, exec, eval, evals, isTy, keyV]
    | _ => simp [flat] at hv
  exact run_pure rfl rfl key rfl

def small (v : PV) : Bool := flat v && (match v with | .str s => decide (s.length ≤ 1000) | _ => true)
def rowOk (v : PV) : Bool := match v with | .tup [a, b, c] => keyV b && (wholeV a 0 99 && wholeV c (-99) 99) | _ => false
theorem small_flat {v : PV} (h : small v = true) : flat v = true := by simp only [small, Bool.and_eq_true] at h; exact h.1
theorem small_str {v : PV} (h : small v = true) : ∀ s, v = .str s → s.length ≤ 1000 := by
  rintro s rfl
  simpa [small, flat] using h
theorem r_is_row3 (lo : Nat) (st : Sto) (a b c : PV) (ha : small a = true) (hb : small b = true) (hc : small c = true) : runFn G_is_row m_is_row lo [.tup [a, b, c]] st = .ok (.bool (keyV b && (wholeV a 0 99 && wholeV c (-99) 99))) st := by
  have key : execs G_is_row st.length m_is_row.body [some (.tup [a, b, c])] st = .ret (.bool (keyV b && (wholeV a 0 99 && wholeV c (-99) 99))) st := by
    have e1 := fun s => r_is_key st.length s b (small_flat hb) (small_str hb)
    have e2 := fun s => r_is_whole st.length s a 0 99 (small_flat ha)
    have e3 := fun s => r_is_whole st.length s c (-99) 99 (small_flat hc)
    cases h1 : keyV b <;> cases h2 : wholeV a 0 99 <;> simp [m_is_row, execs, exec, eval, evals, isTy, g_row_key, g_row_whole, e1, e2, e3, i_tup, h1, h2]
  exact run_pure rfl rfl key rfl
theorem r_is_rowN (lo : Nat) (st : Sto) (xs : List PV) (h : xs.length ≠ 3) : runFn G_is_row m_is_row lo [.tup xs] st = .ok (.bool false) st := by
  have key : execs G_is_row st.length m_is_row.body [some (.tup xs)] st = .ret (.bool false) st := by
    have h' : ¬ ((xs.length : Int) = 3) := by omega
    simp [m_is_row, execs, exec, eval, evals, isTy, h']
  exact run_pure rfl rfl key rfl
theorem r_is_row0 (lo : Nat) (st : Sto) (v : PV) (h : flat v = true) (h2 : ∀ xs, v ≠ .tup xs) : runFn G_is_row m_is_row lo [v] st = .ok (.bool false) st := by
  have key : execs G_is_row st.length m_is_row.body [some v] st = .ret (.bool false) st := by
    cases v with
    | tup xs => exact absurd rfl (h2 xs)
    | int i => simp [m_is_row, execs, exec, eval, evals, isTy]
    | bool i => simp [m_is_row, execs, exec, eval, evals, isTy]
    | none => simp [m_is_row, execs, exec, eval, evals, isTy]
    | str s => simp [m_is_row, execs, exec, eval, evals, isTy]
    | lst s => simp [m_is_row, execs, exec, eval, evals, isTy]
    | _ => simp [flat] at h
  exact run_pure rfl rfl key rfl
theorem r_is_row (lo : Nat) (st : Sto) (v : PV) (h : flat v = true) (hs : ∀ xs, v = .tup xs → ∀ x ∈ xs, small x = true) : runFn G_is_row m_is_row lo [v] st = .ok (.bool (rowOk v)) st := by
  cases v with
  | tup xs =>
    by_cases h3 : xs.length = 3
    · obtain ⟨a, b, c, rfl⟩ : ∃ a b c, xs = [a, b, c] := by
        match xs, h3 with
        | [a, b, c], _ => exact ⟨a, b, c, rfl⟩
      have hh := hs _ rfl
      exact r_is_row3 lo st a b c (hh a (by simp)) (hh b (by simp)) (hh c (by simp))
    · have e : rowOk (.tup xs) = false := by
        unfold rowOk
        split
        · rename_i h4
          cases h4
          exact absurd rfl h3
        · rfl
      rw [e]
      exact r_is_rowN lo st xs h3
  | _ => exact r_is_row0 lo st _ h (by simp)

def sortedB : List Row → Bool
  | a :: b :: r => decide (a.1 ≤ b.1) && sortedB (b :: r)
  | _ => true
def bitsLog : List Row → List PV
  | a :: b :: r => .bool (decide (a.1 ≤ b.1)) :: bitsLog (b :: r)
  | _ => []
theorem bitsLog_len : ∀ l : List Row, (bitsLog l).length ≤ l.length
  | [] => Nat.le_refl _
  | [_] => Nat.zero_le _
  | a :: b :: r => by
    have := bitsLog_len (b :: r)
    simp only [bitsLog, List.length_cons] at this ⊢
    omega
theorem bitsLog_all : ∀ l : List Row, ∃ bs, boolsOf (bitsLog l) = some bs ∧ bs.all id = sortedB l
  | [] => ⟨[], rfl, rfl⟩
  | [_] => ⟨[], rfl, rfl⟩
  | a :: b :: r => by
    obtain ⟨bs, h1, h2⟩ := bitsLog_all (b :: r)
    refine ⟨decide (a.1 ≤ b.1) :: bs, ?_, ?_⟩
    · simp only [bitsLog, boolsOf, h1] <;> rfl
    · simp only [List.all_cons, h2, sortedB, id]
theorem log_comp (F : PV → Sto → R (Option PV)) (st : Sto) (h : ∀ a b : Row, F (.tup [rowV a, rowV b]) st = .ok (some (.bool (decide (a.1 ≤ b.1)))) st) : ∀ l : List Row, compFix F (zipV (l.map rowV) ((l.map rowV).drop 1)) st = .ok (bitsLog l) st
  | [] => rfl
  | [_] => rfl
  | a :: b :: r => by
    have ih := log_comp F st h (b :: r)
    simp only [List.map_cons, List.drop_succ_cons, List.drop_zero, zipV, compFix, bitsLog] at ih ⊢
    rw [h, R.bind_ok, ih, R.bind_ok]
theorem cut1 (xs : List PV) : cut xs (some 1) none = xs.drop 1 := by
  cases xs with
  | nil => rfl
  | cons x xs =>
    have e1 : HT.sIx (x :: xs).length 0 (some 1) = 1 := by
      simp [HT.sIx]
    have e2 : HT.sIx (x :: xs).length (x :: xs).length none = (x :: xs).length := rfl
    unfold cut
    rw [e1, e2]
    simp
theorem r_is_log (lo : Nat) (st : Sto) (l : List Row) (hl : l.length ≤ 1000) : runFn G_is_log m_is_log lo [.lst (l.map rowV)] st = .ok (.bool (sortedB l)) st := by
  have key : execs G_is_log st.length m_is_log.body [some (.lst (l.map rowV)), none, none] st = .ret (.bool (sortedB l)) st := by
    have e1 : eval G_is_log st.length c_is_log_0 [some (.lst (l.map rowV)), none, none] st = .ok (.lst (bitsLog l)) st := by
      refine ev_fix (xs := zipV (l.map rowV) ((l.map rowV).drop 1)) ?_ (log_comp _ st (fun a b => ?_) l) (by have := bitsLog_len l; simp; omega)
      · simp [source, eval, evalO, partI, slicef, lstOf, cut1]
      · simp [elM, assign, assign.go, wipe, eval, rowV, i_tup]
    obtain ⟨bs, h1, h2⟩ := bitsLog_all l
    have e2 : bfn .all false [.lst (bitsLog l)] st = .ok (.bool (sortedB l)) st := by
      show (match (lstOf st (.lst _)).bind boolsOf with | some bs => R.ok (PV.bool (bs.all id)) st | none => .bad) = _
      simp only [lstOf, Option.bind_some, h1, h2]
    simp [m_is_log, execs, exec, eval, evals, e1, e2]
  exact run_pure rfl rfl key rfl

/-- where a row goes: behind the last that is not later -/
def insPos (l : List Row) (m : Int) : Nat → Nat
  | 0 => 0
  | a + 1 => if m < (l.getD a (0, [], 0)).1 then insPos l m a else a + 1
theorem insPos_le (l : List Row) (m : Int) : ∀ a, insPos l m a ≤ a
  | 0 => Nat.le_refl _
  | a + 1 => by
    unfold insPos
    split
    · exact Nat.le_succ_of_le (insPos_le l m a)
    · exact Nat.le_refl _
def insRow (l : List Row) (r : Row) : List Row := l.take (insPos l r.1 l.length) ++ r :: l.drop (insPos l r.1 l.length)
theorem order_while (st : Sto) (l : List Row) (r : Row) (xs : PV) : ∀ (a n : Nat), a < n → a ≤ l.length →
    whlF (eval G_in_order st.length w_in_order_0) (execs G_in_order st.length b_in_order_0) n [some xs, some (.box st.length), some (rowV r), some (.int a)] (st ++ [.lst (l.map rowV)]) =
      .nx [some xs, some (.box st.length), some (rowV r), some (.int (insPos l r.1 a))] (st ++ [.lst (l.map rowV)])
  | 0, n + 1, _, _ => by
    simp [whlF, w_in_order_0, eval, insPos]
  | a + 1, n + 1, h, h2 => by
    have ih := order_while st l r xs a n (by omega) (by omega)
    have h3 : a < l.length := by omega
    have e1 : (((a + 1 : Nat) : Int) > 0) := by omega
    have e2 : ((a + 1 : Nat) : Int) - 1 = a := by omega
    have e3 : idxf (.box st.length) (.int a) (st ++ [.lst (l.map rowV)]) = .ok (rowV l[a]) (st ++ [.lst (l.map rowV)]) := by
      rw [i_box (by omega)]
      simp [h3]
    have e4 : ∀ q : Row, ∀ s, idxf (rowV q) (.int 0) s = .ok (.int q.1) s := fun q s => by
      unfold rowV
      rw [i_tup (by decide)]
      rfl
    have e5 : (l.getD a (0, [], 0)) = l[a] := by simp [List.getD, h3]
    by_cases c : r.1 < l[a].1
    · simp only [whlF, insPos, e5, c, if_true]
      have : eval G_in_order st.length w_in_order_0 [some xs, some (.box st.length), some (rowV r), some (.int ((a + 1 : Nat) : Int))] (st ++ [.lst (l.map rowV)]) = .ok (.bool true) (st ++ [.lst (l.map rowV)]) := by
        simp only [w_in_order_0, eval, List.getElem?_cons_succ, List.getElem?_cons_zero, R.bind_ok, l_gt, Option.map_some, ofOpt_some, b_sub, e2, e3, e4]
        simp [c]
      rw [this]
      simp only [R.then_ok, b_in_order_0, execs, exec, eval, List.getElem?_cons_succ, List.getElem?_cons_zero, R.bind_ok, b_sub, e2, assign, List.set_cons_succ, List.set_cons_zero, RS.next_nx]
      exact ih
    · simp only [whlF, insPos, e5, c, if_false]
      have : eval G_in_order st.length w_in_order_0 [some xs, some (.box st.length), some (rowV r), some (.int ((a + 1 : Nat) : Int))] (st ++ [.lst (l.map rowV)]) = .ok (.bool false) (st ++ [.lst (l.map rowV)]) := by
        simp only [w_in_order_0, eval, List.getElem?_cons_succ, List.getElem?_cons_zero, R.bind_ok, l_gt, Option.map_some, ofOpt_some, b_sub, e2, e3, e4]
        simp [c]
      rw [this]
      rfl

theorem insRow_len (l : List Row) (r : Row) : (insRow l r).length = l.length + 1 := by
  have := insPos_le l r.1 l.length
  simp [insRow]
  omega
theorem order_loop (st : Sto) (xs : PV) : ∀ (rows acc : List Row) (x2 x3 : Option PV), acc.length + rows.length < 1000 →
    ∃ y2 y3, forFix (fun x ρ1 st2 => execs G_in_order st.length b_in_order_1 (ρ1.set 2 (some x)) st2) (rows.map rowV) [some xs, some (.box st.length), x2, x3] (st ++ [.lst (acc.map rowV)]) =
      .nx [some xs, some (.box st.length), y2, y3] (st ++ [.lst ((rows.foldl insRow acc).map rowV)])
  | [], acc, x2, x3, _ => ⟨x2, x3, rfl⟩
  | r :: rows, acc, x2, x3, h => by
    simp only [List.length_cons] at h
    have hw := order_while st acc r xs acc.length 1000 (by omega) (Nat.le_refl _)
    have hp := insPos_le acc r.1 acc.length
    have hi := k_insert (st := st) (ys := acc.map rowV) (v := rowV r) (k := (insPos acc r.1 acc.length : Nat)) ⟨by omega, by simp; omega, by simp; omega⟩
    have hl : (acc.map rowV).take (insPos acc r.1 acc.length) ++ rowV r :: (acc.map rowV).drop (insPos acc r.1 acc.length) = (insRow acc r).map rowV := by
      simp [insRow, List.map_take, List.map_drop]
    rw [Int.toNat_natCast, hl] at hi
    obtain ⟨y2, y3, ih⟩ := order_loop st xs rows (insRow acc r) (some (rowV r)) (some (.int (insPos acc r.1 acc.length : Nat))) (by rw [insRow_len]; omega)
    refine ⟨y2, y3, ?_⟩
    have step : execs G_in_order st.length b_in_order_1 [some xs, some (.box st.length), some (rowV r), x3] (st ++ [.lst (acc.map rowV)]) =
        .nx [some xs, some (.box st.length), some (rowV r), some (.int (insPos acc r.1 acc.length : Nat))] (st ++ [.lst ((insRow acc r).map rowV)]) := by
      simp only [b_in_order_1, execs, exec, eval, evals, List.getElem?_cons_succ, List.getElem?_cons_zero, R.bind_ok, f_lenB, List.length_map, R.then_ok, assign, List.set_cons_succ, List.set_cons_zero, RS.next_nx, hw, k_tyI, if_true, hi]
    rw [List.map_cons, forFix]
    simp only [List.set_cons_succ, List.set_cons_zero, step, RS.next_nx]
    rw [ih]
    rfl
def orderR (l : List Row) : List Row := l.foldl insRow []
theorem r_in_order (lo : Nat) (st : Sto) (l : List Row) (hl : l.length < 1000) : runFn G_in_order m_in_order lo [.lst (l.map rowV)] st = .ok (.lst ((orderR l).map rowV)) st := by
  have key : ∃ st', execs G_in_order st.length m_in_order.body [some (.lst (l.map rowV)), none, none, none] st = .ret (.lst ((orderR l).map rowV)) st' := by
    obtain ⟨y2, y3, loop⟩ := order_loop st (.lst (l.map rowV)) l [] none none (by simpa using hl)
    refine ⟨st ++ [.dead], ?_⟩
    simp only [List.map_nil] at loop
    simp [m_in_order, execs, exec, eval, evals, assign, source, srcOf, loop, z_frz, orderR]
  obtain ⟨_, key⟩ := key
  exact run_pure rfl rfl key (by simp only [boxLt]; exact rows_boxes _ _)

/-! ### the law's own mathematics -/
def dueF (l : List Row) (lo n : Nat) : List Row := (List.range' lo n).flatMap fun (m : Nat) => l.filter fun r => r.1 == (m : Int)
theorem dueF_add (l : List Row) (lo m n : Nat) : dueF l lo (m + n) = dueF l lo m ++ dueF l (lo + m) n := by
  unfold dueF
  rw [← List.range'_append_1, List.flatMap_append]
theorem dueF_mem {l : List Row} {lo n : Nat} {r : Row} (h : r ∈ dueF l lo n) : (lo : Int) ≤ r.1 ∧ r.1 < (lo : Int) + n := by
  unfold dueF at h
  obtain ⟨m, h1, h2⟩ := List.mem_flatMap.mp h
  have h3 := List.mem_range'_1.mp h1
  have h4 : r.1 = (m : Int) := by simpa using (List.mem_filter.mp h2).2
  omega
theorem dueF_out (l : List Row) (r : Row) : ∀ (n lo : Nat), (r.1 < lo ∨ (lo : Int) + n ≤ r.1) → dueF (l ++ [r]) lo n = dueF l lo n
  | 0, lo, h => rfl
  | n + 1, lo, h => by
    have ih := dueF_out l r n (lo + 1) (by omega)
    unfold dueF at ih ⊢
    rw [List.range'_succ, List.flatMap_cons, List.flatMap_cons, ih, List.filter_append]
    have : (r.1 == (lo : Int)) = false := by simp; omega
    simp [this]
/-- behind rows not later, ahead of later ones -/
theorem insPos_split (A B : List Row) (m : Int) (hA : ∀ r ∈ A, r.1 ≤ m) (hB : ∀ r ∈ B, m < r.1) : ∀ k, k ≤ B.length → insPos (A ++ B) m (A.length + k) = A.length
  | 0, _ => by
    cases h : A.length with
    | zero => rfl
    | succ n =>
      unfold insPos
      have h3 : n < A.length := by omega
      have : ((A ++ B).getD n (0, [], 0)) = A[n] := by
        simp [List.getD, List.getElem?_append_left h3, h3]
      rw [if_neg]
      rw [this]
      have := hA A[n] (List.getElem_mem h3)
      omega
  | k + 1, h => by
    have ih := insPos_split A B m hA hB k (by omega)
    show (if m < ((A ++ B).getD (A.length + k) (0, [], 0)).1 then insPos (A ++ B) m (A.length + k) else A.length + k + 1) = _
    have h3 : k < B.length := by omega
    have : ((A ++ B).getD (A.length + k) (0, [], 0)) = B[k] := by
      simp [List.getD, List.getElem?_append_right, h3]
    rw [if_pos, ih]
    rw [this]
    exact hB B[k] (List.getElem_mem h3)
theorem insRow_split (A B : List Row) (r : Row) (hA : ∀ q ∈ A, q.1 ≤ r.1) (hB : ∀ q ∈ B, r.1 < q.1) : insRow (A ++ B) r = A ++ r :: B := by
  unfold insRow
  have := insPos_split A B r.1 hA hB B.length (Nat.le_refl _)
  rw [List.length_append, this]
  simp
theorem due_ins (l : List Row) (r : Row) (h0 : 0 ≤ r.1) (h1 : r.1 < 100) : insRow (dueF l 0 100) r = dueF (l ++ [r]) 0 100 := by
  obtain ⟨m, hm⟩ : ∃ m : Nat, r.1 = m := ⟨r.1.toNat, by omega⟩
  have e : ∀ q : List Row, dueF q 0 100 = dueF q 0 m ++ (dueF q m 1 ++ dueF q (m + 1) (99 - m)) := fun q => by
    have : 100 = m + (1 + (99 - m)) := by omega
    conv => lhs; rw [this]
    rw [dueF_add, dueF_add, Nat.zero_add]
  have e2 : dueF (l ++ [r]) m 1 = dueF l m 1 ++ [r] := by
    simp [dueF, List.filter_append, hm]
  rw [e, e, dueF_out l r m 0 (by omega), dueF_out l r (99 - m) (m + 1) (by omega), e2, ← List.append_assoc, insRow_split]
  · simp
  · intro q hq
    rcases List.mem_append.mp hq with hq | hq
    · have := dueF_mem hq
      omega
    · have := dueF_mem hq
      omega
  · intro q hq
    have := dueF_mem hq
    omega
theorem order_due (l : List Row) : ∀ acc : List Row, (∀ r ∈ l, 0 ≤ r.1 ∧ r.1 < 100) → l.foldl insRow (dueF acc 0 100) = dueF (acc ++ l) 0 100 := by
  induction l with
  | nil => intro acc _; simp
  | cons r l ih =>
    intro acc h
    have hr := h r List.mem_cons_self
    rw [List.foldl_cons, due_ins acc r hr.1 hr.2, ih _ fun q hq => h q (List.mem_cons_of_mem _ hq)]
    simp
theorem orderR_due (l : List Row) (h : ∀ r ∈ l, 0 ≤ r.1 ∧ r.1 < 100) : orderR l = dueF l 0 100 := by
  have e : dueF [] 0 100 = [] := by simp [dueF]
  have := order_due l [] h
  rw [e] at this
  simpa [orderR] using this
end Z

set_option maxRecDepth 100000
namespace Z
open PySem PySem.Spec PyProof.Rows
theorem filter_due (l : List Row) (m : Nat) : ∀ (n lo : Nat), lo ≤ m → m < lo + n → (dueF l lo n).filter (fun r => r.1 == (m : Int)) = l.filter fun r => r.1 == (m : Int)
  | 0, lo, h1, h2 => by omega
  | n + 1, lo, h1, h2 => by
    have e : dueF l lo (n + 1) = dueF l lo 1 ++ dueF l (lo + 1) n := by rw [Nat.add_comm n 1, dueF_add]
    have e1 : dueF l lo 1 = l.filter fun r => r.1 == (lo : Int) := by simp [dueF]
    rw [e, List.filter_append, e1]
    by_cases h : lo = m
    · subst h
      have : (dueF l (lo + 1) n).filter (fun r => r.1 == (lo : Int)) = [] := by
        refine List.filter_eq_nil_iff.mpr fun r hr => ?_
        have := dueF_mem hr
        simp
        omega
      rw [this, List.filter_filter]
      simp
    · have : (l.filter fun r => r.1 == (lo : Int)).filter (fun r => r.1 == (m : Int)) = [] := by
        refine List.filter_eq_nil_iff.mpr fun r hr => ?_
        have := (List.mem_filter.mp hr).2
        simp at this ⊢
        omega
      rw [this, filter_due l m n (lo + 1) (by omega) (by omega)]
      rfl
theorem due_due (l : List Row) : dueF (dueF l 0 100) 0 100 = dueF l 0 100 := by
  have key : ∀ (n lo : Nat), lo + n ≤ 100 → dueF (dueF l 0 100) lo n = dueF l lo n := by
    intro n
    induction n with
    | zero => intro lo _; rfl
    | succ n ih =>
      intro lo h
      have e : ∀ q, dueF q lo (n + 1) = dueF q lo 1 ++ dueF q (lo + 1) n := fun q => by rw [Nat.add_comm n 1, dueF_add]
      have e1 : ∀ q, dueF q lo 1 = q.filter fun r => r.1 == (lo : Int) := fun q => by simp [dueF]
      rw [e, e, ih (lo + 1) (by omega), e1, e1, filter_due l lo 100 0 (by omega) (by omega)]
  exact key 100 0 (by omega)
theorem dueF_bd (l : List Row) : ∀ r ∈ dueF l 0 100, 0 ≤ r.1 ∧ r.1 < 100 := fun r h => by
  have := dueF_mem h
  omega
/-- the drawn rows stand in their order, from lo on -/
theorem rows_sorted (ns : List Int) (p far : Int) (hp : 0 < far) : ∀ (n k : Nat) (mo : Int), 0 ≤ mo → mo ≤ 99 → (∀ r ∈ rowsFrom ns p far n k mo, mo ≤ r.1 ∧ r.1 ≤ 99) ∧ sortedB (rowsFrom ns p far n k mo) = true
  | 0, k, mo, h0, h1 => ⟨fun r h => by simp [rowsFrom] at h, rfl⟩
  | n + 1, k, mo, h0, h1 => by
    have q := pick_nn ns (p + 10 + 8 * k) far hp
    generalize hm : (if mo + pick ns (p + 10 + 8 * k) far < 99 then mo + pick ns (p + 10 + 8 * k) far else 99) = mo'
    have hb : mo ≤ mo' ∧ mo' ≤ 99 := by
      rw [← hm]
      split <;> omega
    obtain ⟨i1, i2⟩ := rows_sorted ns p far hp n (k + 1) mo' (by omega) hb.2
    unfold rowsFrom
    simp only [hm]
    refine ⟨fun r h => ?_, ?_⟩
    · rcases List.mem_cons.mp h with rfl | h
      · exact hb
      · have := i1 r h
        omega
    · generalize rowsFrom ns p far n (k + 1) mo' = l at i1 i2
      cases l with
      | nil => rfl
      | cons b l =>
        have := i1 b List.mem_cons_self
        simp [sortedB, this.1, i2]
theorem draw_sorted (ns : List Int) (p most : Int) (hm : 0 ≤ most) : (∀ r ∈ drawRows ns p most, 0 ≤ r.1 ∧ r.1 < 100) ∧ sortedB (drawRows ns p most) = true ∧ (drawRows ns p most).length ≤ most := by
  have n1 := pick_nn ns p 9 (by decide)
  have n2 := pick_lt ns p 9 (by decide)
  have n3 := pick_nn ns (p + 2) (most + 1) (by omega)
  have n4 := pick_lt ns (p + 2) (most + 1) (by omega)
  obtain ⟨h1, h2⟩ := rows_sorted ns p (farOf (pick ns (p + 1) 4)) (far_pos _) (pick ns (p + 2) (most + 1)).toNat 0 (pick ns p 9) (by omega) (by omega)
  refine ⟨fun r h => ?_, h2, ?_⟩
  · have := h1 r h
    omega
  · unfold drawRows
    rw [rowsFrom_len]
    omega
/-- the places of the rows that fall -/
def fallsB (l : List Row) (k n : Nat) : List Nat := (List.range' k n).filter fun i => decide ((l.getD i (0, [], 0)).1 < (l.getD (i - 1) (0, [], 0)).1)
theorem falls_sorted : ∀ l : List Row, (fallsB l 1 (l.length - 1) = []) ↔ sortedB l = true
  | [] => by simp [fallsB, sortedB]
  | [a] => by simp [fallsB, sortedB]
  | a :: b :: r => by
    have ih := falls_sorted (b :: r)
    have e : fallsB (a :: b :: r) 1 ((a :: b :: r).length - 1) = [] ↔ (¬ b.1 < a.1) ∧ fallsB (b :: r) 1 ((b :: r).length - 1) = [] := by
      simp only [fallsB, List.length_cons, Nat.add_sub_cancel, List.filter_eq_nil_iff, List.mem_range'_1, decide_eq_true_eq]
      constructor
      · intro h
        refine ⟨by simpa using h 1 (by omega), fun i hi => ?_⟩
        have := h (i + 1) (by omega)
        obtain ⟨j, rfl⟩ : ∃ j, i = j + 1 := ⟨i - 1, by omega⟩
        simpa using this
      · rintro ⟨h1, h2⟩ i hi
        by_cases c : i = 1
        · subst c
          simpa using h1
        · obtain ⟨j, rfl⟩ : ∃ j, i = j + 2 := ⟨i - 2, by omega⟩
          have := h2 (j + 1) (by omega)
          simpa using this
    rw [e, ih]
    simp [sortedB]
end Z

set_option maxRecDepth 100000
namespace Z
open PySem PySem.Spec PyProof.Rows
abbrev G_law : Gam := gamOf tab10
theorem g_law_pick : (gamOf tab10).fn 6 = runFn G__law_pick m__law_pick := rfl
theorem g_law_row : (gamOf tab10).fn 2 = runFn G_is_row m_is_row := rfl
theorem g_law_log : (gamOf tab10).fn 3 = runFn G_is_log m_is_log := rfl
theorem g_law_order : (gamOf tab10).fn 4 = runFn G_in_order m_in_order := rfl
theorem g_law_rows : (gamOf tab10).fn 9 = runFn G__law_rows m__law_rows := rfl
section
variable {st : Sto} {ys : List PV} {v : PV}
theorem k0_insert {k : Int} (h : 0 ≤ k ∧ k ≤ ys.length ∧ ys.length < sizeLine) : bmf .insert 0 (.box st.length) [.int k, v] (st ++ [.lst ys]) = .ok .none (st ++ [.lst (ys.take k.toNat ++ v :: ys.drop k.toNat)]) := by
  simp only [bmf, fInsert, last_get, h, and_self, if_true, wr, Nat.zero_le, last_set]
theorem k0_pop {y : PV} (h : ys.getLast? = some y) : bmf .pop 0 (.box st.length) [] (st ++ [.lst ys]) = .ok y (st ++ [.lst ys.dropLast]) := by
  simp only [bmf, fPop, last_get, h, wr, Nat.zero_le, if_true, last_set]
theorem k0_extend {zs : List PV} (h : ys.length + zs.length ≤ sizeLine) : bmf .extend 0 (.box st.length) [.lst zs] (st ++ [.lst ys]) = .ok .none (st ++ [.lst (ys ++ zs)]) := by
  simp only [bmf, fExtend, last_get, lstOf, h, if_true, wr, Nat.zero_le, last_set]
theorem z0_frz {ρ : Env} {n : Nat} (h : ρ[n]? = some (some (.box st.length))) : frzf 0 n ρ (st ++ [.lst ys]) = .nx (ρ.set n (some (.lst ys))) (st ++ [.dead]) := by
  simp only [frzf, h, last_get, Nat.zero_le, if_true, last_set]
end
theorem mix_loop (ns : List Int) (st : Sto) (a1 a2 a3 a4 a5 a6 a9 a10 a11 : Option PV) : ∀ (n k : Nat) (l : List Row) (x8 : Option PV), l.length ≤ 1000 → (0 < l.length ∨ n = 0) →
    ∃ (l' : List Row) (y8 : Option PV), forFix (fun x ρ1 st2 => execs G_law 0 b_law_0 (ρ1.set 8 (some x)) st2) ((List.range' k n).map fun (k : Nat) => .int k) [some (.kls ns), a1, a2, a3, a4, a5, a6, some (.box st.length), x8, a9, a10, a11] (st ++ [.lst (l.map rowV)]) =
      .nx [some (.kls ns), a1, a2, a3, a4, a5, a6, some (.box st.length), y8, a9, a10, a11] (st ++ [.lst (l'.map rowV)]) ∧ l'.length = l.length ∧ ∀ r ∈ l', r ∈ l
  | 0, k, l, x8, _, _ => ⟨l, x8, rfl, rfl, fun _ h => h⟩
  | n + 1, k, l, x8, h, h2 => by
    have hl : 0 < l.length := by omega
    have hne : l ≠ [] := List.length_pos_iff.mp hl
    have p0 := pick_nn ns (200 + k) l.length (by omega)
    have p1 := pick_lt ns (200 + k) l.length (by omega)
    have e1 := fun s => r__law_pick 0 s ns (200 + k) l.length (by omega) (by omega)
    have e2 : (l.map rowV).getLast? = some (rowV (l.getLast hne)) := by
      rw [List.getLast?_map, List.getLast?_eq_some_getLast hne]
      rfl
    have e3 := k0_pop (st := st) e2
    have e4 := k0_insert (st := st) (ys := (l.map rowV).dropLast) (v := rowV (l.getLast hne)) (k := pick ns (200 + k) l.length) ⟨p0, by simp; omega, by simp; omega⟩
    obtain ⟨l', y8, ih, i1, i2⟩ := mix_loop ns st a1 a2 a3 a4 a5 a6 a9 a10 a11 n (k + 1) (l.dropLast.take (pick ns (200 + k) l.length).toNat ++ l.getLast hne :: l.dropLast.drop (pick ns (200 + k) l.length).toNat) (some (.int k)) (by simp; omega) (.inl (by simp; omega))
    have e5 : (l.map rowV).dropLast.take (pick ns (200 + k) l.length).toNat ++ rowV (l.getLast hne) :: (l.map rowV).dropLast.drop (pick ns (200 + k) l.length).toNat = (l.dropLast.take (pick ns (200 + k) l.length).toNat ++ l.getLast hne :: l.dropLast.drop (pick ns (200 + k) l.length).toNat).map rowV := by
      simp [List.map_take, List.map_drop, List.map_dropLast]
    rw [e5] at e4
    refine ⟨l', y8, ?_, ?_, fun r hr => ?_⟩
    · rw [List.range'_succ, List.map_cons, forFix]
      have step : execs G_law 0 b_law_0 [some (.kls ns), a1, a2, a3, a4, a5, a6, some (.box st.length), some (.int k), a9, a10, a11] (st ++ [.lst (l.map rowV)]) =
          .nx [some (.kls ns), a1, a2, a3, a4, a5, a6, some (.box st.length), some (.int k), a9, a10, a11] (st ++ [.lst ((l.dropLast.take (pick ns (200 + k) l.length).toNat ++ l.getLast hne :: l.dropLast.drop (pick ns (200 + k) l.length).toNat).map rowV)]) := by
        simp only [b_law_0, execs, exec, eval, evals, List.getElem?_cons_succ, List.getElem?_cons_zero, R.bind_ok, b_add, f_lenB, List.length_map, g_law_pick, e1, k_tyI, k_tyP, if_true, e3, e4, R.then_ok, RS.next_nx]
      simp only [List.set_cons_succ, List.set_cons_zero, step, RS.next_nx]
      exact ih
    · rw [i1]
      simp
      omega
    · have := i2 r hr
      rcases List.mem_append.mp this with q | q
      · exact List.dropLast_subset l (List.mem_of_mem_take q)
      · rcases List.mem_cons.mp q with rfl | q
        · exact List.getLast_mem hne
        · exact List.dropLast_subset l (List.mem_of_mem_drop q)
def isAt (m : Int) : PV → Bool
  | .tup (.int i :: _) => i == m
  | _ => false
theorem ev_at (ns : List Int) (st : Sto) (a1 a2 a4 a5 a6 a8 a9 a10 a11 : Option PV) (l : List Row) (m : Int) (hl : l.length ≤ 1000) :
    eval G_law 0 c_law_0 [some (.kls ns), a1, a2, some (.int m), a4, a5, a6, some (.lst (l.map rowV)), a8, a9, a10, a11] st = .ok (.lst ((l.filter fun r => r.1 == m).map rowV)) st := by
  have e : ((l.map rowV).filter (isAt m)).map id = (l.filter fun r => r.1 == m).map rowV := by
    rw [List.map_id, List.filter_map]
    rfl
  rw [← e]
  refine ev_fix (xs := l.map rowV) ?_ (comp_filter fun x hx => ?_) ?_
  · simp [source, eval, srcOf]
  · obtain ⟨r, _, rfl⟩ := List.mem_map.mp hx
    have e4 : ∀ s, idxf (rowV r) (.int 0) s = .ok (.int r.1) s := fun s => by
      unfold rowV
      rw [i_tup (by decide)]
      rfl
    have e5 : isAt m (rowV r) = decide (r.1 = m) := by
      show (r.1 == m) = decide (r.1 = m)
      rfl
    by_cases h : r.1 = m <;> simp [elM, assign, wipe, eval, e4, e5, h]
  · have := List.length_filter_le (isAt m) (l.map rowV)
    simp at this ⊢
    omega
theorem due_loop (ns : List Int) (st : Sto) (a1 a2 a4 a5 a6 a8 a10 a11 : Option PV) (l : List Row) (hl : l.length ≤ 1000) : ∀ (n k : Nat) (acc : List Row) (x3 : Option PV), acc.length + n * 1000 ≤ 1000000 →
    ∃ y3, forFix (fun x ρ1 st2 => execs G_law 0 b_law_1 (ρ1.set 3 (some x)) st2) ((List.range' k n).map fun (k : Nat) => .int k) [some (.kls ns), a1, a2, x3, a4, a5, a6, some (.lst (l.map rowV)), a8, some (.box st.length), a10, a11] (st ++ [.lst (acc.map rowV)]) =
      .nx [some (.kls ns), a1, a2, y3, a4, a5, a6, some (.lst (l.map rowV)), a8, some (.box st.length), a10, a11] (st ++ [.lst ((acc ++ dueF l k n).map rowV)])
  | 0, k, acc, x3, _ => ⟨x3, by simp [forFix, dueF]⟩
  | n + 1, k, acc, x3, h => by
    have hf := List.length_filter_le (fun r : Row => r.1 == (k : Int)) l
    have e1 := fun s => ev_at ns s a1 a2 a4 a5 a6 a8 (some (.box st.length)) a10 a11 l k hl
    have e2 := k0_extend (st := st) (ys := acc.map rowV) (zs := (l.filter fun r => r.1 == (k : Int)).map rowV) (by simp; omega)
    obtain ⟨y3, ih⟩ := due_loop ns st a1 a2 a4 a5 a6 a8 a10 a11 l hl n (k + 1) (acc ++ l.filter fun r => r.1 == (k : Int)) (some (.int k)) (by simp; omega)
    refine ⟨y3, ?_⟩
    rw [List.range'_succ, List.map_cons, forFix]
    have step : execs G_law 0 b_law_1 [some (.kls ns), a1, a2, some (.int k), a4, a5, a6, some (.lst (l.map rowV)), a8, some (.box st.length), a10, a11] (st ++ [.lst (acc.map rowV)]) =
        .nx [some (.kls ns), a1, a2, some (.int k), a4, a5, a6, some (.lst (l.map rowV)), a8, some (.box st.length), a10, a11] (st ++ [.lst ((acc ++ l.filter fun r => r.1 == (k : Int)).map rowV)]) := by
      simp only [b_law_1, execs, exec, eval, evals, List.getElem?_cons_succ, List.getElem?_cons_zero, R.bind_ok, e1, k_tyE, if_true, e2, R.then_ok, RS.next_nx, List.map_append]
    simp only [List.set_cons_succ, List.set_cons_zero, step, RS.next_nx]
    rw [ih]
    have e : dueF l k (n + 1) = (l.filter fun r => r.1 == (k : Int)) ++ dueF l (k + 1) n := by
      rw [Nat.add_comm n 1, dueF_add]
      simp [dueF]
    rw [e, List.append_assoc]
end Z

namespace Z
theorem s_range2 {Γ : Gam} {lo : Nat} {a b : ME} {ρ : Env} {st : Sto} {m n : Int} (ha : eval Γ lo a ρ st = .ok (.int m) st) (hb : eval Γ lo b ρ st = .ok (.int n) st) (h : n < 1000000000 ∧ -1000000000 < n ∧ m < 1000000000 ∧ -1000000000 < m) :
    source Γ lo (.range2 a b) ρ st = .ok (.fix ((List.range (n - m).toNat).map fun (k : Nat) => .int (m + k))) st := by
  simp only [source, ha, hb, R.bind_ok]
  rw [if_pos]
  simp only [Bool.and_eq_true, decide_eq_true_eq]
  exact ⟨⟨⟨h.1, h.2.1⟩, h.2.2.1⟩, h.2.2.2⟩
end Z

set_option maxRecDepth 100000
namespace Z
open PySem PySem.Spec PyProof.Rows
section
variable {st : Sto} {b c : Bool}
theorem l_neB : cmpV .ne (.bool b) (.bool c) st = some (!(b == c)) := by
  simp only [cmpV, res, plain, eqv, Bool.and_self, if_true]
theorem l_eqB : cmpV .eq (.bool b) (.bool c) st = some (b == c) := by
  simp only [cmpV, res, plain, eqv, Bool.and_self, if_true]
theorem rows_plain : ∀ l : List Row, plainL 59 (l.map rowV) = true
  | [] => rfl
  | r :: l => by simp [plainL, rowV, plain, rows_plain l]
theorem rows_refl : ∀ l : List Row, eqvL (l.map rowV) (l.map rowV) = true
  | [] => rfl
  | r :: l => by simp [eqvL, rowV, eqv, rows_refl l]
theorem l_eqRows (l : List Row) : cmpV .eq (.lst (l.map rowV)) (.lst (l.map rowV)) st = some true := by
  simp only [cmpV, res, plain, rows_plain, eqv, rows_refl, Bool.and_self, if_true]
theorem ints_plain : ∀ l : List Nat, plainL 59 (l.map fun (k : Nat) => PV.int k) = true
  | [] => rfl
  | r :: l => by simp [plainL, plain, ints_plain l]
theorem l_eqNil (l : List Nat) : cmpV .eq (.lst (l.map fun (k : Nat) => PV.int k)) (.lst []) st = some (decide (l = [])) := by
  simp only [cmpV, res, plain, ints_plain, plainL, Bool.and_self, if_true, eqv]
  cases l <;> simp [eqvL]
end
theorem letter_abc : ∀ i : Fin 26, (letter (i.val : Int)) ∈ abc ∧ (97 ≤ (letter (i.val : Int)).toNat ∧ (letter (i.val : Int)).toNat ≤ 122) ∧ (letter (i.val : Int)).toUpper ∉ abc := by decide +kernel
theorem letter_in {i : Int} (h : 0 ≤ i) (h2 : i < 26) : letter i ∈ abc ∧ (97 ≤ (letter i).toNat ∧ (letter i).toNat ≤ 122) ∧ (letter i).toUpper ∉ abc := by
  have := letter_abc ⟨i.toNat, by omega⟩
  have e : ((i.toNat : Nat) : Int) = i := by omega
  simpa only [e] using this
theorem ev_falls (st : Sto) (a0 a1 a2 a3 a4 a5 a6 a8 a9 a10 a11 : Option PV) (l : List Row) (hl : l.length ≤ 1000) :
    eval G_law 0 c_law_1 [a0, a1, a2, a3, a4, a5, a6, some (.lst (l.map rowV)), a8, a9, a10, a11] st = .ok (.lst ((fallsB l 1 (l.length - 1)).map fun (k : Nat) => PV.int k)) st := by
  have e : (((List.range' 1 (l.length - 1)).map fun (k : Nat) => PV.int k).filter (fun x => match x with | .int i => decide ((l.getD i.toNat (0, [], 0)).1 < (l.getD (i.toNat - 1) (0, [], 0)).1) | _ => false)).map id = (fallsB l 1 (l.length - 1)).map fun (k : Nat) => PV.int k := by
    rw [List.map_id, List.filter_map]
    rfl
  rw [← e]
  refine ev_fix (xs := (List.range' 1 (l.length - 1)).map fun (k : Nat) => PV.int k) ?_ (comp_filter fun x hx => ?_) ?_
  · have h2 : ((l.length : Int) - 1).toNat = l.length - 1 := by omega
    have h3 : (List.range' 1 (l.length - 1)).map (fun (k : Nat) => PV.int k) = (List.range (l.length - 1)).map fun (k : Nat) => PV.int (1 + k) := by
      rw [List.range'_eq_map_range, List.map_map]
      refine List.map_congr_left fun k _ => ?_
      simp
    rw [h3]
    rw [s_range2 (m := 1) (n := l.length) rfl (by simp [eval, evals]) (by omega), h2]
  · obtain ⟨k, hk, rfl⟩ := List.mem_map.mp hx
    have hk := List.mem_range'_1.mp hk
    have e4 : ∀ q : Row, ∀ s, idxf (rowV q) (.int 0) s = .ok (.int q.1) s := fun q s => by
      unfold rowV
      rw [i_tup (by decide)]
      rfl
    have h5 : k < l.length := by omega
    have h6 : k - 1 < l.length := by omega
    have e5 : ∀ s, idxf (.lst (l.map rowV)) (.int k) s = .ok (rowV l[k]) s := fun s => by
      rw [i_lst (by omega)]
      simp [h5]
    have e6 : ∀ s, idxf (.lst (l.map rowV)) (.int ((k : Int) - 1)) s = .ok (rowV l[k - 1]) s := fun s => by
      have : ((k : Int) - 1).toNat = k - 1 := by omega
      rw [i_lst (by omega), this]
      simp [h6]
    have e7 : l.getD k (0, [], 0) = l[k] := by simp [List.getD, h5]
    have e8 : l.getD (k - 1) (0, [], 0) = l[k - 1] := by simp [List.getD, h6]
    by_cases h : l[k].1 < l[k - 1].1
    · simp [elM, assign, wipe, eval, e4, e5, e6, h, h5, h6]
    · simp [elM, assign, wipe, eval, e4, e5, e6, h, h5, h6]
  · have := List.length_filter_le (fun x => match x with | PV.int i => decide ((l.getD i.toNat (0, [], 0)).1 < (l.getD (i.toNat - 1) (0, [], 0)).1) | _ => false) ((List.range' 1 (l.length - 1)).map fun (k : Nat) => PV.int k)
    simp at this ⊢
    omega
end Z

set_option maxRecDepth 100000
namespace Z
open PySem PySem.Spec PyProof.Rows
theorem exec_cons {Γ : Gam} {lo : Nat} {s : MS} {r : MSs} {ρ ρ' : Env} {st st' : Sto} (h : exec Γ lo s ρ st = .nx ρ' st') : execs Γ lo (.cons s r) ρ st = execs Γ lo r ρ' st' := by
  simp only [execs, h, RS.next_nx]
theorem key_two {a b : Char} (ha : a ∈ abc) (hb : b ∈ abc) : keyT [a, b] = true := by simp [keyT, ha, hb]
theorem key_one {a : Char} (ha : a ∈ abc) : keyT [a] = true := by simp [keyT, ha]
def badRows (a b : Char) : List PV := [.tup [.int 1, .str [], .int 2], .tup [.int 1, .str [a, b, 'a'], .int 2], .tup [.int 1, .str [a.toUpper, b.toUpper], .int 2], .tup [.int 1, .str ['a', '1'], .int 2], .tup [.int 1, .str ['a']], .tup [.int 1, .str ['a'], .int 2, .int 3],
  .lst [.int 1, .str ['a'], .int 2], .none, .tup [.bool true, .str ['a'], .int 2], .tup [.int 1, .str ['a'], .bool false], .tup [.int 1, .none, .int 2], .tup [.str ['1'], .str ['a'], .int 2], .tup [.int 1, .str ['a'], .none], .tup [.str ['a'], .int 1, .int 2], .tup [], .str ['1', ' ', 'a', ' ', '2']]
theorem bad_no (a b : Char) (h : a.toUpper ∉ abc) : ∀ v ∈ badRows a b, rowOk v = false ∧ flat v = true ∧ ∀ xs, v = .tup xs → ∀ x ∈ xs, small x = true := by
  intro v hv
  simp only [badRows, List.mem_cons, List.not_mem_nil, or_false] at hv
  have e1 : ('1' : Char) ∉ abc := by decide
  rcases hv with rfl | rfl | rfl | rfl | rfl | rfl | rfl | rfl | rfl | rfl | rfl | rfl | rfl | rfl | rfl | rfl
  all_goals refine ⟨?_, rfl, ?_⟩
  all_goals first | (intro xs hxs x hx; cases hxs; simp at hx; rcases hx with rfl | rfl | rfl | rfl <;> simp [small, flat]; done) | (intro xs hxs x hx; cases hxs; simp at hx; rcases hx with rfl | rfl | rfl <;> simp [small, flat]; done) | (intro xs hxs x hx; cases hxs; simp at hx; rcases hx with rfl | rfl <;> simp [small, flat]; done) | (intro xs hxs x hx; cases hxs; done) | (intro xs hxs x hx; cases hxs; simp at hx; done) | (simp [rowOk, keyV, keyT, wholeV, h, e1]; done) | rfl
end Z

set_option maxRecDepth 100000
namespace Z
open PySem PySem.Spec PyProof.Rows
theorem exec_frz {Γ : Gam} {lo i : Nat} {r : MSs} {ρ ρ' : Env} {st st' : Sto} (h : frzf lo i ρ st = .nx ρ' st') : execs Γ lo (.frz i r) ρ st = execs Γ lo r ρ' st' := by
  simp only [execs, h, RS.next_nx]
theorem five (a b c d e : Int) {i : Int} (h : 0 ≤ i) (h2 : i < 5) : ∃ m : Int, ∀ st, idxf (.lst [.int a, .int b, .int c, .int d, .int e]) (.int i) st = .ok (.int m) st := by
  have h3 : i = 0 ∨ i = 1 ∨ i = 2 ∨ i = 3 ∨ i = 4 := by omega
  rcases h3 with rfl | rfl | rfl | rfl | rfl
  · exact ⟨a, fun _ => rfl⟩
  · exact ⟨b, fun _ => rfl⟩
  · exact ⟨c, fun _ => rfl⟩
  · exact ⟨d, fun _ => rfl⟩
  · exact ⟨e, fun _ => rfl⟩
theorem bad_ix (a b : Char) {i : Int} (h : 0 ≤ i) (h2 : i < 16) : ∃ v ∈ badRows a b, ∀ st, idxf (.lst (badRows a b)) (.int i) st = .ok v st := by
  have h3 : i.toNat < (badRows a b).length := by simp [badRows]; omega
  refine ⟨(badRows a b)[i.toNat], List.getElem_mem h3, fun st => ?_⟩
  rw [i_lst h, List.getElem?_eq_getElem h3]
  rfl
theorem s_range1 {Γ : Gam} {lo : Nat} {a : ME} {ρ : Env} {st : Sto} {n : Int} (ha : eval Γ lo a ρ st = .ok (.int n) st) (h : n < 1000000000 ∧ -1000000000 < n) :
    source Γ lo (.range1 a) ρ st = .ok (.fix ((List.range n.toNat).map fun (k : Nat) => .int k)) st := by
  simp only [source, ha, R.bind_ok]
  rw [if_pos]
  simp only [Bool.and_eq_true, decide_eq_true_eq]
  exact h
theorem orderR_len (l : List Row) : (orderR l).length = l.length := by
  have : ∀ (l acc : List Row), (l.foldl insRow acc).length = acc.length + l.length := by
    intro l
    induction l with
    | nil => intro acc; simp
    | cons r l ih =>
      intro acc
      rw [List.foldl_cons, ih, insRow_len]
      simp
      omega
  have := this l []
  simpa [orderR] using this
theorem due_step (ns : List Int) (a1 a2 a4 a5 a6 a8 a10 a11 x3 : Option PV) (mix : List Row) (st : Sto) (y3 : Option PV) (N : Nat) (hN : (N : Int) < 1000000000)
    (q1 : forFix (fun x ρ1 st2 => execs G_law 0 b_law_1 (ρ1.set 3 (some x)) st2) ((List.range N).map fun (k : Nat) => .int k) [some (.kls ns), a1, a2, x3, a4, a5, a6, some (.lst (mix.map rowV)), a8, some (.box st.length), a10, a11] (st ++ [.lst (([] : List Row).map rowV)]) =
      .nx [some (.kls ns), a1, a2, y3, a4, a5, a6, some (.lst (mix.map rowV)), a8, some (.box st.length), a10, a11] (st ++ [.lst (([] ++ dueF mix 0 N).map rowV)])) :
    exec G_law 0 (.for_ (.name 3) (.range1 (.const (.int N))) b_law_1) [some (.kls ns), a1, a2, x3, a4, a5, a6, some (.lst (mix.map rowV)), a8, some (.box st.length), a10, a11] (st ++ [.lst (([] : List Row).map rowV)]) =
      .nx [some (.kls ns), a1, a2, y3, a4, a5, a6, some (.lst (mix.map rowV)), a8, some (.box st.length), a10, a11] (st ++ [.lst ((dueF mix 0 N).map rowV)]) := by
  simp only [exec]
  rw [s_range1 (n := N) rfl (by omega)]
  simp only [R.then_ok, assign, Int.toNat_natCast]
  rw [List.nil_append] at q1
  exact q1
theorem mix_step (ns : List Int) (a1 a2 a3 a4 a5 a6 x8 : Option PV) (a9 a10 a11 x : Option PV) (rows mix : List Row) (st : Sto) (y8 : Option PV) (hN : (rows.length : Int) < 1000000000)
    (q1 : forFix (fun x ρ1 st2 => execs G_law 0 b_law_0 (ρ1.set 8 (some x)) st2) ((List.range rows.length).map fun (k : Nat) => .int k) [some (.kls ns), a1, a2, a3, a4, a5, a6, some (.box st.length), x8, a9, a10, a11] (st ++ [.lst (rows.map rowV)]) =
      .nx [some (.kls ns), a1, a2, a3, a4, a5, a6, some (.box st.length), y8, a9, a10, a11] (st ++ [.lst (mix.map rowV)])) :
    exec G_law 0 (.for_ (.name 8) (.range1 (.bi .len false (.cons (.var 7) .nil))) b_law_0) [some (.kls ns), a1, a2, a3, a4, a5, a6, some (.box st.length), x8, a9, a10, a11] (st ++ [.lst (rows.map rowV)]) =
      .nx [some (.kls ns), a1, a2, a3, a4, a5, a6, some (.box st.length), y8, a9, a10, a11] (st ++ [.lst (mix.map rowV)]) := by
  simp only [exec]
  rw [s_range1 (n := rows.length) (by
    have hb := @f_lenB st false (rows.map rowV)
    rw [List.length_map] at hb
    simp only [eval, evals, R.bind_ok, List.getElem?_cons_succ, List.getElem?_cons_zero, hb]) (by omega)]
  simp only [R.then_ok, assign, Int.toNat_natCast]
  exact q1
theorem law_true : ∀ ns : List Int, ns.length ≤ 63 → ∃ st, runFn (gamOf tab10) m_law 0 [.kls ns] [] = .ok (.bool true) st := by
  intro ns _
  refine ⟨[], ?_⟩
  have key : ∃ st', execs G_law 0 m_law.body [some (.kls ns), none, none, none, none, none, none, none, none, none, none, none] [] = .ret (.bool true) st' := by
    have pk := fun (s : Sto) (k m : Int) (hk : 0 ≤ k) (hm : 0 < m) => r__law_pick 0 s ns k m hk hm
    have nn := fun (k m : Int) (hm : 0 < m) => pick_nn ns k m hm
    have lt := fun (k m : Int) (hm : 0 < m) => pick_lt ns k m hm
    obtain ⟨a1, a2, a3⟩ := letter_in (nn 0 26 (by decide)) (lt 0 26 (by decide))
    obtain ⟨b1, b2, b3⟩ := letter_in (nn 1 26 (by decide)) (lt 1 26 (by decide))
    have ia := fun s => @i_abc s _ (nn 0 26 (by decide)) (lt 0 26 (by decide))
    have ib := fun s => @i_abc s _ (nn 1 26 (by decide)) (lt 1 26 (by decide))
    generalize letter (pick ns 0 26) = a at *
    generalize letter (pick ns 1 26) = b at *
    obtain ⟨m, im⟩ := five 0 99 100 (-1) (pick ns 2 100) (nn 3 5 (by decide)) (lt 3 5 (by decide))
    obtain ⟨n, inn⟩ := five 99 (-99) 100 (-100) (pick ns 4 99) (nn 5 5 (by decide)) (lt 5 5 (by decide))
    change ∃ st', execs G_law 0 (.cons (.asg (.name 1) (.const (.str abc))) _) _ _ = _
    rw [exec_cons (ρ' := [some (.kls ns), some (.str abc), none, none, none, none, none, none, none, none, none, none]) (st' := []) (by simp [exec, eval, assign])]
    rw [exec_cons (ρ' := [some (.kls ns), some (.str abc), some (.str [a, b]), none, none, none, none, none, none, none, none, none]) (st' := []) (by
      simp [exec, eval, evals, assign, g_law_pick, pk, ia, ib, b_cat])]
    rw [exec_cons (ρ' := [some (.kls ns), some (.str abc), some (.str [a, b]), some (.int m), none, none, none, none, none, none, none, none]) (st' := []) (by
      simp [exec, eval, evals, assign, g_law_pick, pk, im])]
    rw [exec_cons (ρ' := [some (.kls ns), some (.str abc), some (.str [a, b]), some (.int m), some (.int n), none, none, none, none, none, none, none]) (st' := []) (by
      simp [exec, eval, evals, assign, g_law_pick, pk, inn])]
    have k2 : keyT [a, b] = true := key_two a1 b1
    have s1 : ∀ i : Int, small (.int i) = true := fun _ => rfl
    have s2 : small (.str [a, b]) = true := by simp [small, flat]
    have s3 : small (.str [a]) = true := by simp [small, flat]
    have c1 := fun s => r_is_row3 0 s (.int m) (.str [a, b]) (.int n) (s1 m) s2 (s1 n)
    have c2 := fun s => r_is_row3 0 s (.int 5) (.str [a]) (.int 0) (s1 5) s3 (s1 0)
    rw [exec_cons (ρ' := [some (.kls ns), some (.str abc), some (.str [a, b]), some (.int m), some (.int n), none, none, none, none, none, none, none]) (st' := []) (by
      by_cases h1 : 0 ≤ m <;> by_cases h2 : m ≤ 99 <;> by_cases h3 : -99 ≤ n <;> by_cases h4 : n ≤ 99 <;> simp [exec, execs, eval, evals, g_law_row, c1, keyV, k2, wholeV, l_neB, h1, h2, h3, h4])]
    rw [exec_cons (ρ' := [some (.kls ns), some (.str abc), some (.str [a, b]), some (.int m), some (.int n), none, none, none, none, none, none, none]) (st' := []) (by
      have cu : slicef false (.str [a, b]) none (some 1) [] = .ok (.str [a]) [] := rfl
      simp [exec, execs, eval, evals, evalO, partI, g_law_row, cu, c2, keyV, key_one a1, wholeV])]
    have up : ∀ s, bmf .upper 0 (.str [a, b]) [] s = .ok (.str [a.toUpper, b.toUpper]) s := fun s => by
      simp [bmf, fUpper, a2, b2]
    rw [exec_cons (ρ' := [some (.kls ns), some (.str abc), some (.str [a, b]), some (.int m), some (.int n), some (.box 0), none, none, none, none, none, none]) (st' := [.lst ((badRows a b).take 6)]) (by
      simp [exec, execs, eval, evals, assign, bmTy, up, b_cat, badRows])]
    rw [exec_cons (ρ' := [some (.kls ns), some (.str abc), some (.str [a, b]), some (.int m), some (.int n), some (.box 0), none, none, none, none, none, none]) (st' := [.lst ((badRows a b).take 8)]) (by
      simp [exec, execs, eval, evals, assign, bmTy, badRows, bmf, fExtend, lstOf, wr])]
    rw [exec_cons (ρ' := [some (.kls ns), some (.str abc), some (.str [a, b]), some (.int m), some (.int n), some (.box 0), none, none, none, none, none, none]) (st' := [.lst (badRows a b)]) (by
      simp [exec, execs, eval, evals, assign, bmTy, badRows, bmf, fExtend, lstOf, wr])]
    rw [exec_frz (ρ' := [some (.kls ns), some (.str abc), some (.str [a, b]), some (.int m), some (.int n), some (.lst (badRows a b)), none, none, none, none, none, none]) (st' := [.dead]) (by
      simp [frzf])]
    obtain ⟨v, hv, iv⟩ := bad_ix a b (nn 6 16 (by decide)) (lt 6 16 (by decide))
    obtain ⟨v1, v2, v3⟩ := bad_no a b a3 v hv
    have c3 := fun s => r_is_row 0 s v v2 v3
    rw [exec_cons (ρ' := [some (.kls ns), some (.str abc), some (.str [a, b]), some (.int m), some (.int n), some (.lst (badRows a b)), none, none, none, none, none, none]) (st' := [.dead]) (by
      simp [exec, execs, eval, evals, g_law_pick, pk, iv, g_law_row, c3, v1])]
    have rr := fun s => r__law_rows 0 s ns 20 8 (by decide) (by decide) (by decide)
    obtain ⟨d1, d2, d3⟩ := draw_sorted ns 20 8 (by decide)
    generalize drawRows ns 20 8 = rows at *
    rw [exec_cons (ρ' := [some (.kls ns), some (.str abc), some (.str [a, b]), some (.int m), some (.int n), some (.lst (badRows a b)), some (.lst (rows.map rowV)), none, none, none, none, none]) (st' := [.dead]) (by
      simp [exec, execs, eval, evals, assign, g_law_rows, rr])]
    have lg := fun s => r_is_log 0 s rows (by omega)
    rw [exec_cons (ρ' := [some (.kls ns), some (.str abc), some (.str [a, b]), some (.int m), some (.int n), some (.lst (badRows a b)), some (.lst (rows.map rowV)), none, none, none, none, none]) (st' := [.dead]) (by
      simp [exec, execs, eval, evals, g_law_log, lg, d2])]
    rw [exec_cons (ρ' := [some (.kls ns), some (.str abc), some (.str [a, b]), some (.int m), some (.int n), some (.lst (badRows a b)), some (.lst (rows.map rowV)), some (.box 1), none, none, none, none]) (st' := [.dead] ++ [.lst (rows.map rowV)]) (by
      simp [exec, execs, eval, evals, assign, bfn, seqOf])]
    obtain ⟨mix, y8, m1, m2, m3⟩ := mix_loop ns [.dead] (some (.str abc)) (some (.str [a, b])) (some (.int m)) (some (.int n)) (some (.lst (badRows a b))) (some (.lst (rows.map rowV))) none none none rows.length 0 rows none (by omega) (by omega)
    rw [← List.range_eq_range'] at m1
    have mm : exec G_law 0 (.for_ (.name 8) (.range1 (.bi .len false (.cons (.var 7) .nil))) b_law_0) [some (.kls ns), some (.str abc), some (.str [a, b]), some (.int m), some (.int n), some (.lst (badRows a b)), some (.lst (rows.map rowV)), some (.box 1), none, none, none, none] ([.dead] ++ [.lst (rows.map rowV)]) =
        .nx [some (.kls ns), some (.str abc), some (.str [a, b]), some (.int m), some (.int n), some (.lst (badRows a b)), some (.lst (rows.map rowV)), some (.box 1), y8, none, none, none] ([.dead] ++ [.lst (mix.map rowV)]) := mix_step ns _ _ _ _ _ _ _ _ _ _ none rows mix [.dead] y8 (by omega) m1
    rw [exec_cons mm]
    rw [exec_frz (ρ' := [some (.kls ns), some (.str abc), some (.str [a, b]), some (.int m), some (.int n), some (.lst (badRows a b)), some (.lst (rows.map rowV)), some (.lst (mix.map rowV)), y8, none, none, none]) (st' := [.dead, .dead]) (by
      simp [frzf])]
    rw [exec_cons (ρ' := [some (.kls ns), some (.str abc), some (.str [a, b]), some (.int m), some (.int n), some (.lst (badRows a b)), some (.lst (rows.map rowV)), some (.lst (mix.map rowV)), y8, some (.box 2), none, none]) (st' := [.dead, .dead] ++ [.lst (([] : List Row).map rowV)]) (by
      simp [exec, eval, evals, assign])]
    obtain ⟨y3, q1⟩ := due_loop ns [.dead, .dead] (some (.str abc)) (some (.str [a, b])) (some (.int n)) (some (.lst (badRows a b))) (some (.lst (rows.map rowV))) y8 none none mix (by omega) 100 0 [] (some (.int m)) (by simp)
    rw [← List.range_eq_range'] at q1
    have qq : exec G_law 0 (.for_ (.name 3) (.range1 (.const (.int 100))) b_law_1) [some (.kls ns), some (.str abc), some (.str [a, b]), some (.int m), some (.int n), some (.lst (badRows a b)), some (.lst (rows.map rowV)), some (.lst (mix.map rowV)), y8, some (.box 2), none, none] ([.dead, .dead] ++ [.lst (([] : List Row).map rowV)]) =
        .nx [some (.kls ns), some (.str abc), some (.str [a, b]), y3, some (.int n), some (.lst (badRows a b)), some (.lst (rows.map rowV)), some (.lst (mix.map rowV)), y8, some (.box 2), none, none] ([.dead, .dead] ++ [.lst ((dueF mix 0 100).map rowV)]) := due_step ns (some (.str abc)) (some (.str [a, b])) (some (.int n)) (some (.lst (badRows a b))) (some (.lst (rows.map rowV))) y8 none none (some (.int m)) mix [.dead, .dead] y3 100 (by omega) q1
    rw [exec_cons qq]
    rw [exec_frz (ρ' := [some (.kls ns), some (.str abc), some (.str [a, b]), y3, some (.int n), some (.lst (badRows a b)), some (.lst (rows.map rowV)), some (.lst (mix.map rowV)), y8, some (.lst ((dueF mix 0 100).map rowV)), none, none]) (st' := [.dead, .dead, .dead]) (by
      simp [frzf])]
    have fl := fun s => ev_falls s (some (.kls ns)) (some (.str abc)) (some (.str [a, b])) y3 (some (.int n)) (some (.lst (badRows a b))) (some (.lst (rows.map rowV))) y8 (some (.lst ((dueF mix 0 100).map rowV))) none none mix (by omega)
    rw [exec_cons (ρ' := [some (.kls ns), some (.str abc), some (.str [a, b]), y3, some (.int n), some (.lst (badRows a b)), some (.lst (rows.map rowV)), some (.lst (mix.map rowV)), y8, some (.lst ((dueF mix 0 100).map rowV)), some (.lst ((fallsB mix 1 (mix.length - 1)).map fun (k : Nat) => PV.int k)), none]) (st' := [.dead, .dead, .dead]) (by
      simp [exec, fl, assign])]
    have md : ∀ r ∈ mix, 0 ≤ r.1 ∧ r.1 < 100 := fun r hr => d1 r (m3 r hr)
    have o1 := orderR_due mix md
    have o2 := (orderR_due (dueF mix 0 100) (dueF_bd mix)).trans (due_due mix)
    have ln : (dueF mix 0 100).length < 1000 := by
      rw [← o1, orderR_len]
      omega
    have t1 := fun s => r_in_order 0 s mix (by omega)
    have t2 := fun s => r_in_order 0 s (dueF mix 0 100) ln
    have t3 := fun s => r_is_log 0 s mix (by omega)
    have t4 : sortedB mix = decide (fallsB mix 1 (mix.length - 1) = []) := by
      have := falls_sorted mix
      cases h : sortedB mix <;> simp [this, h]
    simp [execs, exec, eval, evals, g_law_order, g_law_log, t1, t2, t3, o1, o2, l_eqRows, l_eqNil, l_eqB, t4]
  obtain ⟨_, key⟩ := key
  exact run_pure rfl rfl key rfl
end Z

namespace Z
open PySem PySem.Spec PyProof.Rows
set_option maxRecDepth 100000

def top (i : Nat) : Stmt := PySem.Challenge.pw_rowasks_k01_rows.main.body.getD i (.Pass ⟨0, 0, 0, 0⟩)
def gs : List (String × PV) := [("SMALL", (.str ['a', 'b', 'c', 'd', 'e', 'f', 'g', 'h', 'i', 'j', 'k', 'l', 'm', 'n', 'o', 'p', 'q', 'r', 's', 't', 'u', 'v', 'w', 'x', 'y', 'z'])), ("FARTHEST", (.int 99)), ("GREATEST", (.int 99))]
abbrev s_is_whole : Stmt := top 4
theorem sc_is_whole : L2.FnScope ["thing", "low", "high"] ["thing", "low", "high"] (L2.defScope s_is_whole) := ⟨rfl, rfl, rfl, by decide +kernel, rfl, by decide +kernel, by decide +kernel⟩
theorem ck_is_whole : chkSs (ccOf ["thing", "low", "high"] s_is_whole [] gs) m_is_whole.body (L2.defBody s_is_whole) = true := by decide +kernel
abbrev s_is_key : Stmt := top 5
theorem sc_is_key : L2.FnScope ["thing", "sign"] ["thing"] (L2.defScope s_is_key) := ⟨rfl, rfl, rfl, by decide +kernel, rfl, by decide +kernel, by decide +kernel⟩
theorem ck_is_key : chkSs (ccOf ["thing", "sign"] s_is_key ["is_whole"] gs) m_is_key.body (L2.defBody s_is_key) = true := by decide +kernel
abbrev s_is_row : Stmt := top 6
theorem sc_is_row : L2.FnScope ["thing"] ["thing"] (L2.defScope s_is_row) := ⟨rfl, rfl, rfl, by decide +kernel, rfl, by decide +kernel, by decide +kernel⟩
theorem ck_is_row : chkSs (ccOf ["thing"] s_is_row ["is_whole", "is_key"] gs) m_is_row.body (L2.defBody s_is_row) = true := by decide +kernel
abbrev s_is_log : Stmt := top 7
theorem sc_is_log : L2.FnScope ["rows", "ahead", "row"] ["rows"] (L2.defScope s_is_log) := ⟨rfl, rfl, rfl, by decide +kernel, rfl, by decide +kernel, by decide +kernel⟩
theorem ck_is_log : chkSs (ccOf ["rows", "ahead", "row"] s_is_log ["is_whole", "is_key", "is_row"] gs) m_is_log.body (L2.defBody s_is_log) = true := by decide +kernel
abbrev s_in_order : Stmt := top 8
theorem sc_in_order : L2.FnScope ["rows", "made", "row", "at"] ["rows"] (L2.defScope s_in_order) := ⟨rfl, rfl, rfl, by decide +kernel, rfl, by decide +kernel, by decide +kernel⟩
theorem ck_in_order : chkSs (ccOf ["rows", "made", "row", "at"] s_in_order ["is_whole", "is_key", "is_row", "is_log"] gs) m_in_order.body (L2.defBody s_in_order) = true := by decide +kernel
abbrev s__law_cell : Stmt := top 10
theorem sc__law_cell : L2.FnScope ["_law_script", "_law_k"] ["_law_script", "_law_k"] (L2.defScope s__law_cell) := ⟨rfl, rfl, rfl, by decide +kernel, rfl, by decide +kernel, by decide +kernel⟩
theorem ck__law_cell : chkSs (ccOf ["_law_script", "_law_k"] s__law_cell ["is_whole", "is_key", "is_row", "is_log", "in_order"] gs) m__law_cell.body (L2.defBody s__law_cell) = true := by decide +kernel
abbrev s__law_pick : Stmt := top 11
theorem sc__law_pick : L2.FnScope ["_law_script", "_law_k", "_law_many", "_law_drawn"] ["_law_script", "_law_k", "_law_many"] (L2.defScope s__law_pick) := ⟨rfl, rfl, rfl, by decide +kernel, rfl, by decide +kernel, by decide +kernel⟩
theorem ck__law_pick : chkSs (ccOf ["_law_script", "_law_k", "_law_many", "_law_drawn"] s__law_pick ["is_whole", "is_key", "is_row", "is_log", "in_order", "_law_cell"] gs) m__law_pick.body (L2.defBody s__law_pick) = true := by decide +kernel
abbrev s__law_key : Stmt := top 12
theorem sc__law_key : L2.FnScope ["_law_script", "_law_at", "_law_letters", "_law_way", "_law_key_here"] ["_law_script", "_law_at"] (L2.defScope s__law_key) := ⟨rfl, rfl, rfl, by decide +kernel, rfl, by decide +kernel, by decide +kernel⟩
theorem ck__law_key : chkSs (ccOf ["_law_script", "_law_at", "_law_letters", "_law_way", "_law_key_here"] s__law_key ["is_whole", "is_key", "is_row", "is_log", "in_order", "_law_cell", "_law_pick"] gs) m__law_key.body (L2.defBody s__law_key) = true := by decide +kernel
abbrev s__law_number : Stmt := top 13
theorem sc__law_number : L2.FnScope ["_law_script", "_law_at", "_law_most"] ["_law_script", "_law_at", "_law_most"] (L2.defScope s__law_number) := ⟨rfl, rfl, rfl, by decide +kernel, rfl, by decide +kernel, by decide +kernel⟩
theorem ck__law_number : chkSs (ccOf ["_law_script", "_law_at", "_law_most"] s__law_number ["is_whole", "is_key", "is_row", "is_log", "in_order", "_law_cell", "_law_pick", "_law_key"] gs) m__law_number.body (L2.defBody s__law_number) = true := by decide +kernel
abbrev s__law_rows : Stmt := top 14
theorem sc__law_rows : L2.FnScope ["_law_script", "_law_at", "_law_most", "_law_made", "_law_moment", "_law_far", "_law_k", "_law_base"] ["_law_script", "_law_at", "_law_most"] (L2.defScope s__law_rows) := ⟨rfl, rfl, rfl, by decide +kernel, rfl, by decide +kernel, by decide +kernel⟩
theorem ck__law_rows : chkSs (ccOf ["_law_script", "_law_at", "_law_most", "_law_made", "_law_moment", "_law_far", "_law_k", "_law_base"] s__law_rows ["is_whole", "is_key", "is_row", "is_log", "in_order", "_law_cell", "_law_pick", "_law_key", "_law_number"] gs) m__law_rows.body (L2.defBody s__law_rows) = true := by decide +kernel
abbrev s_law : Stmt := top 15
theorem sc_law : L2.FnScope ["_law_script", "_law_letters", "_law_key_here", "_law_moment", "_law_number_here", "_law_bad", "_law_rows_here", "_law_mixed", "_law_k", "_law_due", "_law_falls", "_law_row"] ["_law_script"] (L2.defScope s_law) := ⟨rfl, rfl, rfl, by decide +kernel, rfl, by decide +kernel, by decide +kernel⟩
theorem ck_law : chkSs (ccOf ["_law_script", "_law_letters", "_law_key_here", "_law_moment", "_law_number_here", "_law_bad", "_law_rows_here", "_law_mixed", "_law_k", "_law_due", "_law_falls", "_law_row"] s_law ["is_whole", "is_key", "is_row", "is_log", "in_order", "_law_cell", "_law_pick", "_law_key", "_law_number", "_law_rows"] gs) m_law.body (L2.defBody s_law) = true := by decide +kernel
/-! ### all that the top has written -/
theorem all_mk {P : Program} {w : World} {K : PySem.W.Frag} {h : Heap} {mg : Str → Option Value} {fa f0 f1 f2 f3 f4 f5 f6 f7 f8 f9 f10 : Addr} (X : K.In h) (G : h.Ns mainGlobals mg) (hfa : mg "law" = some (.ref fa))
    {od0 an0 od1 an1 od2 an2 od3 an3 od4 an4 od5 an5 od6 an6 od7 an7 od8 an8 od9 an9 od10 an10 : Option Addr} {sl0 sl1 sl2 sl3 sl4 sl5 sl6 sl7 sl8 sl9 sl10 : Array (Option Value)} {oc0 kV0 dc0 pm0 cd0 ct0 oc1 kV1 dc1 pm1 cd1 ct1 oc2 kV2 dc2 pm2 cd2 ct2 oc3 kV3 dc3 pm3 cd3 ct3 oc4 kV4 dc4 pm4 cd4 ct4 oc5 kV5 dc5 pm5 cd5 ct5 oc6 kV6 dc6 pm6 cd6 ct6 oc7 kV7 dc7 pm7 cd7 ct7 oc8 kV8 dc8 pm8 cd8 ct8 oc9 kV9 dc9 pm9 cd9 ct9 oc10 kV10 dc10 pm10 cd10 ct10 : Value} {t0 t1 t2 : Tok} 
    (a0 : PySem.W.nsIn K mainGlobals "is_whole" = some (some (.ref f0))) (l0 : K.lookup f0 = some ⟨oc0, od0, .func (PySem.W.fnOf "is_whole" "is_whole" (L2.defArgs s_is_whole) (L2.defBody s_is_whole) (L2.defScope s_is_whole) .none kV0 dc0 pm0 an0 cd0 ct0), sl0⟩) (c0 : PySem.W.codeIn K cd0 "is_whole" = true) (k0 : PySem.W.keepIn K (.ref f0) = true)
    (a1 : PySem.W.nsIn K mainGlobals "is_key" = some (some (.ref f1))) (l1 : K.lookup f1 = some ⟨oc1, od1, .func (PySem.W.fnOf "is_key" "is_key" (L2.defArgs s_is_key) (L2.defBody s_is_key) (L2.defScope s_is_key) .none kV1 dc1 pm1 an1 cd1 ct1), sl1⟩) (c1 : PySem.W.codeIn K cd1 "is_key" = true) (k1 : PySem.W.keepIn K (.ref f1) = true)
    (a2 : PySem.W.nsIn K mainGlobals "is_row" = some (some (.ref f2))) (l2 : K.lookup f2 = some ⟨oc2, od2, .func (PySem.W.fnOf "is_row" "is_row" (L2.defArgs s_is_row) (L2.defBody s_is_row) (L2.defScope s_is_row) .none kV2 dc2 pm2 an2 cd2 ct2), sl2⟩) (c2 : PySem.W.codeIn K cd2 "is_row" = true) (k2 : PySem.W.keepIn K (.ref f2) = true)
    (a3 : PySem.W.nsIn K mainGlobals "is_log" = some (some (.ref f3))) (l3 : K.lookup f3 = some ⟨oc3, od3, .func (PySem.W.fnOf "is_log" "is_log" (L2.defArgs s_is_log) (L2.defBody s_is_log) (L2.defScope s_is_log) .none kV3 dc3 pm3 an3 cd3 ct3), sl3⟩) (c3 : PySem.W.codeIn K cd3 "is_log" = true) (k3 : PySem.W.keepIn K (.ref f3) = true)
    (a4 : PySem.W.nsIn K mainGlobals "in_order" = some (some (.ref f4))) (l4 : K.lookup f4 = some ⟨oc4, od4, .func (PySem.W.fnOf "in_order" "in_order" (L2.defArgs s_in_order) (L2.defBody s_in_order) (L2.defScope s_in_order) .none kV4 dc4 pm4 an4 cd4 ct4), sl4⟩) (c4 : PySem.W.codeIn K cd4 "in_order" = true) (k4 : PySem.W.keepIn K (.ref f4) = true)
    (a5 : PySem.W.nsIn K mainGlobals "_law_cell" = some (some (.ref f5))) (l5 : K.lookup f5 = some ⟨oc5, od5, .func (PySem.W.fnOf "_law_cell" "_law_cell" (L2.defArgs s__law_cell) (L2.defBody s__law_cell) (L2.defScope s__law_cell) .none kV5 dc5 pm5 an5 cd5 ct5), sl5⟩) (c5 : PySem.W.codeIn K cd5 "_law_cell" = true) (k5 : PySem.W.keepIn K (.ref f5) = true)
    (a6 : PySem.W.nsIn K mainGlobals "_law_pick" = some (some (.ref f6))) (l6 : K.lookup f6 = some ⟨oc6, od6, .func (PySem.W.fnOf "_law_pick" "_law_pick" (L2.defArgs s__law_pick) (L2.defBody s__law_pick) (L2.defScope s__law_pick) .none kV6 dc6 pm6 an6 cd6 ct6), sl6⟩) (c6 : PySem.W.codeIn K cd6 "_law_pick" = true) (k6 : PySem.W.keepIn K (.ref f6) = true)
    (a7 : PySem.W.nsIn K mainGlobals "_law_key" = some (some (.ref f7))) (l7 : K.lookup f7 = some ⟨oc7, od7, .func (PySem.W.fnOf "_law_key" "_law_key" (L2.defArgs s__law_key) (L2.defBody s__law_key) (L2.defScope s__law_key) .none kV7 dc7 pm7 an7 cd7 ct7), sl7⟩) (c7 : PySem.W.codeIn K cd7 "_law_key" = true) (k7 : PySem.W.keepIn K (.ref f7) = true)
    (a8 : PySem.W.nsIn K mainGlobals "_law_number" = some (some (.ref f8))) (l8 : K.lookup f8 = some ⟨oc8, od8, .func (PySem.W.fnOf "_law_number" "_law_number" (L2.defArgs s__law_number) (L2.defBody s__law_number) (L2.defScope s__law_number) .none kV8 dc8 pm8 an8 cd8 ct8), sl8⟩) (c8 : PySem.W.codeIn K cd8 "_law_number" = true) (k8 : PySem.W.keepIn K (.ref f8) = true)
    (a9 : PySem.W.nsIn K mainGlobals "_law_rows" = some (some (.ref f9))) (l9 : K.lookup f9 = some ⟨oc9, od9, .func (PySem.W.fnOf "_law_rows" "_law_rows" (L2.defArgs s__law_rows) (L2.defBody s__law_rows) (L2.defScope s__law_rows) .none kV9 dc9 pm9 an9 cd9 ct9), sl9⟩) (c9 : PySem.W.codeIn K cd9 "_law_rows" = true) (k9 : PySem.W.keepIn K (.ref f9) = true)
    (a10 : PySem.W.nsIn K mainGlobals "law" = some (some (.ref f10))) (l10 : K.lookup f10 = some ⟨oc10, od10, .func (PySem.W.fnOf "law" "law" (L2.defArgs s_law) (L2.defBody s_law) (L2.defScope s_law) .none kV10 dc10 pm10 an10 cd10 ct10), sl10⟩) (c10 : PySem.W.codeIn K cd10 "law" = true) (k10 : PySem.W.keepIn K (.ref f10) = true)
    (g0 : PySem.W.nsIn K mainGlobals "SMALL" = some (some (.str "abcdefghijklmnopqrstuvwxyz" t0)))
    (g1 : PySem.W.nsIn K mainGlobals "FARTHEST" = some (some (.int 99 t1)))
    (g2 : PySem.W.nsIn K mainGlobals "GREATEST" = some (some (.int 99 t2)))
    (b0 : PySem.W.nsIn K mainGlobals "len" = some none)
    (b1 : PySem.W.nsIn K mainGlobals "list" = some none)
    (b2 : PySem.W.nsIn K mainGlobals "tuple" = some none)
    (b3 : PySem.W.nsIn K mainGlobals "sum" = some none)
    (b4 : PySem.W.nsIn K mainGlobals "all" = some none)
    (b5 : PySem.W.nsIn K mainGlobals "max" = some none)
    (b6 : PySem.W.nsIn K mainGlobals "min" = some none)
    (b7 : PySem.W.nsIn K mainGlobals "abs" = some none)
    (b8 : PySem.W.nsIn K mainGlobals "int" = some none)
    (b9 : PySem.W.nsIn K mainGlobals "str" = some none)
    (b10 : PySem.W.nsIn K mainGlobals "dict" = some none)
    (b11 : PySem.W.nsIn K mainGlobals "sorted" = some none)
    (b12 : PySem.W.nsIn K mainGlobals "isinstance" = some none)
    (b13 : PySem.W.nsIn K mainGlobals "range" = some none)
    (b14 : PySem.W.nsIn K mainGlobals "enumerate" = some none)
    (b15 : PySem.W.nsIn K mainGlobals "zip" = some none)
    (b16 : PySem.W.nsIn K mainGlobals "bool" = some none)
    (b17 : PySem.W.nsIn K mainGlobals "set" = some none)
    (b18 : PySem.W.nsIn K mainGlobals "ValueError" = some none) :
    ∃ fd : FuncData, (∀ (s : Shared) (v : Value), BindsTo s fd ⟨[v], []⟩ [("_law_script", v)]) ∧ ∀ base : Heap, K.In base → base.Ns mainGlobals mg → L2.FnOk P w K mg base (L2.CX P w) 11 fa fd ["_law_script"] (spOf K (fun _ => 0) (runFn (gamOf tab10) m_law)) := by
  have e := hfa.symm.trans (PySem.W.mg_of X G a10)
  cases e
  have bi : ∀ n ∈ biNames, mg (Str.ofString n) = none := by
    intro n hn
    simp only [biNames, List.mem_cons, List.not_mem_nil, or_false] at hn
    rcases hn with rfl | rfl | rfl | rfl | rfl | rfl | rfl | rfl | rfl | rfl | rfl | rfl | rfl | rfl | rfl | rfl | rfl | rfl | rfl
    · exact PySem.W.mg_none_of X G b0
    · exact PySem.W.mg_none_of X G b1
    · exact PySem.W.mg_none_of X G b2
    · exact PySem.W.mg_none_of X G b3
    · exact PySem.W.mg_none_of X G b4
    · exact PySem.W.mg_none_of X G b5
    · exact PySem.W.mg_none_of X G b6
    · exact PySem.W.mg_none_of X G b7
    · exact PySem.W.mg_none_of X G b8
    · exact PySem.W.mg_none_of X G b9
    · exact PySem.W.mg_none_of X G b10
    · exact PySem.W.mg_none_of X G b11
    · exact PySem.W.mg_none_of X G b12
    · exact PySem.W.mg_none_of X G b13
    · exact PySem.W.mg_none_of X G b14
    · exact PySem.W.mg_none_of X G b15
    · exact PySem.W.mg_none_of X G b16
    · exact PySem.W.mg_none_of X G b17
    · exact PySem.W.mg_none_of X G b18
  have gl : GlbOk mg gs := (GlbOk.str (PySem.W.mg_of X G g0) (by decide +kernel) (GlbOk.int (PySem.W.mg_of X G g1) (GlbOk.int (PySem.W.mg_of X G g2) GlbOk.nil)))
  have F0 := L2.fun_mk (st := s_is_whole) l0 c0 k0
  have F1 := L2.fun_mk (st := s_is_key) l1 c1 k1
  have F2 := L2.fun_mk (st := s_is_row) l2 c2 k2
  have F3 := L2.fun_mk (st := s_is_log) l3 c3 k3
  have F4 := L2.fun_mk (st := s_in_order) l4 c4 k4
  have F5 := L2.fun_mk (st := s__law_cell) l5 c5 k5
  have F6 := L2.fun_mk (st := s__law_pick) l6 c6 k6
  have F7 := L2.fun_mk (st := s__law_key) l7 c7 k7
  have F8 := L2.fun_mk (st := s__law_number) l8 c8 k8
  have F9 := L2.fun_mk (st := s__law_rows) l9 c9 k9
  have F10 := L2.fun_mk (st := s_law) l10 c10 k10
  have y0 := F0.binds (ps := ["thing", "low", "high"]) fun _ _ _ _ _ _ us hl => match us, hl with | [_, _, _], _ => rfl
  have y1 := F1.binds (ps := ["thing"]) fun _ _ _ _ _ _ us hl => match us, hl with | [_], _ => rfl
  have y2 := F2.binds (ps := ["thing"]) fun _ _ _ _ _ _ us hl => match us, hl with | [_], _ => rfl
  have y3 := F3.binds (ps := ["rows"]) fun _ _ _ _ _ _ us hl => match us, hl with | [_], _ => rfl
  have y4 := F4.binds (ps := ["rows"]) fun _ _ _ _ _ _ us hl => match us, hl with | [_], _ => rfl
  have y5 := F5.binds (ps := ["_law_script", "_law_k"]) fun _ _ _ _ _ _ us hl => match us, hl with | [_, _], _ => rfl
  have y6 := F6.binds (ps := ["_law_script", "_law_k", "_law_many"]) fun _ _ _ _ _ _ us hl => match us, hl with | [_, _, _], _ => rfl
  have y7 := F7.binds (ps := ["_law_script", "_law_at"]) fun _ _ _ _ _ _ us hl => match us, hl with | [_, _], _ => rfl
  have y8 := F8.binds (ps := ["_law_script", "_law_at", "_law_most"]) fun _ _ _ _ _ _ us hl => match us, hl with | [_, _, _], _ => rfl
  have y9 := F9.binds (ps := ["_law_script", "_law_at", "_law_most"]) fun _ _ _ _ _ _ us hl => match us, hl with | [_, _, _], _ => rfl
  refine ⟨PySem.W.fnOf "law" "law" (L2.defArgs s_law) (L2.defBody s_law) (L2.defScope s_law) .none kV10 dc10 pm10 an10 cd10 ct10, fun s v => .of_eq rfl, fun base _ _ => ?_⟩
  have K0 : Known P w K mg base (fun _ => 0) 0 tab0 := Known.nil
  have K1 : Known P w K mg base (fun _ => 0) 1 tab1 := K0.add m_is_whole (nms := []) rfl bi gl F0 sc_is_whole ck_is_whole rfl rfl (PySem.W.mg_of X G a0) y0
  have K2 : Known P w K mg base (fun _ => 0) 2 tab2 := K1.add m_is_key (nms := ["is_whole"]) rfl bi gl F1 sc_is_key ck_is_key rfl rfl (PySem.W.mg_of X G a1) y1
  have K3 : Known P w K mg base (fun _ => 0) 3 tab3 := K2.add m_is_row (nms := ["is_whole", "is_key"]) rfl bi gl F2 sc_is_row ck_is_row rfl rfl (PySem.W.mg_of X G a2) y2
  have K4 : Known P w K mg base (fun _ => 0) 4 tab4 := K3.add m_is_log (nms := ["is_whole", "is_key", "is_row"]) rfl bi gl F3 sc_is_log ck_is_log rfl rfl (PySem.W.mg_of X G a3) y3
  have K5 : Known P w K mg base (fun _ => 0) 5 tab5 := K4.add m_in_order (nms := ["is_whole", "is_key", "is_row", "is_log"]) rfl bi gl F4 sc_in_order ck_in_order rfl rfl (PySem.W.mg_of X G a4) y4
  have K6 : Known P w K mg base (fun _ => 0) 6 tab6 := K5.add m__law_cell (nms := ["is_whole", "is_key", "is_row", "is_log", "in_order"]) rfl bi gl F5 sc__law_cell ck__law_cell rfl rfl (PySem.W.mg_of X G a5) y5
  have K7 : Known P w K mg base (fun _ => 0) 7 tab7 := K6.add m__law_pick (nms := ["is_whole", "is_key", "is_row", "is_log", "in_order", "_law_cell"]) rfl bi gl F6 sc__law_pick ck__law_pick rfl rfl (PySem.W.mg_of X G a6) y6
  have K8 : Known P w K mg base (fun _ => 0) 8 tab8 := K7.add m__law_key (nms := ["is_whole", "is_key", "is_row", "is_log", "in_order", "_law_cell", "_law_pick"]) rfl bi gl F7 sc__law_key ck__law_key rfl rfl (PySem.W.mg_of X G a7) y7
  have K9 : Known P w K mg base (fun _ => 0) 9 tab9 := K8.add m__law_number (nms := ["is_whole", "is_key", "is_row", "is_log", "in_order", "_law_cell", "_law_pick", "_law_key"]) rfl bi gl F8 sc__law_number ck__law_number rfl rfl (PySem.W.mg_of X G a8) y8
  have K10 : Known P w K mg base (fun _ => 0) 10 tab10 := K9.add m__law_rows (nms := ["is_whole", "is_key", "is_row", "is_log", "in_order", "_law_cell", "_law_pick", "_law_key", "_law_number"]) rfl bi gl F9 sc__law_rows ck__law_rows rfl rfl (PySem.W.mg_of X G a9) y9
  exact fn_known m_law (nms := ["is_whole", "is_key", "is_row", "is_log", "in_order", "_law_cell", "_law_pick", "_law_key", "_law_number", "_law_rows"]) K10 rfl bi gl F10 sc_law ck_law rfl rfl

end Z
open PySem PySem.W PyProof.Rows
set_option maxRecDepth 100000 in
set_option maxHeartbeats 0 in
theorem PySem.Challenge.cw_rowasks_k01_rows_holds : PySem.Challenge.rw_rowasks_k01_rows.Holds := by
  w_on; o_law; k_head; (case hw => w_witness2)
  k_fill
  refine Z.law_walk (l := PySem.Challenge.rw_rowasks_k01_rows) (k := 11) (x := "_law_script") (fun _ _ => 0) (Z.runFn (Z.gamOf Z.tab10) Z.m_law) rfl rfl ⟨rfl, by decide, by decide⟩ (fun w h Y => PySem.W.kIn_of Y) ?F Z.law_true
  case F =>
    intro w mg fa h KX G hmg
    refine' Z.all_mk KX G hmg ?ya0 ?yl0 ?yc0 ?yk0 ?ya1 ?yl1 ?yc1 ?yk1 ?ya2 ?yl2 ?yc2 ?yk2 ?ya3 ?yl3 ?yc3 ?yk3 ?ya4 ?yl4 ?yc4 ?yk4 ?ya5 ?yl5 ?yc5 ?yk5 ?ya6 ?yl6 ?yc6 ?yk6 ?ya7 ?yl7 ?yc7 ?yk7 ?ya8 ?yl8 ?yc8 ?yk8 ?ya9 ?yl9 ?yc9 ?yk9 ?ya10 ?yl10 ?yc10 ?yk10 ?yg0 ?yg1 ?yg2 ?yb0 ?yb1 ?yb2 ?yb3 ?yb4 ?yb5 ?yb6 ?yb7 ?yb8 ?yb9 ?yb10 ?yb11 ?yb12 ?yb13 ?yb14 ?yb15 ?yb16 ?yb17 ?yb18
    (case ya0 => k_is); (case yl0 => k_is); (case yc0 => k_is); (case yk0 => k_is); (case ya1 => k_is); (case yl1 => k_is); (case yc1 => k_is); (case yk1 => k_is); (case ya2 => k_is); (case yl2 => k_is); (case yc2 => k_is); (case yk2 => k_is); (case ya3 => k_is); (case yl3 => k_is); (case yc3 => k_is); (case yk3 => k_is); (case ya4 => k_is); (case yl4 => k_is); (case yc4 => k_is); (case yk4 => k_is); (case ya5 => k_is); (case yl5 => k_is); (case yc5 => k_is); (case yk5 => k_is); (case ya6 => k_is); (case yl6 => k_is); (case yc6 => k_is); (case yk6 => k_is); (case ya7 => k_is); (case yl7 => k_is); (case yc7 => k_is); (case yk7 => k_is); (case ya8 => k_is); (case yl8 => k_is); (case yc8 => k_is); (case yk8 => k_is); (case ya9 => k_is); (case yl9 => k_is); (case yc9 => k_is); (case yk9 => k_is); (case ya10 => k_is); (case yl10 => k_is); (case yc10 => k_is); (case yk10 => k_is); (case yg0 => k_is); (case yg1 => k_is); (case yg2 => k_is); (case yb0 => k_is); (case yb1 => k_is); (case yb2 => k_is); (case yb3 => k_is); (case yb4 => k_is); (case yb5 => k_is); (case yb6 => k_is); (case yb7 => k_is); (case yb8 => k_is); (case yb9 => k_is); (case yb10 => k_is); (case yb11 => k_is); (case yb12 => k_is); (case yb13 => k_is); (case yb14 => k_is); (case yb15 => k_is); (case yb16 => k_is); (case yb17 => k_is); (case yb18 => k_is)
