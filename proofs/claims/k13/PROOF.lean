import PyProof.Rows.All
import Wide.All
import OpenK.AllK
import Wide.FinOn
import HandS.ForMost
import HandS.ForExc
import HandS.ExcValue
import HandS.TupAny
import HandS.TupLe
import HandS.Deep
import HandS.IsInst
import HandS.TupMul
import HandS.Text
import HandS.WordsDict
import HandS.Conv
import HandS.More
import KE.SortData
import HandS.Comp
import HandS.Iter
import HandS.ExcOwn
import HandS.TryOnly
import HandS.Set
import HandS.SetFor
import HandS.SetKeys
import HandS.ListItems
import HandS.Style
import HandS.Small
import PySem.Challenge.RW_rowasks_k13_whole_logs_parted
set_option Elab.async false
set_option linter.all false
/-! A small language of trees and a store of changing things: its values, its texts, what they come to.
    Values are trees (lists are values); what is changed in place stands in the store, by its number. -/
namespace Z
open PySem (Str)

abbrev Tx := List Char
/-- a text of the model -/
def toS (l : Tx) : Str := ⟨(l.map Char.toNat).toArray⟩

inductive KA where
  | i (n : Int) | s (t : Tx)
  deriving DecidableEq
inductive DK where
  | a (k : KA) | t (ks : List KA)
  deriving DecidableEq

inductive PV where
  | none | bool (b : Bool) | int (i : Int) | str (s : Tx)
  | tup (xs : List PV) | lst (xs : List PV)
  | dct (t : Bool) (kvs : List (DK × PV)) | box (i : Nat) | exc (c : Nat)
  | kls (ns : List Int)

/-- what stands in the store; dct t: t tells whether keys are tuples -/
inductive PO where
  | dead | lst (xs : List PV) | dct (t : Bool) (kvs : List (DK × PV)) | inst (c : Nat) (fs : List (String × PV))

abbrev Sto := List PO
abbrev Env := List (Option PV)

inductive R (α : Type) where
  | ok (a : α) (st : Sto) | exc (c : Nat) (st : Sto) | bad

def R.bind {α β : Type} (r : R α) (f : α → Sto → R β) : R β := match r with
  | .ok a st => f a st
  | .exc c st => .exc c st
  | .bad => .bad
@[simp] theorem R.bind_ok {α β : Type} (a : α) (st : Sto) (f : α → Sto → R β) : (R.ok a st).bind f = f a st := rfl
@[simp] theorem R.bind_exc {α β : Type} (c : Nat) (st : Sto) (f : α → Sto → R β) : (R.exc c st : R α).bind f = .exc c st := rfl
@[simp] theorem R.bind_bad {α β : Type} (f : α → Sto → R β) : (R.bad : R α).bind f = .bad := rfl

/-- nothing may be raised here -/
def R.calm {α : Type} (r : R α) : R α := match r with
  | .exc _ _ => .bad
  | r => r
@[simp] theorem R.calm_ok {α : Type} (a : α) (st : Sto) : (R.ok a st).calm = .ok a st := rfl
@[simp] theorem R.calm_bad {α : Type} : (R.bad : R α).calm = .bad := rfl
@[simp] theorem R.calm_exc {α : Type} (c : Nat) (st : Sto) : (R.exc c st : R α).calm = .bad := rfl

def ofOpt {α : Type} (o : Option α) (st : Sto) : R α := match o with
  | some a => .ok a st
  | none => .bad
@[simp] theorem ofOpt_some {α : Type} (a : α) (st : Sto) : ofOpt (some a) st = .ok a st := rfl
@[simp] theorem ofOpt_none {α : Type} (st : Sto) : ofOpt (none : Option α) st = .bad := rfl

inductive BOp | add | sub | mul | mod | fdiv | pow
  deriving DecidableEq
inductive COp | eq | ne | lt | le | gt | ge | isIn | notIn | is | isNot
  deriving DecidableEq
inductive Ty | int | bool | str | tuple | list | cls (c : Nat) | valueError
  deriving DecidableEq
inductive Bi | len | listOf | tupleOf | sum | all | max1 | min1 | max2 | min2 | abs | int | str | dictOf | sorted | sortedSet | lenSet | sortedItems | sortedBy
  deriving DecidableEq
inductive Bm | append | extend | insert | pop | reverse | get | get2 | items | join | split | partition | upper | count | index
  deriving DecidableEq

inductive Tg where
  | name (i : Nat) | tup (l : List Tg)

mutual
inductive ME where
  | const (d : PV)
  | var (i : Nat)
  | glob (n : String) (d : PV)
  | bin (op : BOp) (bx : Bool) (a b : ME)
  | neg (a : ME) | nt (a : ME) | and (a b : ME) | or (a b : ME)
  | cmp (op : COp) (a b : ME)
  | chain (op op' : COp) (a b c : ME)
  | ite (c a b : ME)
  | tup (es : MEs) | lst (bx : Bool) (es : MEs) | dict0 (t : Bool)
  | call (f : Nat) (es : MEs) | make (c : Nat) (es : MEs) | meth (o : ME) (m : String) (es : MEs)
  | attr (o : ME) (f : String)
  | bi (b : Bi) (bx : Bool) (es : MEs)
  | bm (m : Bm) (o : ME) (es : MEs)
  | isinst (a : ME) (t : Ty)
  | idx (a i : ME)
  | slice (bx : Bool) (a : ME) (lo hi : Option ME)
  | comp (bx : Bool) (tg : Tg) (vs : List Nat) (it : MI) (cond : Option ME) (elt : ME)
inductive MEs where
  | nil | cons (e : ME) (r : MEs)
inductive MI where
  | seq (e : ME) | range1 (a : ME) | range2 (a b : ME) | enum (e : ME) | zip (a b : ME)
end

mutual
inductive MS where
  | asg (tg : Tg) (e : ME)
  | asgN (is : List Nat) (es : MEs)
  | setItem (o i v : ME) | setAttr (o : ME) (f : String) (v : ME)
  | expr (e : ME)
  | ite (c : ME) (a b : MSs)
  | whl (fuel : Nat) (c : ME) (b : MSs)
  | for_ (tg : Tg) (it : MI) (b : MSs)
  | ret (e : ME) | retN
  | raise (c : Nat)
  | tryAs (b : MSs) (c : Nat) (i : Nat) (h : MSs)
  | tryOnly (b : MSs) (c : Nat) (h : MSs)
  | pass
inductive MSs where
  | nil | cons (s : MS) (r : MSs) | frz (i : Nat) (r : MSs)
end

/-! ### values -/
mutual
def eqv : PV → PV → Bool
  | .none, .none => true
  | .bool a, .bool b => a == b
  | .bool a, .int j => (if a then 1 else 0) == j
  | .int i, .bool b => i == (if b then 1 else 0)
  | .int i, .int j => i == j
  | .str x, .str y => x == y
  | .lst xs, .lst ys => eqvL xs ys
  | .tup xs, .tup ys => eqvL xs ys
  | _, _ => false
def eqvL : List PV → List PV → Bool
  | [], [] => true
  | x :: xs, y :: ys => eqv x y && eqvL xs ys
  | _, _ => false
end
mutual
def plain : Nat → PV → Bool
  | _, .none | _, .bool _ | _, .int _ | _, .str _ => true
  | n + 1, .tup xs | n + 1, .lst xs => plainL n xs
  | _, _ => false
def plainL : Nat → List PV → Bool
  | _, [] => true
  | n, x :: xs => plain n x && plainL n xs
end

def seqOf (st : Sto) : PV → Option (List PV)
  | .lst xs => some xs
  | .tup xs => some xs
  | .kls ns => some (ns.map .int)
  | .box i => match st[i]? with
    | some (.lst xs) => some xs
    | _ => none
  | _ => none
def lstOf (st : Sto) : PV → Option (List PV)
  | .lst xs => some xs
  | .box i => match st[i]? with
    | some (.lst xs) => some xs
    | _ => none
  | _ => none
/-- what a box holds, as a tree -/
def res (st : Sto) : PV → PV
  | .box i => match st[i]? with
    | some (.lst xs) => .lst xs
    | some (.dct t kvs) => .dct t kvs
    | _ => .box i
  | .kls ns => .lst (ns.map .int)
  | v => v

abbrev sizeLine : Nat := 16777216
abbrev big : Int := 18446744073709551616

/-- a list that is made: a tree, or a new thing of the store -/
def mkLst (bx : Bool) (xs : List PV) (st : Sto) : R PV := if bx then .ok (.box st.length) (st ++ [.lst xs]) else .ok (.lst xs) st

def cut {α : Type} (xs : List α) (lo hi : Option Int) : List α := (xs.drop (HT.sIx xs.length 0 lo)).take (HT.sIx xs.length xs.length hi - HT.sIx xs.length 0 lo)
abbrev atI {α : Type} (xs : List α) (i : Int) : Option α := L2.atI xs i
abbrev ixN (n : Nat) (i : Int) : Option Nat := L2.ixN n i

def fAdd (bx : Bool) (a b : PV) (st : Sto) : R PV := match a, b with
  | .int i, .int j => .ok (.int (i + j)) st
  | .str x, .str y => if x.length + y.length ≤ sizeLine then .ok (.str (x ++ y)) st else .bad
  | .tup xs, .tup ys => if xs.length + ys.length ≤ sizeLine then .ok (.tup (xs ++ ys)) st else .bad
  | a, b => match lstOf st a, lstOf st b with
    | some xs, some ys => if xs.length + ys.length ≤ sizeLine then mkLst bx (xs ++ ys) st else .bad
    | _, _ => .bad
def fSub (a b : PV) (st : Sto) : R PV := match a, b with
  | .int i, .int j => .ok (.int (i - j)) st
  | _, _ => .bad
def fMul (bx : Bool) (a b : PV) (st : Sto) : R PV := match a, b with
  | .int i, .int j => if (-big < i ∧ i < big) ∨ (-big < j ∧ j < big) then .ok (.int (i * j)) st else .bad
  | .tup xs, .int k => if 2 ≤ k ∧ k ≤ 1000 ∧ xs.length ≤ 1000 ∧ xs.isEmpty = false then .ok (.tup (List.replicate k.toNat xs).flatten) st else .bad
  | .lst xs, .int k => if 0 ≤ k ∧ k < 1000 ∧ xs.length * k.toNat ≤ sizeLine then mkLst bx (List.replicate k.toNat xs).flatten st else .bad
  | _, _ => .bad
def fMod (a b : PV) (st : Sto) : R PV := match a, b with
  | .int i, .int j => if 0 < j then .ok (.int (i % j)) st else .bad
  | _, _ => .bad
def fDiv (a b : PV) (st : Sto) : R PV := match a, b with
  | .int i, .int j => if 0 < j ∧ j < 1073741824 then .ok (.int (i / j)) st else .bad
  | _, _ => .bad
def fPow (a b : PV) (st : Sto) : R PV := match a, b with
  | .int i, .int j => if 0 ≤ j ∧ j ≤ 1000 ∧ i.natAbs < 1000 then .ok (.int (i ^ j.toNat)) st else .bad
  | _, _ => .bad
def binop (op : BOp) (bx : Bool) : PV → PV → Sto → R PV := match op with
  | .add => fAdd bx
  | .sub => fSub
  | .mul => fMul bx
  | .mod => fMod
  | .fdiv => fDiv
  | .pow => fPow

def asBool : PV → Option Bool
  | .bool b => some b
  | _ => none

/-- a in b -/
def inD (kvs : List (DK × PV)) (a : PV) : Option Bool := match a with
  | .str x => some (kvs.any fun p => decide (p.1 = .a (.s x)))
  | .int i => some (kvs.any fun p => decide (p.1 = .a (.i i)))
  | _ => none
def inV (st : Sto) (a b : PV) : Option Bool := match b with
  | .str y => match a with
    | .str [c] => some (decide (c ∈ y))
    | _ => none
  | b => match res st b with
    | .dct t kvs => if t then none else inD kvs a
    | .lst ys => if plain 60 a ∧ plainL 59 ys then some (ys.any fun y => eqv y a) else none
    | .tup ys => if plain 60 a ∧ plainL 59 ys then some (ys.any fun y => eqv y a) else none
    | _ => none
/-- a whole number below, or not above, another -/
def ltV (a b : PV) : Option Bool := match a, b with
  | .int i, .int j => some (decide (i < j))
  | _, _ => none
def leV (a b : PV) : Option Bool := match a, b with
  | .int i, .int j => some (decide (i ≤ j))
  | _, _ => none
def isV (a b : PV) : Option Bool := match a, b with
  | .none, .none => some true
  | _, .none => some false
  | .bool x, .bool y => some (decide (x = y))
  | _, _ => none
def cmpV (op : COp) (a b : PV) (st : Sto) : Option Bool := match op with
  | .eq => if plain 60 (res st a) && plain 60 (res st b) then some (eqv (res st a) (res st b)) else none
  | .ne => if plain 60 (res st a) && plain 60 (res st b) then some (!eqv (res st a) (res st b)) else none
  | .lt => ltV a b
  | .le => leV a b
  | .gt => ltV b a
  | .ge => leV b a
  | .isIn => inV st a b
  | .notIn => (inV st a b).map (!·)
  | .is => isV a b
  | .isNot => (isV a b).map (!·)

/-! ### what texts come to -/
structure Gam where
  fn : Nat → Nat → List PV → Sto → R PV
  mt : Nat → String → Option Nat
  ini : Nat → Nat
  sub : Nat → Nat → Bool

def isTy (Γ : Gam) (st : Sto) (v : PV) (t : Ty) : Option Bool := match t, v with
  | .int, .int _ => some true
  | .int, .bool _ => some true
  | .bool, .bool _ => some true
  | .str, .str _ => some true
  | .tuple, .tup _ => some true
  | .list, .lst _ => some true
  | .list, .box i => match st[i]? with
    | some (.lst _) => some true
    | _ => none
  | .cls d, .exc c => some (Γ.sub c d)
  | .valueError, .exc _ => some true
  | .cls _, _ => none
  | .valueError, _ => none
  | _, .box _ => none
  | _, .exc _ => none
  | _, .dct _ _ => none
  | _, .kls _ => none
  | _, _ => some false

def intsOf : List PV → Option (List Int)
  | [] => some []
  | .int i :: r => (intsOf r).map (i :: ·)
  | _ :: _ => none
def boolsOf : List PV → Option (List Bool)
  | [] => some []
  | .bool i :: r => (boolsOf r).map (i :: ·)
  | _ :: _ => none
def keyOf : PV → Option DK
  | .int i => some (.a (.i i))
  | .str s => some (.a (.s s))
  | .tup xs => (atoms xs).map .t
  | _ => none
where atoms : List PV → Option (List KA)
  | [] => some []
  | .int i :: r => (atoms r).map (.i i :: ·)
  | .str s :: r => (atoms r).map (.s s :: ·)
  | _ :: _ => none
def kaV : KA → PV
  | .i n => .int n
  | .s t => .str t
def dkV : DK → PV
  | .a k => kaV k
  | .t ks => .tup (ks.map kaV)
def isT : DK → Bool
  | .t _ => true
  | .a _ => false
def dget (kvs : List (DK × PV)) (k : DK) : Option PV := (kvs.find? fun p => decide (p.1 = k)).map (·.2)
def dput (kvs : List (DK × PV)) (k : DK) (v : PV) : List (DK × PV) := if (kvs.any fun p => decide (p.1 = k)) = true then kvs.map (fun p => if p.1 = k then (p.1, v) else p) else kvs ++ [(k, v)]
def dctOf (st : Sto) : PV → Option (Bool × List (DK × PV))
  | .dct t kvs => some (t, kvs)
  | .box i => match st[i]? with
    | some (.dct t kvs) => some (t, kvs)
    | _ => none
  | _ => none
def fget (fs : List (String × PV)) (f : String) : Option PV := fs.lookup f
def fput : List (String × PV) → String → PV → List (String × PV)
  | [], f, v => [(f, v)]
  | (g, w) :: r, f, v => if g = f then (g, v) :: r else (g, w) :: fput r f v

/-! sorting -/
def ltTx (a b : Tx) : Bool := decide (a.map Char.toNat < b.map Char.toNat)
mutual
def ltP : PV → PV → Bool
  | .int i, .int j => decide (i < j)
  | .str a, .str b => ltTx a b
  | .tup xs, .tup ys => ltPs xs ys
  | _, _ => false
def ltPs : List PV → List PV → Bool
  | x :: xs, y :: ys => if eqv x y then ltPs xs ys else ltP x y
  | [], _ :: _ => true
  | _, [] => false
end
mutual
def likeP : PV → PV → Bool
  | .int _, .int _ => true
  | .str _, .str _ => true
  | .tup xs, .tup ys => likePs xs ys
  | _, _ => false
def likePs : List PV → List PV → Bool
  | x :: xs, y :: ys => likeP x y && likePs xs ys
  | [], _ => true
  | _ :: _, [] => true
end
def leP (a b : PV) : Bool := !ltP b a
def tupNE : PV → Bool
  | .tup (_ :: _) => true
  | _ => false
def atomP : PV → Bool
  | .int _ | .str _ => true
  | _ => false
/-- can be sorted -/
def okSort (xs : List PV) : Bool := decide (xs.length ≤ 1000) && plainL 50 xs && (xs.all fun x => xs.all fun y => likeP x y) && (xs.all tupNE || xs.all atomP)
def sortP (xs : List PV) : List PV := xs.mergeSort leP
/-- each once -/
def onceP : List PV → List PV
  | [] => []
  | x :: xs => if (onceP xs).any (eqv x) then onceP xs else x :: onceP xs
/-- a set's items: all whole numbers, or all texts -/
def okSet (xs : List PV) : Bool := decide (xs.length ≤ 1000) && (xs.all fun x => xs.all fun y => likeP x y) && xs.all atomP
def pairsP : List (DK × PV) → List PV
  | [] => []
  | (k, v) :: r => .tup [dkV k, v] :: pairsP r
/-- the key (x[1], x[0]) -/
def keyBy : PV → Option PV
  | .tup (a :: b :: _) => some (.tup [b, a])
  | _ => none
def okBy (xs : List PV) : Bool := plainL 50 xs && (match xs.mapM keyBy with | some ks => okSort ks | none => false)
def leBy (a b : PV) : Bool := match keyBy a, keyBy b with
  | some x, some y => leP x y
  | _, _ => true
def dictP : List PV → List (DK × PV) → Option (List (DK × PV))
  | [], acc => some acc
  | .tup [k, v] :: r, acc => match keyOf k with
    | some (.a k) => dictP r (dput acc (.a k) v)
    | _ => none
  | _ :: _, _ => none

def mkDct (bx : Bool) (t : Bool) (kvs : List (DK × PV)) (st : Sto) : R PV := if bx then .ok (.box st.length) (st ++ [.dct t kvs]) else .ok (.dct t kvs) st

def maxI : Int → List Int → Int
  | m, [] => m
  | m, x :: r => maxI (if x > m then x else m) r
def minI : Int → List Int → Int
  | m, [] => m
  | m, x :: r => minI (if x < m then x else m) r

def bfn (b : Bi) (bx : Bool) (xs : List PV) (st : Sto) : R PV := match b, xs with
  | .len, [.str s] => if s.length ≤ sizeLine then .ok (.int s.length) st else .bad
  | .len, [v] => match seqOf st v with
    | some ys => .ok (.int ys.length) st
    | none => match dctOf st v with
      | some (false, kvs) => .ok (.int kvs.length) st
      | _ => .bad
  | .listOf, [v] => match seqOf st v with
    | some ys => mkLst bx ys st
    | none => match dctOf st v with
      | some kvs => mkLst bx (kvs.2.map fun p => dkV p.1) st
      | none => .bad
  | .tupleOf, [.tup ys] => .ok (.tup ys) st
  | .tupleOf, [v] => match lstOf st v with
    | some ys => .ok (.tup ys) st
    | none => .bad
  | .sum, [v] => match (lstOf st v).bind intsOf with
    | some ns => .ok (.int ns.sum) st
    | none => .bad
  | .all, [v] => match (lstOf st v).bind boolsOf with
    | some bs => .ok (.bool (bs.all id)) st
    | none => .bad
  | .max1, [v] => match (lstOf st v).bind intsOf with
    | some (n :: ns) => .ok (.int (maxI n ns)) st
    | _ => .bad
  | .min1, [v] => match (lstOf st v).bind intsOf with
    | some (n :: ns) => .ok (.int (minI n ns)) st
    | _ => .bad
  | .max2, [.int m, .int n] => .ok (.int (if n > m then n else m)) st
  | .min2, [.int m, .int n] => .ok (.int (if n < m then n else m)) st
  | .abs, [.int n] => .ok (.int (if n < 0 then -n else n)) st
  | .int, [.int n] => .ok (.int n) st
  | .int, [.bool b] => .ok (.int (if b then 1 else 0)) st
  | .sorted, [v] => match lstOf st v with
    | some xs => if okSort xs then mkLst bx (sortP xs) st else .bad
    | none => .bad
  | .sortedSet, [v] => match lstOf st v with
    | some xs => if okSet xs then mkLst bx (sortP (onceP xs)) st else .bad
    | none => .bad
  | .lenSet, [v] => match lstOf st v with
    | some xs => if okSet xs then .ok (.int (onceP xs).length) st else .bad
    | none => .bad
  | .sortedItems, [v] => match dctOf st v with
    | some (false, kvs) => if okSort (pairsP kvs) then mkLst bx (sortP (pairsP kvs)) st else .bad
    | _ => .bad
  | .sortedBy, [v] => match lstOf st v with
    | some xs => if okBy xs then mkLst bx (xs.mergeSort leBy) st else .bad
    | none => .bad
  | .dictOf, [v] => match lstOf st v with
    | some xs => match dictP xs [] with
      | some kvs => mkDct bx false kvs st
      | none => .bad
    | none => match dctOf st v with
      | some (false, kvs) => mkDct bx false kvs st
      | _ => .bad
  | _, _ => .bad

/-- a write to the store -/
def wr (lo i : Nat) (o : PO) (v : PV) (st : Sto) : R PV := if lo ≤ i then .ok v (st.set i o) else .bad

def fAppend (lo : Nat) (o : PV) (xs : List PV) (st : Sto) : R PV := match o, xs with
  | .box i, [v] => match st[i]? with
    | some (.lst ys) => if ys.length < sizeLine then wr lo i (.lst (ys ++ [v])) .none st else .bad
    | _ => .bad
  | _, _ => .bad
def fExtend (lo : Nat) (o : PV) (xs : List PV) (st : Sto) : R PV := match o, xs with
  | .box i, [v] => match st[i]? with
    | some (.lst ys) => match lstOf st v with
      | some zs => if ys.length + zs.length ≤ sizeLine then wr lo i (.lst (ys ++ zs)) .none st else .bad
      | none => .bad
    | _ => .bad
  | _, _ => .bad
def fInsert (lo : Nat) (o : PV) (xs : List PV) (st : Sto) : R PV := match o, xs with
  | .box i, [.int k, v] => match st[i]? with
    | some (.lst ys) => if 0 ≤ k ∧ k ≤ ys.length ∧ ys.length < sizeLine then wr lo i (.lst (ys.take k.toNat ++ v :: ys.drop k.toNat)) .none st else .bad
    | _ => .bad
  | _, _ => .bad
def fPop (lo : Nat) (o : PV) (xs : List PV) (st : Sto) : R PV := match o, xs with
  | .box i, [] => match st[i]? with
    | some (.lst ys) => match ys.getLast? with
      | some y => wr lo i (.lst ys.dropLast) y st
      | none => .bad
    | _ => .bad
  | _, _ => .bad
def fGet (o : PV) (xs : List PV) (st : Sto) : R PV := match xs with
  | [k] => match dctOf st o with
    | some kvs => match keyOf k with
      | some k => if isT k = kvs.1 then .ok ((dget kvs.2 k).getD .none) st else .bad
      | none => .bad
    | none => .bad
  | _ => .bad
def fGet2 (o : PV) (xs : List PV) (st : Sto) : R PV := match xs with
  | [k, d] => match dctOf st o with
    | some kvs => match keyOf k with
      | some k => if isT k = kvs.1 then .ok ((dget kvs.2 k).getD d) st else .bad
      | none => .bad
    | none => .bad
  | _ => .bad
def fUpper (o : PV) (xs : List PV) (st : Sto) : R PV := match o, xs with
  | .str s, [] => if s.all (fun c => 97 ≤ c.toNat && c.toNat ≤ 122) ∧ s.length ≤ 1000000 then .ok (.str (s.map Char.toUpper)) st else .bad
  | _, _ => .bad
def bmf (m : Bm) (lo : Nat) : PV → List PV → Sto → R PV := match m with
  | .append => fAppend lo
  | .extend => fExtend lo
  | .insert => fInsert lo
  | .pop => fPop lo
  | .get => fGet
  | .get2 => fGet2
  | .upper => fUpper
  | _ => fun _ _ _ => .bad

/-- what a method's receiver has to be -/
def bmTy (m : Bm) (st : Sto) (x : PV) : Bool := match m, x with
  | .append, .box _ | .extend, .box _ | .insert, .box _ | .pop, .box _ => (lstOf st x).isSome
  | .reverse, _ | .count, _ | .index, _ => (lstOf st x).isSome
  | .get, _ | .get2, _ | .items, _ => (dctOf st x).isSome
  | .join, .str _ | .split, .str _ | .partition, .str _ | .upper, .str _ => true
  | _, _ => false
def idxf (a i : PV) (st : Sto) : R PV := match a with
  | .str s => match i with
    | .int k => if s.length ≤ sizeLine then (match atI s k with
      | some c => .ok (.str [c]) st
      | none => .bad) else .bad
    | _ => .bad
  | a => match dctOf st a with
    | some kvs => match keyOf i with
      | some k => if isT k = kvs.1 then ofOpt (dget kvs.2 k) st else .bad
      | none => .bad
    | none => match seqOf st a with
      | some xs => match i with
        | .int k => ofOpt (atI xs k) st
        | _ => .bad
      | none => .bad
def partI : PV → Option (Option Int)
  | .int i => some (some i)
  | _ => none
def slicef (bx : Bool) (a : PV) (lo hi : Option Int) (st : Sto) : R PV := match a with
  | .str s => if s.length ≤ sizeLine then .ok (.str (cut s lo hi)) st else .bad
  | .tup xs => .ok (.tup (cut xs lo hi)) st
  | a => match lstOf st a with
    | some xs => mkLst bx (cut xs lo hi) st
    | none => .bad

inductive Src where
  | fix (xs : List PV) | live (i : Nat) | liveE (i : Nat)

def assign : Tg → PV → Env → Option Env
  | .name i, v, ρ => some (ρ.set i (some v))
  | .tup l, .tup xs, ρ => go l xs ρ
  | .tup l, .lst xs, ρ => go l xs ρ
  | _, _, _ => none
where go : List Tg → List PV → Env → Option Env
  | [], [], ρ => some ρ
  | t :: r, x :: xs, ρ => (assign t x ρ).bind fun ρ' => go r xs ρ'
  | _, _, _ => none

def wipe (ρ : Env) : List Nat → Env
  | [] => ρ
  | i :: r => (wipe ρ r).set i none

def compFix (f : PV → Sto → R (Option PV)) : List PV → Sto → R (List PV)
  | [], st => .ok [] st
  | x :: r, st => (f x st).bind fun o st1 => (compFix f r st1).bind fun ys st2 => .ok (match o with | some y => y :: ys | none => ys) st2
/-- over a list that may change -/
def compLive (i : Nat) (f : PV → Sto → R (Option PV)) : Nat → Nat → Sto → R (List PV)
  | 0, _, _ => .bad
  | n + 1, k, st => match st[i]? with
    | some (.lst xs) => match xs[k]? with
      | some x => (f x st).bind fun o st1 => (compLive i f n (k + 1) st1).bind fun ys st2 => .ok (match o with | some y => y :: ys | none => ys) st2
      | none => .ok [] st
    | _ => .bad

def pairs (k : Nat) : List PV → List PV
  | [] => []
  | x :: r => .tup [.int k, x] :: pairs (k + 1) r
def zipV : List PV → List PV → List PV
  | x :: r, y :: s => .tup [x, y] :: zipV r s
  | _, _ => []

def srcOf (v : PV) (st : Sto) : R Src := match v with
  | .lst xs => .ok (.fix xs) st
  | .tup xs => .ok (.fix xs) st
  | .str s => .ok (.fix (s.map fun c => .str [c])) st
  | .box i => match st[i]? with
    | some (.lst _) => .ok (.live i) st
    | _ => .bad
  | _ => .bad

mutual
def eval (Γ : Gam) (lo : Nat) : ME → Env → Sto → R PV
  | .const d, _, st => .ok d st
  | .var i, ρ, st => match ρ[i]? with
    | some (some d) => .ok d st
    | _ => .bad
  | .glob _ d, _, st => .ok d st
  | .bin op bx a b, ρ, st => (eval Γ lo a ρ st).bind fun x st1 => (eval Γ lo b ρ st1).bind fun y st2 => binop op bx x y st2
  | .neg a, ρ, st => (eval Γ lo a ρ st).bind fun x st1 => match x with
    | .int i => .ok (.int (-i)) st1
    | _ => .bad
  | .nt a, ρ, st => (eval Γ lo a ρ st).bind fun x st1 => match x with
    | .bool b => .ok (.bool (!b)) st1
    | _ => .bad
  | .and a b, ρ, st => (eval Γ lo a ρ st).bind fun x st1 => match x with
    | .bool true => eval Γ lo b ρ st1
    | .bool false => .ok (.bool false) st1
    | _ => .bad
  | .or a b, ρ, st => (eval Γ lo a ρ st).bind fun x st1 => match x with
    | .bool false => eval Γ lo b ρ st1
    | .bool true => .ok (.bool true) st1
    | _ => .bad
  | .cmp op a b, ρ, st => (eval Γ lo a ρ st).bind fun x st1 => (eval Γ lo b ρ st1).bind fun y st2 => ofOpt ((cmpV op x y st2).map .bool) st2
  | .chain op op' a b c, ρ, st => (eval Γ lo a ρ st).bind fun x st1 => (eval Γ lo b ρ st1).bind fun y st2 => match cmpV op x y st2 with
    | some true => (eval Γ lo c ρ st2).bind fun z st3 => ofOpt ((cmpV op' y z st3).map .bool) st3
    | some false => .ok (.bool false) st2
    | none => .bad
  | .ite c a b, ρ, st => (eval Γ lo c ρ st).bind fun x st1 => match x with
    | .bool true => eval Γ lo a ρ st1
    | .bool false => eval Γ lo b ρ st1
    | _ => .bad
  | .tup es, ρ, st => (evals Γ lo es ρ st).bind fun xs st1 => if xs.length ≤ sizeLine then .ok (.tup xs) st1 else .bad
  | .lst bx es, ρ, st => (evals Γ lo es ρ st).bind fun xs st1 => if xs.length ≤ sizeLine then mkLst bx xs st1 else .bad
  | .dict0 t, _, st => .ok (.box st.length) (st ++ [.dct t []])
  | .call f es, ρ, st => (evals Γ lo es ρ st).bind fun xs st1 => Γ.fn f lo xs st1
  | .make c es, ρ, st => (evals Γ lo es ρ st).bind fun xs st1 => (Γ.fn (Γ.ini c) lo (.box st1.length :: xs) (st1 ++ [.inst c []])).bind fun _ st2 => .ok (.box st1.length) st2
  | .meth o m es, ρ, st => (eval Γ lo o ρ st).bind fun x st1 => match x with
    | .box i => match st1[i]? with
      | some (.inst c _) => match Γ.mt c m with
        | some f => (evals Γ lo es ρ st1).bind fun xs st2 => Γ.fn f lo (.box i :: xs) st2
        | none => .bad
      | _ => .bad
    | _ => .bad
  | .attr o f, ρ, st => (eval Γ lo o ρ st).bind fun x st1 => match x with
    | .box i => match st1[i]? with
      | some (.inst _ fs) => ofOpt (fget fs f) st1
      | _ => .bad
    | _ => .bad
  | .bi b bx es, ρ, st => (evals Γ lo es ρ st).bind fun xs st1 => bfn b bx xs st1
  | .bm m o es, ρ, st => (eval Γ lo o ρ st).bind fun x st1 => if bmTy m st1 x then (evals Γ lo es ρ st1).bind fun xs st2 => bmf m lo x xs st2 else .bad
  | .isinst a t, ρ, st => (eval Γ lo a ρ st).bind fun x st1 => ofOpt ((isTy Γ st1 x t).map .bool) st1
  | .idx a i, ρ, st => (eval Γ lo a ρ st).bind fun x st1 => (eval Γ lo i ρ st1).bind fun y st2 => idxf x y st2
  | .slice bx a lo' hi, ρ, st => (eval Γ lo a ρ st).bind fun x st1 => (evalO Γ lo lo' ρ st1).bind fun l st2 => (evalO Γ lo hi ρ st2).bind fun h st3 => slicef bx x l h st3
  | .comp bx tg vs it cond elt, ρ, st => (source Γ lo it ρ st).bind fun s st1 =>
    let f : PV → Sto → R (Option PV) := fun x st2 => match assign tg x (wipe ρ vs) with
      | some ρ' => (match cond with
        | some c => (eval Γ lo c ρ' st2).calm.bind fun b st3 => match b with
          | .bool true => (eval Γ lo elt ρ' st3).calm.bind fun y st4 => .ok (some y) st4
          | .bool false => .ok none st3
          | _ => .bad
        | none => (eval Γ lo elt ρ' st2).calm.bind fun y st4 => .ok (some y) st4)
      | none => .bad
    (match s with
      | .fix xs => compFix f xs st1
      | .live i => compLive i f (match st1[i]? with | some (.lst xs) => xs.length + 1 | _ => 0) 0 st1
      | .liveE _ => .bad).bind fun ys st2 => if ys.length ≤ sizeLine then mkLst bx ys st2 else .bad
def evals (Γ : Gam) (lo : Nat) : MEs → Env → Sto → R (List PV)
  | .nil, _, st => .ok [] st
  | .cons e r, ρ, st => (eval Γ lo e ρ st).bind fun x st1 => (evals Γ lo r ρ st1).bind fun xs st2 => .ok (x :: xs) st2
def evalO (Γ : Gam) (lo : Nat) : Option ME → Env → Sto → R (Option Int)
  | none, _, st => .ok none st
  | some e, ρ, st => (eval Γ lo e ρ st).bind fun x st1 => ofOpt (partI x) st1
def source (Γ : Gam) (lo : Nat) : MI → Env → Sto → R Src
  | .seq e, ρ, st => (eval Γ lo e ρ st).bind srcOf
  | .range1 a, ρ, st => (eval Γ lo a ρ st).bind fun x st1 => match x with
    | .int n => if n < 1000000000 && -1000000000 < n then .ok (.fix ((List.range n.toNat).map fun (k : Nat) => .int k)) st1 else .bad
    | _ => .bad
  | .range2 a b, ρ, st => (eval Γ lo a ρ st).bind fun x st1 => (eval Γ lo b ρ st1).bind fun y st2 => match x, y with
    | .int m, .int n => if n < 1000000000 && -1000000000 < n && m < 1000000000 && -1000000000 < m then .ok (.fix ((List.range (n - m).toNat).map fun (k : Nat) => .int (m + k))) st2 else .bad
    | _, _ => .bad
  | .enum e, ρ, st => (eval Γ lo e ρ st).bind fun x st1 => match x with
    | .lst xs => .ok (.fix (pairs 0 xs)) st1
    | _ => .bad
  | .zip a b, ρ, st => (eval Γ lo a ρ st).bind fun x st1 => (eval Γ lo b ρ st1).bind fun y st2 => match x, y with
    | .lst xs, .lst ys => .ok (.fix (zipV xs ys)) st2
    | _, _ => .bad
end

inductive RS where
  | nx (ρ : Env) (st : Sto) | ret (v : PV) (st : Sto) | exc (c : Nat) (ρ : Env) (st : Sto) | bad

def R.then {α : Type} (r : R α) (ρ : Env) (f : α → Sto → RS) : RS := match r with
  | .ok a st => f a st
  | .exc c st => .exc c ρ st
  | .bad => .bad
@[simp] theorem R.then_ok {α : Type} (a : α) (st : Sto) (ρ : Env) (f : α → Sto → RS) : (R.ok a st).then ρ f = f a st := rfl
@[simp] theorem R.then_exc {α : Type} (c : Nat) (st : Sto) (ρ : Env) (f : α → Sto → RS) : (R.exc c st : R α).then ρ f = .exc c ρ st := rfl
@[simp] theorem R.then_bad {α : Type} (ρ : Env) (f : α → Sto → RS) : (R.bad : R α).then ρ f = .bad := rfl
def RS.next (r : RS) (f : Env → Sto → RS) : RS := match r with
  | .nx ρ st => f ρ st
  | r => r
@[simp] theorem RS.next_nx (ρ : Env) (st : Sto) (f : Env → Sto → RS) : (RS.nx ρ st).next f = f ρ st := rfl
@[simp] theorem RS.next_ret (v : PV) (st : Sto) (f : Env → Sto → RS) : (RS.ret v st).next f = .ret v st := rfl
@[simp] theorem RS.next_exc (c : Nat) (ρ : Env) (st : Sto) (f : Env → Sto → RS) : (RS.exc c ρ st).next f = .exc c ρ st := rfl
@[simp] theorem RS.next_bad (f : Env → Sto → RS) : RS.bad.next f = .bad := rfl

def forFix (body : PV → Env → Sto → RS) : List PV → Env → Sto → RS
  | [], ρ, st => .nx ρ st
  | x :: r, ρ, st => (body x ρ st).next fun ρ' st' => forFix body r ρ' st'
def forLive (i : Nat) (body : PV → Env → Sto → RS) : Nat → Nat → Env → Sto → RS
  | 0, _, _, _ => .bad
  | n + 1, k, ρ, st => match st[i]? with
    | some (.lst xs) => match xs[k]? with
      | some x => (body x ρ st).next fun ρ' st' => forLive i body n (k + 1) ρ' st'
      | none => .nx ρ st
    | _ => .bad
def whlF (c : Env → Sto → R PV) (body : Env → Sto → RS) : Nat → Env → Sto → RS
  | 0, _, _ => .bad
  | n + 1, ρ, st => (c ρ st).then ρ fun x st1 => match x with
    | .bool true => (body ρ st1).next fun ρ' st' => whlF c body n ρ' st'
    | .bool false => .nx ρ st1
    | _ => .bad
def setIdx (lo : Nat) (o i v : PV) (st : Sto) : R PV := match o with
  | .box j => match st[j]? with
    | some (.lst xs) => match i with
      | .int k => match ixN xs.length k with
        | some n => wr lo j (.lst (xs.set n v)) .none st
        | none => .bad
      | _ => .bad
    | some (.dct t kvs) => match keyOf i with
      | some k => if isT k = t ∧ kvs.length < sizeLine then wr lo j (.dct t (dput kvs k v)) .none st else .bad
      | none => .bad
    | _ => .bad
  | _ => .bad
def setFld (lo : Nat) (o : PV) (f : String) (v : PV) (st : Sto) : R PV := match o with
  | .box j => match st[j]? with
    | some (.inst c fs) => if fs.length < 1000 then wr lo j (.inst c (fput fs f v)) .none st else .bad
    | _ => .bad
  | _ => .bad
def assignN : List Nat → List PV → Env → Option Env
  | [], [], ρ => some ρ
  | i :: r, x :: xs, ρ => assignN r xs (ρ.set i (some x))
  | _, _, _ => none

/-- a thing of the store becomes a tree -/
def frzf (lo i : Nat) (ρ : Env) (st : Sto) : RS := match ρ[i]? with
  | some (some (.box j)) => match st[j]? with
    | some (.lst xs) => if lo ≤ j then .nx (ρ.set i (some (.lst xs))) (st.set j .dead) else .bad
    | some (.dct t kvs) => if lo ≤ j then .nx (ρ.set i (some (.dct t kvs))) (st.set j .dead) else .bad
    | _ => .bad
  | some (some _) => .nx ρ st
  | _ => .bad

mutual
def exec (Γ : Gam) (lo : Nat) : MS → Env → Sto → RS
  | .asg tg e, ρ, st => (eval Γ lo e ρ st).then ρ fun v st1 => match assign tg v ρ with
    | some ρ' => .nx ρ' st1
    | none => .bad
  | .asgN is es, ρ, st => (evals Γ lo es ρ st).then ρ fun vs st1 => match assignN is vs ρ with
    | some ρ' => .nx ρ' st1
    | none => .bad
  | .setItem o i v, ρ, st => (eval Γ lo v ρ st).then ρ fun x st1 => (eval Γ lo o ρ st1).then ρ fun y st2 => (eval Γ lo i ρ st2).then ρ fun z st3 => (setIdx lo y z x st3).then ρ fun _ st4 => .nx ρ st4
  | .setAttr o f v, ρ, st => (eval Γ lo v ρ st).then ρ fun x st1 => (eval Γ lo o ρ st1).then ρ fun y st2 => (setFld lo y f x st2).then ρ fun _ st3 => .nx ρ st3
  | .expr e, ρ, st => (eval Γ lo e ρ st).then ρ fun _ st1 => .nx ρ st1
  | .ite c a b, ρ, st => (eval Γ lo c ρ st).then ρ fun x st1 => match x with
    | .bool true => execs Γ lo a ρ st1
    | .bool false => execs Γ lo b ρ st1
    | _ => .bad
  | .whl n c b, ρ, st => whlF (eval Γ lo c) (execs Γ lo b) n ρ st
  | .for_ tg it b, ρ, st => (source Γ lo it ρ st).then ρ fun s st1 =>
    let body : PV → Env → Sto → RS := fun x ρ1 st2 => match assign tg x ρ1 with
      | some ρ2 => execs Γ lo b ρ2 st2
      | none => .bad
    match s with
    | .fix xs => forFix body xs ρ st1
    | .live i => forLive i body (match st1[i]? with | some (.lst xs) => xs.length + 1 | _ => 0) 0 ρ st1
    | .liveE _ => .bad
  | .ret e, ρ, st => (eval Γ lo e ρ st).then ρ fun v st1 => .ret v st1
  | .retN, _, st => .ret .none st
  | .raise c, ρ, st => .exc c ρ st
  | .tryAs b c i h, ρ, st => match execs Γ lo b ρ st with
    | .exc d ρ1 st1 => if Γ.sub d c then (execs Γ lo h (ρ1.set i (some (.exc d))) st1).next (fun ρ2 st2 => .nx (ρ2.set i none) st2) else .exc d ρ1 st1
    | r => r
  | .tryOnly b c h, ρ, st => match execs Γ lo b ρ st with
    | .exc d ρ1 st1 => if Γ.sub d c then execs Γ lo h ρ1 st1 else .exc d ρ1 st1
    | r => r
  | .pass, ρ, st => .nx ρ st
def execs (Γ : Gam) (lo : Nat) : MSs → Env → Sto → RS
  | .nil, ρ, st => .nx ρ st
  | .cons s r, ρ, st => (exec Γ lo s ρ st).next fun ρ' st' => execs Γ lo r ρ' st'
  | .frz i r, ρ, st => (frzf lo i ρ st).next fun ρ' st' => execs Γ lo r ρ' st'
end

mutual
/-- all boxes are below n -/
def boxLt (n : Nat) : PV → Bool
  | .box i => decide (i < n)
  | .tup xs => boxLtL n xs
  | .lst xs => boxLtL n xs
  | .dct _ kvs => boxLtD n kvs
  | _ => true
def boxLtL (n : Nat) : List PV → Bool
  | [] => true
  | x :: xs => boxLt n x && boxLtL n xs
def boxLtD (n : Nat) : List (DK × PV) → Bool
  | [] => true
  | (_, x) :: xs => boxLt n x && boxLtD n xs
end

/-- a def: pure ones leave the store as it was -/
structure MD where
  pure : Bool
  slots : Nat
  args : Nat
  body : MSs

def fin (pure : Bool) (v : PV) (st st' : Sto) : R PV := if pure then (if boxLt st.length v then .ok v st else .bad) else .ok v st'
def runFn (Γ : Gam) (d : MD) (lo : Nat) (xs : List PV) (st : Sto) : R PV :=
  if xs.length = d.args then
    match execs Γ (if d.pure then st.length else lo) d.body (xs.map some ++ List.replicate (d.slots - d.args) none) st with
    | .ret v st' => fin d.pure v st st'
    | .nx _ st' => fin d.pure .none st st'
    | .exc c _ st' => .exc c (if d.pure then st else st')
    | .bad => .bad
  else .bad

end Z

set_option maxHeartbeats 200000
set_option maxRecDepth 512
/-! How trees and the store lie in the heap of the hand layer. -/
namespace Z
open PySem PySem.Spec PyProof.Rows
open L2 (V HO Hp SqL SqT Rd upd upd_same upd_ne ne_of ne_of_none)

structure Ctx where
  K : PySem.W.Frag
  ca : Nat → Addr
  rsv : List Addr

def keyR : KA → L2.Key
  | .i n => .inl n
  | .s t => .inr (toS t)

def alive (st : Sto) (i : Nat) : Prop := ∃ o, st[i]? = some o ∧ o ≠ .dead
/-- not changed by anybody: no thing of the store, not one that is being made -/
def Free (rs : List Addr) (ms : List Addr) (st : Sto) (a : Addr) : Prop := a ∉ rs ∧ ∀ i, alive st i → ms[i]? ≠ some a

/-- a tuple, a list that stays: nobody changes it -/
def FT (K : PySem.W.Frag) (H : Hp) (a : Addr) (vs : List V) : Prop := H a = some (.tup vs)
def FL (rs : List Addr) (ms : List Addr) (st : Sto) (H : Hp) (a : Addr) (vs : List V) : Prop := Rd H a (.lst vs) ∧ Free rs ms st a

/-- a list of ints: one that nobody changes, or the module's own -/
def KL (K : PySem.W.Frag) (a : Addr) (vs : List V) : Prop := ∃ (o : Obj) (its : Array Value) (n : Nat), K.lookup a = some o ∧ o.cls = .type "list" ∧ o.dict = none ∧ o.data = .seq its n ∧ its.size ≤ PySem.sizeLine ∧ L2.Vals vs its.toList
def KS (K : PySem.W.Frag) (rs : List Addr) (ms : List Addr) (st : Sto) (H : Hp) (a : Addr) (vs : List V) : Prop := FL rs ms st H a vs ∨ KL K a vs
section
variable (G : Ctx) (ms : List Addr) (st : Sto) (H : Hp)
mutual
def Rep : PV → V → Prop
  | .none, v => v = .non
  | .bool b, v => v = .bl b
  | .int i, v => v = .int i
  | .str s, v => v = .str (toS s)
  | .tup ds, v => ∃ a vs, v = .ref a ∧ FT G.K H a vs ∧ RepL ds vs
  | .lst ds, v => ∃ a vs, v = .ref a ∧ FL G.rsv ms st H a vs ∧ RepL ds vs
  | .dct false kvs, v => ∃ a l, v = .ref a ∧ Free G.rsv ms st a ∧ Rd H a (.dK l) ∧ RepK kvs l
  | .dct true kvs, v => ∃ a l, v = .ref a ∧ Free G.rsv ms st a ∧ Rd H a (.dT l) ∧ RepT kvs l
  | .box i, v => ∃ a, v = .ref a ∧ ms[i]? = some a
  | .exc c, v => ∃ a, v = .ref a ∧ Rd H a (L2.ExO (.ref (G.ca c)) a) ∧ Free G.rsv ms st a
  | .kls ns, v => ∃ a, v = .ref a ∧ KS G.K G.rsv ms st H a (ns.map V.int)
def RepL : List PV → List V → Prop
  | [], vs => vs = []
  | d :: ds, vs => ∃ v r, vs = v :: r ∧ Rep d v ∧ RepL ds r
def RepK : List (DK × PV) → List (L2.Key × V) → Prop
  | [], l => l = []
  | (k, d) :: r, l => ∃ ka v l', k = .a ka ∧ l = (keyR ka, v) :: l' ∧ Rep d v ∧ RepK r l'
def RepT : List (DK × PV) → List (List L2.Key × V) → Prop
  | [], l => l = []
  | (k, d) :: r, l => ∃ ks v l', k = .t ks ∧ l = (ks.map keyR, v) :: l' ∧ Rep d v ∧ RepT r l'
end
def RepF : List (String × PV) → List (Str × V) → Prop
  | [], l => l = []
  | (f, d) :: r, l => ∃ v l', l = (Str.ofString f, v) :: l' ∧ Rep G ms st H d v ∧ RepF r l'

def ObjR : PO → Addr → Prop
  | .dead, _ => True
  | .lst xs, a => ∃ vs, H a = some (.lst vs) ∧ RepL G ms st H xs vs
  | .dct false kvs, a => ∃ l, H a = some (.dK l) ∧ RepK G ms st H kvs l
  | .dct true kvs, a => ∃ l, H a = some (.dT l) ∧ RepT G ms st H kvs l
  | .inst c fs, a => ∃ dx l, H a = some (.ins (G.ca c) dx l) ∧ RepF G ms st H fs l

structure SOk : Prop where
  len : ms.length = st.length
  inj : ∀ (i j : Nat) (a : Addr), alive st i → alive st j → ms[i]? = some a → ms[j]? = some a → i = j
  obj : ∀ (i : Nat) (o : PO) (a : Addr), st[i]? = some o → ms[i]? = some a → ObjR G ms st H o a
  out : ∀ (i : Nat) (a : Addr), alive st i → ms[i]? = some a → a ∉ G.rsv
  rsv : ∀ a ∈ G.rsv, H a ≠ none

def EOk : Env → List (Option V) → Prop
  | [], σ => σ = []
  | o :: ρ, σ => ∃ v σ', σ = v :: σ' ∧ (∀ d, o = some d → ∃ u, v = some u ∧ Rep G ms st H d u) ∧ EOk ρ σ'
end

structure Ext (rs : List Addr) (lo : Nat) (ms : List Addr) (st : Sto) (H : Hp) (ms' : List Addr) (st' : Sto) (H' : Hp) : Prop where
  pre : ms <+: ms'
  keep : ∀ a u, Rd H a u → Free rs ms st a → Rd H' a u
  tup : ∀ a vs, H a = some (.tup vs) → H' a = some (.tup vs)
  dom : ∀ a, H a ≠ none → H' a ≠ none
  alv : ∀ i, i < ms.length → alive st' i → alive st i
  new : ∀ i a, ms.length ≤ i → ms'[i]? = some a → H a = none
  low : ∀ i, i < lo → st'[i]? = st[i]?
  rsv : ∀ a ∈ rs, H a ≠ none → H' a = H a

section
variable {G : Ctx} {rs : List Addr} {lo : Nat} {ms ms' ms1 ms2 : List Addr} {st st' st1 st2 : Sto} {H H' H1 H2 : Hp}

theorem Ext.refl : Ext rs lo ms st H ms st H where
  pre := List.prefix_refl _
  keep := fun _ _ r _ => r
  tup := fun _ _ h => h
  dom := fun _ h => h
  alv := fun _ _ h => h
  new := fun i a h e => by
    have := (List.getElem?_eq_some_iff.mp e).1
    omega
  low := fun _ _ => rfl
  rsv := fun _ _ _ => rfl

theorem pre_get {i : Nat} {a : Addr} (p : ms <+: ms') (e : ms[i]? = some a) : ms'[i]? = some a := by
  obtain ⟨t, rfl⟩ := p
  rw [List.getElem?_append_left (List.getElem?_eq_some_iff.mp e).1]
  exact e
theorem pre_back {i : Nat} {a : Addr} (p : ms <+: ms') (h : i < ms.length) (e : ms'[i]? = some a) : ms[i]? = some a := by
  obtain ⟨t, rfl⟩ := p
  rw [List.getElem?_append_left h] at e
  exact e
theorem Rd.ne_none {a : Addr} {u : HO} (r : Rd H a u) : H a ≠ none := by
  rcases r with r | ⟨o, r⟩ <;> rw [r] <;> simp
theorem Ext.free {a : Addr} (e : Ext rs lo ms st H ms' st' H') (f : Free rs ms st a) (h : H a ≠ none) : Free rs ms' st' a := ⟨f.1, fun i al q => by
  by_cases hi : i < ms.length
  · exact f.2 i (e.alv i hi al) (pre_back e.pre hi q)
  · exact h (e.new i a (by omega) q)⟩
theorem Ext.trans (a : Ext rs lo ms st H ms1 st1 H1) (b : Ext rs lo ms1 st1 H1 ms2 st2 H2) : Ext rs lo ms st H ms2 st2 H2 where
  pre := a.pre.trans b.pre
  keep := fun x u r f => b.keep x u (a.keep x u r f) (a.free f (Rd.ne_none r))
  tup := fun x vs h => b.tup x vs (a.tup x vs h)
  dom := fun x h => b.dom x (a.dom x h)
  alv := fun i h al => a.alv i h (b.alv i (Nat.lt_of_lt_of_le h a.pre.length_le) al)
  new := fun i x h e => by
    by_cases hi : i < ms1.length
    · exact a.new i x h (pre_back b.pre hi e)
    · have := b.new i x (by omega) e
      cases q : H x with
      | none => rfl
      | some o => exact absurd this (a.dom x (by rw [q]; simp))
  low := fun i h => (b.low i h).trans (a.low i h)
  rsv := fun x hx h => (b.rsv x hx (a.dom x h)).trans (a.rsv x hx h)
theorem Ext.mono {lo' : Nat} (a : Ext rs lo ms st H ms1 st1 H1) (h : lo' ≤ lo) : Ext rs lo' ms st H ms1 st1 H1 := ⟨a.pre, a.keep, a.tup, a.dom, a.alv, a.new, fun i hi => a.low i (by omega), a.rsv⟩

theorem FT.sq {K : PySem.W.Frag} {a : Addr} {vs : List V} (h : FT K H a vs) : SqT K H a vs := .inl (.inl h)
theorem FL.sq {K : PySem.W.Frag} {a : Addr} {vs : List V} (h : FL rs ms st H a vs) : SqL K H a vs := .inl h.1
theorem KS.sq {K : PySem.W.Frag} {a : Addr} {vs : List V} (h : KS K rs ms st H a vs) : SqL K H a vs := h.elim (fun h => .inl h.1) .inr
theorem FT.ext {K : PySem.W.Frag} {a : Addr} {vs : List V} (h : FT K H a vs) (e : Ext rs lo ms st H ms' st' H') : FT K H' a vs := e.tup _ _ h
theorem FL.ext {a : Addr} {vs : List V} (h : FL rs ms st H a vs) (e : Ext rs lo ms st H ms' st' H') : FL rs ms' st' H' a vs := ⟨e.keep _ _ h.1 h.2, e.free h.2 (Rd.ne_none h.1)⟩

mutual
theorem Rep.ext (e : Ext G.rsv lo ms st H ms' st' H') : ∀ (d : PV) (v : V), Rep G ms st H d v → Rep G ms' st' H' d v
  | .none, v, h => by simpa only [Rep] using h
  | .bool b, v, h => by simpa only [Rep] using h
  | .int i, v, h => by simpa only [Rep] using h
  | .str s, v, h => by simpa only [Rep] using h
  | .tup ds, v, h => by
    simp only [Rep] at h ⊢
    obtain ⟨a, vs, e1, e2, e3⟩ := h
    exact ⟨a, vs, e1, e2.ext e, RepL.ext e ds vs e3⟩
  | .lst ds, v, h => by
    simp only [Rep] at h ⊢
    obtain ⟨a, vs, e1, e2, e3⟩ := h
    exact ⟨a, vs, e1, e2.ext e, RepL.ext e ds vs e3⟩
  | .dct false kvs, v, h => by
    simp only [Rep] at h ⊢
    obtain ⟨a, l, e1, f, r, h⟩ := h
    exact ⟨a, l, e1, e.free f (Rd.ne_none r), e.keep _ _ r f, RepK.ext e kvs l h⟩
  | .dct true kvs, v, h => by
    simp only [Rep] at h ⊢
    obtain ⟨a, l, e1, f, r, h⟩ := h
    exact ⟨a, l, e1, e.free f (Rd.ne_none r), e.keep _ _ r f, RepT.ext e kvs l h⟩
  | .box i, v, h => by
    simp only [Rep] at h ⊢
    obtain ⟨a, e1, e2⟩ := h
    exact ⟨a, e1, pre_get e.pre e2⟩
  | .exc c, v, h => by
    simp only [Rep] at h ⊢
    obtain ⟨a, e1, e2, f⟩ := h
    exact ⟨a, e1, e.keep _ _ e2 f, e.free f (Rd.ne_none e2)⟩
  | .kls ns, v, h => by
    simp only [Rep] at h ⊢
    obtain ⟨a, e1, e2⟩ := h
    exact ⟨a, e1, e2.imp (fun e2 => e2.ext e) id⟩
theorem RepL.ext (e : Ext G.rsv lo ms st H ms' st' H') : ∀ (ds : List PV) (vs : List V), RepL G ms st H ds vs → RepL G ms' st' H' ds vs
  | [], vs, h => by simpa only [RepL] using h
  | d :: ds, vs, h => by
    simp only [RepL] at h ⊢
    obtain ⟨v, r, e1, e2, e3⟩ := h
    exact ⟨v, r, e1, Rep.ext e d v e2, RepL.ext e ds r e3⟩
theorem RepK.ext (e : Ext G.rsv lo ms st H ms' st' H') : ∀ (ds : List (DK × PV)) (vs : List (L2.Key × V)), RepK G ms st H ds vs → RepK G ms' st' H' ds vs
  | [], vs, h => by simpa only [RepK] using h
  | (k, d) :: ds, vs, h => by
    simp only [RepK] at h ⊢
    obtain ⟨ka, v, l', e1, e2, e3, e4⟩ := h
    exact ⟨ka, v, l', e1, e2, Rep.ext e d v e3, RepK.ext e ds l' e4⟩
theorem RepT.ext (e : Ext G.rsv lo ms st H ms' st' H') : ∀ (ds : List (DK × PV)) (vs : List (List L2.Key × V)), RepT G ms st H ds vs → RepT G ms' st' H' ds vs
  | [], vs, h => by simpa only [RepT] using h
  | (k, d) :: ds, vs, h => by
    simp only [RepT] at h ⊢
    obtain ⟨ka, v, l', e1, e2, e3, e4⟩ := h
    exact ⟨ka, v, l', e1, e2, Rep.ext e d v e3, RepT.ext e ds l' e4⟩
end
theorem RepF.ext (e : Ext G.rsv lo ms st H ms' st' H') : ∀ (ds : List (String × PV)) (vs : List (Str × V)), RepF G ms st H ds vs → RepF G ms' st' H' ds vs
  | [], vs, h => by simpa only [RepF] using h
  | (k, d) :: ds, vs, h => by
    simp only [RepF] at h ⊢
    obtain ⟨v, l', e2, e3, e4⟩ := h
    exact ⟨v, l', e2, Rep.ext e d v e3, RepF.ext e ds l' e4⟩
theorem EOk.ext (e : Ext G.rsv lo ms st H ms' st' H') : ∀ (ρ : Env) (σ : List (Option V)), EOk G ms st H ρ σ → EOk G ms' st' H' ρ σ
  | [], σ, h => by simpa only [EOk] using h
  | o :: ρ, σ, h => by
    simp only [EOk] at h ⊢
    obtain ⟨v, σ', e1, e2, e3⟩ := h
    exact ⟨v, σ', e1, fun d hd => let ⟨u, q, r⟩ := e2 d hd; ⟨u, q, Rep.ext e d u r⟩, EOk.ext e ρ σ' e3⟩

/-! ### what expressions come to -/
/-- r leads to Q, or to E -/
def Res {α β : Type} (G : Ctx) (rep : List Addr → Sto → Hp → α → β → Prop) (lo : Nat) (ms : List Addr) (st : Sto) (H : Hp) (r : R α) (Q : β → Hp → Prop) (E : Nat → Hp → Prop) : Prop := match r with
  | .ok v st' => ∀ ms' H' u, Ext G.rsv lo ms st H ms' st' H' → SOk G ms' st' H' → rep ms' st' H' v u → Q u H'
  | .exc c st' => ∀ ms' H', Ext G.rsv lo ms st H ms' st' H' → SOk G ms' st' H' → E c H'
  | .bad => False
theorem Res.after {α β : Type} {rep : List Addr → Sto → Hp → α → β → Prop} {r : R α} {Q : β → Hp → Prop} {E : Nat → Hp → Prop} (h : Res G rep lo ms st H r Q E) (e : Ext G.rsv lo ms st H ms1 st1 H1) : Res G rep lo ms1 st1 H1 r Q E := by
  cases r with
  | ok v st' => exact fun ms' H' u e' => h ms' H' u (e.trans e')
  | exc c st' => exact fun ms' H' e' => h ms' H' (e.trans e')
  | bad => exact h
theorem Res.bind1 {α β α' β' : Type} {rep : List Addr → Sto → Hp → α → β → Prop} {rep' : List Addr → Sto → Hp → α' → β' → Prop} {r : R α} {f : α → Sto → R α'} {Q : β' → Hp → Prop} {Q1 : β → Hp → Prop} {E : Nat → Hp → Prop}
    (h : Res G rep' lo ms st H (r.bind f) Q E)
    (k : ∀ x st1 ms1 H1 u, Ext G.rsv lo ms st H ms1 st1 H1 → SOk G ms1 st1 H1 → rep ms1 st1 H1 x u → Res G rep' lo ms1 st1 H1 (f x st1) Q E → Q1 u H1) : Res G rep lo ms st H r Q1 E := by
  cases r with
  | ok v st' => exact fun ms' H' u e o r => k v st' ms' H' u e o r (Res.after (rep := rep') h e)
  | exc c st' => exact h
  | bad => exact h
theorem Res.mono {α β : Type} {rep : List Addr → Sto → Hp → α → β → Prop} {r : R α} {Q Q' : β → Hp → Prop} {E E' : Nat → Hp → Prop} (h : Res G rep lo ms st H r Q E) (q : ∀ u H, Q u H → Q' u H) (e : ∀ c H, E c H → E' c H) : Res G rep lo ms st H r Q' E' := by
  cases r with
  | ok v st' => exact fun ms' H' u e o r => q _ _ (h ms' H' u e o r)
  | exc c st' => exact fun ms' H' e' o => e _ _ (h ms' H' e' o)
  | bad => exact h
/-- a value is there -/
theorem Res.done {α β : Type} {rep : List Addr → Sto → Hp → α → β → Prop} {v : α} {u : β} {Q : β → Hp → Prop} {E : Nat → Hp → Prop} (h : Res G rep lo ms st H (.ok v st) Q E) (o : SOk G ms st H) (r : rep ms st H v u) : Q u H := h ms H u Ext.refl o r
end

/-- what an expression of a def comes to, as a reading of the hand layer -/
def tE (G : Ctx) (lo : Nat) (W : L2.WX) (d : Env → Sto → R PV) : L2.TE := fun σ H Q => ∃ ms ρ st, lo ≤ st.length ∧ SOk G ms st H ∧ EOk G ms st H ρ σ ∧ Res G (Rep G) lo ms st H (d ρ st) Q fun c H' => W (.ref (G.ca c)) none σ H'
def tEs (G : Ctx) (lo : Nat) (W : L2.WX) (d : Env → Sto → R (List PV)) : L2.TA := fun σ H Q => ∃ ms ρ st, lo ≤ st.length ∧ SOk G ms st H ∧ EOk G ms st H ρ σ ∧ Res G (RepL G) lo ms st H (d ρ st) Q fun c H' => W (.ref (G.ca c)) none σ H'
end Z

set_option maxHeartbeats 200000
set_option maxRecDepth 512
/-! What a tree leans on, carried over. -/
namespace Z
open PySem PySem.Spec PyProof.Rows
open L2 (V HO Hp SqL SqT Rd upd upd_same upd_ne ne_of ne_of_none)

section
variable {G : Ctx}
/-- all that a tree leans on is carried over -/
structure Carry (G G' : Ctx) (ms : List Addr) (st : Sto) (H : Hp) (ms' : List Addr) (st' : Sto) (H' : Hp) : Prop where
  K : G'.K = G.K
  ca : G'.ca = G.ca
  rd : ∀ a u, Rd H a u → Free G.rsv ms st a → Rd H' a u ∧ Free G'.rsv ms' st' a
  tp : ∀ a vs, H a = some (.tup vs) → H' a = some (.tup vs)
  bx : ∀ (i : Nat) (a : Addr), ms[i]? = some a → ms'[i]? = some a
section
variable {G' : Ctx} {ms ms' : List Addr} {st st' : Sto} {H H' : Hp}
mutual
theorem Rep.carry (c : Carry G G' ms st H ms' st' H') : ∀ (d : PV) (v : V), Rep G ms st H d v → Rep G' ms' st' H' d v
  | .none, v, h => by simpa only [Rep] using h
  | .bool b, v, h => by simpa only [Rep] using h
  | .int i, v, h => by simpa only [Rep] using h
  | .str s, v, h => by simpa only [Rep] using h
  | .tup ds, v, h => by
    simp only [Rep] at h ⊢
    obtain ⟨a, vs, e1, e2, e3⟩ := h
    exact ⟨a, vs, e1, c.tp _ _ e2, RepL.carry c ds vs e3⟩
  | .lst ds, v, h => by
    simp only [Rep] at h ⊢
    obtain ⟨a, vs, e1, e2, e3⟩ := h
    exact ⟨a, vs, e1, c.rd _ _ e2.1 e2.2, RepL.carry c ds vs e3⟩
  | .dct false kvs, v, h => by
    simp only [Rep] at h ⊢
    obtain ⟨a, l, e1, f, r, h⟩ := h
    exact ⟨a, l, e1, (c.rd _ _ r f).2, (c.rd _ _ r f).1, RepK.carry c kvs l h⟩
  | .dct true kvs, v, h => by
    simp only [Rep] at h ⊢
    obtain ⟨a, l, e1, f, r, h⟩ := h
    exact ⟨a, l, e1, (c.rd _ _ r f).2, (c.rd _ _ r f).1, RepT.carry c kvs l h⟩
  | .box i, v, h => by
    simp only [Rep] at h ⊢
    obtain ⟨a, e1, e2⟩ := h
    exact ⟨a, e1, c.bx _ _ e2⟩
  | .exc k, v, h => by
    simp only [Rep] at h ⊢
    obtain ⟨a, e1, e2, f⟩ := h
    rw [c.ca]
    exact ⟨a, e1, (c.rd _ _ e2 f).1, (c.rd _ _ e2 f).2⟩
  | .kls ns, v, h => by
    simp only [Rep] at h ⊢
    obtain ⟨a, e1, e2⟩ := h
    rw [c.K]
    exact ⟨a, e1, e2.imp (fun e2 => c.rd _ _ e2.1 e2.2) id⟩
theorem RepL.carry (c : Carry G G' ms st H ms' st' H') : ∀ (ds : List PV) (vs : List V), RepL G ms st H ds vs → RepL G' ms' st' H' ds vs
  | [], vs, h => by simpa only [RepL] using h
  | d :: ds, vs, h => by
    simp only [RepL] at h ⊢
    obtain ⟨v, r, e1, e2, e3⟩ := h
    exact ⟨v, r, e1, Rep.carry c d v e2, RepL.carry c ds r e3⟩
theorem RepK.carry (c : Carry G G' ms st H ms' st' H') : ∀ (ds : List (DK × PV)) (vs : List (L2.Key × V)), RepK G ms st H ds vs → RepK G' ms' st' H' ds vs
  | [], vs, h => by simpa only [RepK] using h
  | (k, d) :: ds, vs, h => by
    simp only [RepK] at h ⊢
    obtain ⟨ka, v, l', e1, e2, e3, e4⟩ := h
    exact ⟨ka, v, l', e1, e2, Rep.carry c d v e3, RepK.carry c ds l' e4⟩
theorem RepT.carry (c : Carry G G' ms st H ms' st' H') : ∀ (ds : List (DK × PV)) (vs : List (List L2.Key × V)), RepT G ms st H ds vs → RepT G' ms' st' H' ds vs
  | [], vs, h => by simpa only [RepT] using h
  | (k, d) :: ds, vs, h => by
    simp only [RepT] at h ⊢
    obtain ⟨ka, v, l', e1, e2, e3, e4⟩ := h
    exact ⟨ka, v, l', e1, e2, Rep.carry c d v e3, RepT.carry c ds l' e4⟩
end
theorem RepF.carry (c : Carry G G' ms st H ms' st' H') : ∀ (ds : List (String × PV)) (vs : List (Str × V)), RepF G ms st H ds vs → RepF G' ms' st' H' ds vs
  | [], vs, h => by simpa only [RepF] using h
  | (k, d) :: ds, vs, h => by
    simp only [RepF] at h ⊢
    obtain ⟨v, l', e2, e3, e4⟩ := h
    exact ⟨v, l', e2, Rep.carry c d v e3, RepF.carry c ds l' e4⟩
theorem ObjR.carry (c : Carry G G' ms st H ms' st' H') {o : PO} {a : Addr} (h : ObjR G ms st H o a) (q : ∀ u, H a = some u → H' a = some u) : ObjR G' ms' st' H' o a := by
  cases o with
  | dead => trivial
  | lst xs => obtain ⟨vs, h1, h2⟩ := h; exact ⟨vs, q _ h1, RepL.carry c _ _ h2⟩
  | dct t kvs => cases t <;> (obtain ⟨vs, h1, h2⟩ := h; first | exact ⟨vs, q _ h1, RepK.carry c _ _ h2⟩ | exact ⟨vs, q _ h1, RepT.carry c _ _ h2⟩)
  | inst k fs => obtain ⟨dx, vs, h1, h2⟩ := h; exact ⟨dx, vs, c.ca ▸ q _ h1, RepF.carry c _ _ h2⟩
end

theorem Ext.carry {lo : Nat} {ms ms' : List Addr} {st st' : Sto} {H H' : Hp} (e : Ext G.rsv lo ms st H ms' st' H') : Carry G G ms st H ms' st' H' :=
  ⟨rfl, rfl, fun a u r f => ⟨e.keep a u r f, e.free f (Rd.ne_none r)⟩, e.tup, fun _ _ h => pre_get e.pre h⟩
theorem Carry.trans {G' G'' : Ctx} {ms ms' ms'' : List Addr} {st st' st'' : Sto} {H H' H'' : Hp} (a : Carry G G' ms st H ms' st' H') (b : Carry G' G'' ms' st' H' ms'' st'' H'') : Carry G G'' ms st H ms'' st'' H'' :=
  ⟨b.K.trans a.K, b.ca.trans a.ca, fun x u r f => b.rd x u (a.rd x u r f).1 (a.rd x u r f).2, fun x vs h => b.tp x vs (a.tp x vs h), fun i x h => b.bx i x (a.bx i x h)⟩
theorem Carry.refl {ms : List Addr} {st : Sto} {H : Hp} : Carry G G ms st H ms st H := ⟨rfl, rfl, fun _ _ r f => ⟨r, f⟩, fun _ _ h => h, fun _ _ h => h⟩
end
end Z

set_option maxHeartbeats 200000
set_option maxRecDepth 512
/-! Operators: what the small language's values come to, against the hand layer's rules. -/
namespace Z
open PySem PySem.Spec PyProof.Rows
open L2 (V HO Hp SqL SqT Rd upd upd_same upd_ne ne_of ne_of_none Cx PE PT PS PSs PA PG PI Inv St VK TE TA TS TT RelV Vals)

section
variable {G : Ctx} {lo : Nat} {ms : List Addr} {st : Sto} {H H' : Hp}

theorem ObjR.keep {ms' : List Addr} {st' : Sto} {o : PO} {a : Addr} (e : Ext G.rsv lo ms st H ms' st' H') (h : ObjR G ms st H o a) (q : H a ≠ none → H' a = H a) : ObjR G ms' st' H' o a := by
  cases o with
  | dead => trivial
  | lst xs =>
    obtain ⟨vs, h1, h2⟩ := h
    exact ⟨vs, (q (by rw [h1]; simp)).trans h1, RepL.ext e _ _ h2⟩
  | dct t kvs =>
    cases t with
    | false =>
      obtain ⟨vs, h1, h2⟩ := h
      exact ⟨vs, (q (by rw [h1]; simp)).trans h1, RepK.ext e _ _ h2⟩
    | true =>
      obtain ⟨vs, h1, h2⟩ := h
      exact ⟨vs, (q (by rw [h1]; simp)).trans h1, RepT.ext e _ _ h2⟩
  | inst c fs =>
    obtain ⟨dx, vs, h1, h2⟩ := h
    exact ⟨dx, vs, (q (by rw [h1]; simp)).trans h1, RepF.ext e _ _ h2⟩
theorem ObjR.there {o : PO} {a : Addr} (h : ObjR G ms st H o a) (n : o ≠ .dead) : H a ≠ none := by
  cases o with
  | dead => exact absurd rfl n
  | lst xs => obtain ⟨vs, h1, _⟩ := h; rw [h1]; simp
  | dct t kvs => cases t <;> (obtain ⟨vs, h1, _⟩ := h; rw [h1]; simp)
  | inst c fs => obtain ⟨dx, vs, h1, _⟩ := h; rw [h1]; simp
/-- more is there: nothing else has changed -/
theorem Ext.grow {rs : List Addr} (q : ∀ a, H a ≠ none → H' a = H a) : Ext rs lo ms st H ms st H' where
  pre := List.prefix_refl _
  keep := fun a u r _ => by
    have e := q a (Rd.ne_none r)
    rcases r with r | ⟨o, r⟩
    · exact .inl (e.trans r)
    · exact .inr ⟨o, e.trans r⟩
  tup := fun a vs h => (q a (by rw [h]; simp)).trans h
  dom := fun a h => by rw [q a h]; exact h
  alv := fun _ _ h => h
  new := fun i a h e => by
    have := (List.getElem?_eq_some_iff.mp e).1
    omega
  low := fun _ _ => rfl
  rsv := fun a _ h => q a h
theorem SOk.grow (S : SOk G ms st H) (q : ∀ a, H a ≠ none → H' a = H a) : SOk G ms st H' :=
  ⟨S.len, S.inj, fun i o a h1 h2 => (S.obj i o a h1 h2).keep (Ext.grow (lo := 0) q) (q a), S.out, fun a ha => by rw [q a (S.rsv a ha)]; exact S.rsv a ha⟩
theorem upd_grow {p : Addr} {o : HO} (hp : H p = none) : ∀ a, H a ≠ none → upd H p o a = H a := fun a h => upd_ne fun z => by subst z; exact h hp
theorem free_new (S : SOk G ms st H) {p : Addr} (hp : H p = none) : Free G.rsv ms st p := ⟨fun h => S.rsv p h hp, fun i ⟨o, h1, h2⟩ e => (S.obj i o p h1 e).there h2 hp⟩
theorem alive_append {o : PO} {i : Nat} (h : alive (st ++ [o]) i) (hi : i < st.length) : alive st i := by
  obtain ⟨q, h1, h2⟩ := h
  rw [List.getElem?_append_left hi] at h1
  exact ⟨q, h1, h2⟩
/-- a new thing of the store, laid at p -/
theorem Ext.newBox (S : SOk G ms st H) {p : Addr} {o : PO} {w : HO} (hp : H p = none) (hlo : lo ≤ st.length) : Ext G.rsv lo ms st H (ms ++ [p]) (st ++ [o]) (upd H p w) where
  pre := List.prefix_append _ _
  keep := fun a u r _ => by
    have e : upd H p w a = H a := upd_grow hp a (Rd.ne_none r)
    rcases r with r | ⟨o, r⟩
    · exact .inl (e.trans r)
    · exact .inr ⟨o, e.trans r⟩
  tup := fun a vs h => (upd_grow hp a (by rw [h]; simp)).trans h
  dom := fun a h => by rw [upd_grow hp a h]; exact h
  alv := fun i hi h => alive_append h (by rw [← S.len]; exact hi)
  new := fun i a h e => by
    have hi := (List.getElem?_eq_some_iff.mp e).1
    rw [List.length_append, List.length_singleton] at hi
    obtain rfl : i = ms.length := by omega
    rw [List.getElem?_append_right (Nat.le_refl _), Nat.sub_self] at e
    obtain rfl : p = a := by simpa using e
    exact hp
  low := fun i hi => List.getElem?_append_left (Nat.lt_of_lt_of_le hi hlo)
  rsv := fun a _ h => upd_grow hp a h
theorem SOk.newBox (S : SOk G ms st H) {p : Addr} {o : PO} {u : HO} (hp : H p = none) (ho : ObjR G (ms ++ [p]) (st ++ [o]) (upd H p u) o p) : SOk G (ms ++ [p]) (st ++ [o]) (upd H p u) := by
  have e : Ext G.rsv 0 ms st H (ms ++ [p]) (st ++ [o]) (upd H p u) := Ext.newBox S hp (Nat.zero_le _)
  have old : ∀ {i : Nat} {a : Addr}, i < st.length → (ms ++ [p])[i]? = some a → ms[i]? = some a := fun hi h => by
    rw [List.getElem?_append_left (by rw [S.len]; exact hi)] at h
    exact h
  have last : ∀ {i : Nat} {a : Addr}, ¬ i < st.length → (ms ++ [p])[i]? = some a → i = st.length ∧ a = p := fun {i a} hi h => by
    have h2 := (List.getElem?_eq_some_iff.mp h).1
    rw [List.length_append, List.length_singleton, S.len] at h2
    obtain rfl : i = st.length := by omega
    rw [← S.len, List.getElem?_append_right (Nat.le_refl _), Nat.sub_self] at h
    exact ⟨rfl, by simpa using h.symm⟩
  refine ⟨by simp [S.len], fun i j a ai aj hi hj => ?_, fun i q a h1 h2 => ?_, fun i a ai hi => ?_, fun a ha => by rw [upd_grow hp a (S.rsv a ha)]; exact S.rsv a ha⟩
  · by_cases ci : i < st.length
    · by_cases cj : j < st.length
      · exact S.inj i j a (alive_append ai ci) (alive_append aj cj) (old ci hi) (old cj hj)
      · obtain ⟨rfl, rfl⟩ := last cj hj
        exact absurd (old ci hi) ((free_new S hp).2 i (alive_append ai ci))
    · obtain ⟨rfl, rfl⟩ := last ci hi
      by_cases cj : j < st.length
      · exact absurd (old cj hj) ((free_new S hp).2 j (alive_append aj cj))
      · exact (last cj hj).1.symm
  · by_cases ci : i < st.length
    · rw [List.getElem?_append_left ci] at h1
      exact (S.obj i q a h1 (old ci h2)).keep e (upd_grow hp a)
    · obtain ⟨rfl, rfl⟩ := last ci h2
      rw [List.getElem?_append_right (Nat.le_refl _), Nat.sub_self] at h1
      obtain rfl : o = q := by simpa using h1
      exact ho
  · by_cases ci : i < st.length
    · exact S.out i a (alive_append ai ci) (old ci hi)
    · obtain ⟨rfl, rfl⟩ := last ci hi
      exact (free_new S hp).1

/-- a list is made: a tree or a new thing of the store -/
theorem mkLst_ok {bx : Bool} {xs : List PV} {vs : List V} {Q : VK} {E : Nat → Hp → Prop} (S : SOk G ms st H) (hlo : lo ≤ st.length) (r : RepL G ms st H xs vs) (h : Res G (Rep G) lo ms st H (mkLst bx xs st) Q E) :
    ∀ p, H p = none → Q (.ref p) (upd H p (.lst vs)) := fun p hp => by
  cases bx with
  | false =>
    refine h ms _ (.ref p) (Ext.grow (upd_grow hp)) (S.grow (upd_grow hp)) ?_
    simp only [Rep]
    exact ⟨p, vs, rfl, ⟨.inl upd_same, free_new S hp⟩, RepL.ext (Ext.grow (lo := 0) (upd_grow hp)) _ _ r⟩
  | true =>
    have e : Ext G.rsv lo ms st H (ms ++ [p]) (st ++ [.lst xs]) (upd H p (.lst vs)) := Ext.newBox S hp hlo
    refine h (ms ++ [p]) _ (.ref p) e (S.newBox hp ⟨vs, upd_same, RepL.ext e _ _ r⟩) ?_
    show Rep G (ms ++ [p]) (st ++ [.lst xs]) (upd H p (.lst vs)) (.box st.length) (.ref p)
    simp only [Rep]
    exact ⟨p, rfl, by rw [← S.len]; simp⟩
/-- a tuple is made -/
theorem tup_ok {xs : List PV} {vs : List V} {Q : VK} {E : Nat → Hp → Prop} (S : SOk G ms st H) (r : RepL G ms st H xs vs) (h : Res G (Rep G) lo ms st H (.ok (.tup xs) st) Q E) :
    ∀ p, H p = none → Q (.ref p) (upd H p (.tup vs)) := fun p hp => by
  refine h ms _ (.ref p) (Ext.grow (upd_grow hp)) (S.grow (upd_grow hp)) ?_
  simp only [Rep]
  exact ⟨p, vs, rfl, upd_same, RepL.ext (Ext.grow (lo := 0) (upd_grow hp)) _ _ r⟩

theorem RepL.length : ∀ (xs : List PV) (vs : List V), RepL G ms st H xs vs → vs.length = xs.length
  | [], vs, h => by simp only [RepL] at h; subst h; rfl
  | d :: ds, vs, h => by
    simp only [RepL] at h
    obtain ⟨v, r, rfl, _, h⟩ := h
    rw [List.length_cons, List.length_cons, RepL.length ds r h]
theorem RepL.append : ∀ (xs ys : List PV) (vs ws : List V), RepL G ms st H xs vs → RepL G ms st H ys ws → RepL G ms st H (xs ++ ys) (vs ++ ws)
  | [], ys, vs, ws, h, q => by simp only [RepL] at h; subst h; exact q
  | d :: ds, ys, vs, ws, h, q => by
    simp only [RepL, List.cons_append] at h ⊢
    obtain ⟨v, r, rfl, h1, h2⟩ := h
    exact ⟨v, r ++ ws, rfl, h1, RepL.append ds ys r ws h2 q⟩
theorem RepL.drop : ∀ (n : Nat) (xs : List PV) (vs : List V), RepL G ms st H xs vs → RepL G ms st H (xs.drop n) (vs.drop n)
  | 0, xs, vs, h => by simpa using h
  | n + 1, [], vs, h => by simp only [RepL] at h; subst h; simp [RepL]
  | n + 1, d :: ds, vs, h => by
    simp only [RepL] at h
    obtain ⟨v, r, rfl, _, h⟩ := h
    simpa using RepL.drop n ds r h
theorem RepL.take : ∀ (n : Nat) (xs : List PV) (vs : List V), RepL G ms st H xs vs → RepL G ms st H (xs.take n) (vs.take n)
  | 0, xs, vs, h => by simp [RepL]
  | n + 1, [], vs, h => by simp only [RepL] at h; subst h; simp [RepL]
  | n + 1, d :: ds, vs, h => by
    simp only [RepL] at h
    obtain ⟨v, r, rfl, h1, h⟩ := h
    simp only [List.take_succ_cons, RepL]
    exact ⟨v, _, rfl, h1, RepL.take n ds r h⟩
theorem RepL.get : ∀ (xs : List PV) (vs : List V) (i : Nat) (x : PV), RepL G ms st H xs vs → xs[i]? = some x → ∃ v, vs[i]? = some v ∧ Rep G ms st H x v
  | [], vs, i, x, h, e => by simp at e
  | d :: ds, vs, 0, x, h, e => by
    simp only [RepL] at h
    obtain ⟨v, r, rfl, h1, h⟩ := h
    simp at e
    subst e
    exact ⟨v, rfl, h1⟩
  | d :: ds, vs, i + 1, x, h, e => by
    simp only [RepL] at h
    obtain ⟨v, r, rfl, h1, h⟩ := h
    simpa using RepL.get ds r i x h (by simpa using e)
theorem RepL.rep (xs : List PV) (vs : List V) (h : RepL G ms st H xs vs) : ∀ n : Nat, RepL G ms st H (List.replicate n xs).flatten (List.replicate n vs).flatten
  | 0 => by simp [RepL]
  | n + 1 => by
    rw [List.replicate_succ, List.replicate_succ, List.flatten_cons, List.flatten_cons]
    exact RepL.append _ _ _ _ h (RepL.rep xs vs h n)
theorem RepL.set : ∀ (xs : List PV) (vs : List V) (i : Nat) (x : PV) (v : V), RepL G ms st H xs vs → Rep G ms st H x v → RepL G ms st H (xs.set i x) (vs.set i v)
  | [], vs, i, x, v, h, q => by simp only [RepL] at h; subst h; simp [RepL]
  | d :: ds, vs, 0, x, v, h, q => by
    simp only [RepL] at h
    obtain ⟨w, r, rfl, h1, h⟩ := h
    simp only [List.set_cons_zero, RepL]
    exact ⟨v, r, rfl, q, h⟩
  | d :: ds, vs, i + 1, x, v, h, q => by
    simp only [RepL] at h
    obtain ⟨w, r, rfl, h1, h⟩ := h
    simp only [List.set_cons_succ, RepL]
    exact ⟨w, _, rfl, h1, RepL.set ds r i x v h q⟩
theorem RepL.mem : ∀ (xs : List PV) (vs : List V), RepL G ms st H xs vs → ∀ x ∈ xs, ∃ v ∈ vs, Rep G ms st H x v
  | [], vs, h, x, hx => by simp at hx
  | d :: ds, vs, h, x, hx => by
    simp only [RepL] at h
    obtain ⟨v, r, rfl, h1, h⟩ := h
    rcases List.mem_cons.mp hx with rfl | hx
    · exact ⟨v, List.mem_cons_self, h1⟩
    · obtain ⟨w, hw, q⟩ := RepL.mem ds r h x hx
      exact ⟨w, List.mem_cons_of_mem _ hw, q⟩

/-- the list that a value is -/
theorem lstOf_ok (S : SOk G ms st H) {d : PV} {v : V} {xs : List PV} (r : Rep G ms st H d v) (h : lstOf st d = some xs) : ∃ a vs, v = .ref a ∧ Rd H a (.lst vs) ∧ RepL G ms st H xs vs := by
  cases d with
  | lst ys =>
    simp only [lstOf, Option.some.injEq] at h
    subst h
    simp only [Rep] at r
    obtain ⟨a, vs, e1, e2, e3⟩ := r
    exact ⟨a, vs, e1, e2.1, e3⟩
  | box i =>
    simp only [Rep] at r
    obtain ⟨a, e1, e2⟩ := r
    simp only [lstOf] at h
    split at h
    · rename_i ys hi
      cases h
      obtain ⟨vs, e3, e4⟩ := S.obj i _ a hi e2
      exact ⟨a, vs, e1, .inl e3, e4⟩
    · cases h
  | _ => simp [lstOf] at h
theorem RepL.ints : ∀ (ns : List Int), RepL G ms st H (ns.map .int) (ns.map V.int)
  | [] => by simp [RepL]
  | n :: ns => by
    simp only [List.map_cons, RepL]
    exact ⟨.int n, _, rfl, by simp only [Rep], RepL.ints ns⟩
/-- the list or tuple that a value is -/
theorem seqOf_ok (S : SOk G ms st H) {d : PV} {v : V} {xs : List PV} (r : Rep G ms st H d v) (h : seqOf st d = some xs) : ∃ a vs, v = .ref a ∧ (SqL G.K H a vs ∨ SqT G.K H a vs) ∧ RepL G ms st H xs vs := by
  cases d with
  | tup ys =>
    simp only [seqOf, Option.some.injEq] at h
    subst h
    simp only [Rep] at r
    obtain ⟨a, vs, e1, e2, e3⟩ := r
    exact ⟨a, vs, e1, .inr e2.sq, e3⟩
  | kls ns =>
    simp only [seqOf, Option.some.injEq] at h
    subst h
    simp only [Rep] at r
    obtain ⟨a, e1, e2⟩ := r
    exact ⟨a, _, e1, .inl e2.sq, RepL.ints ns⟩
  | lst ys =>
    obtain ⟨a, vs, e1, e2, e3⟩ := lstOf_ok S r (xs := xs) (by simpa [lstOf, seqOf] using h)
    exact ⟨a, vs, e1, .inl (.inl e2), e3⟩
  | box i =>
    obtain ⟨a, vs, e1, e2, e3⟩ := lstOf_ok S r (xs := xs) (by simpa only [lstOf, seqOf] using h)
    exact ⟨a, vs, e1, .inl (.inl e2), e3⟩
  | _ => simp [seqOf] at h
end
end Z

set_option maxHeartbeats 200000
set_option maxRecDepth 512
set_option maxHeartbeats 1000000
/-! Operators, comparisons, places, slices. -/
namespace Z
open PySem PySem.Spec PyProof.Rows
open L2 (V HO Hp SqL SqT Rd upd upd_same upd_ne ne_of ne_of_none Cx PE PT PS PSs PA PG PI Inv VK TE TA TS TT RelV Vals Dp DpAll)

theorem line_eq : (sizeLine : Nat) = PySem.sizeLine := by rw [PySem.sizeLine_eq]
theorem toS_len (s : Tx) : (toS s).length = s.length := by simp [toS, Str.length]
theorem toS_cps (s : Tx) : (toS s).cps.toList = s.map Char.toNat := by simp [toS]
theorem toS_append (a b : Tx) : toS (a ++ b) = toS a ++ toS b := by
  apply Str.ext'
  show _ = (toS a).cps ++ (toS b).cps
  simp [toS]
theorem char_inj {a b : Char} (h : a.toNat = b.toNat) : a = b := Char.ext (UInt32.toNat_inj.mp h)
theorem toS_inj {a b : Tx} (h : toS a = toS b) : a = b := by
  have e : (toS a).cps.toList = (toS b).cps.toList := by rw [h]
  rw [toS_cps, toS_cps] at e
  exact (List.map_inj_right fun x y q => char_inj q).mp e
theorem toS_eq (a b : Tx) : (toS a == toS b) = (a == b) := by
  by_cases h : a = b
  · subst h; simp
  · have : toS a ≠ toS b := fun q => h (toS_inj q)
    rw [beq_eq_false_iff_ne.mpr this, beq_eq_false_iff_ne.mpr h]

section
variable {G : Ctx} {lo : Nat} {ms : List Addr} {st : Sto} {H H' : Hp}

/-! ### data -/
mutual
def toPD : PV → PyData
  | .bool b => .bool b
  | .int i => .int i
  | .str s => .str (toS s)
  | .tup xs => .tuple (toPDs xs)
  | .lst xs => .list (toPDs xs)
  | _ => .none
def toPDs : List PV → List PyData
  | [] => []
  | x :: xs => toPD x :: toPDs xs
end
mutual
theorem dp_of (S : SOk G ms st H) : ∀ (n : Nat) (d : PV) (v : V), plain n d = true → Rep G ms st H d v → Dp G.K H v (toPD d)
  | _, .none, v, _, r => by simp only [Rep] at r; subst r; simp only [toPD]; exact .non
  | _, .bool b, v, _, r => by simp only [Rep] at r; subst r; simp only [toPD]; exact .bl b
  | _, .int i, v, _, r => by simp only [Rep] at r; subst r; simp only [toPD]; exact .int i
  | _, .str s, v, _, r => by simp only [Rep] at r; subst r; simp only [toPD]; exact .str _
  | n + 1, .tup xs, v, p, r => by
    simp only [Rep] at r
    obtain ⟨a, vs, rfl, e2, e3⟩ := r
    simp only [plain] at p
    simp only [toPD]
    exact .tup e2.sq (dps_of S n xs vs p e3)
  | n + 1, .lst xs, v, p, r => by
    simp only [Rep] at r
    obtain ⟨a, vs, rfl, e2, e3⟩ := r
    simp only [plain] at p
    simp only [toPD]
    exact .lst e2.sq (dps_of S n xs vs p e3)
  | 0, .tup xs, v, p, r => by simp [plain] at p
  | 0, .lst xs, v, p, r => by simp [plain] at p
  | _, .dct t kvs, v, p, r => by simp [plain] at p
  | _, .box i, v, p, r => by simp [plain] at p
  | _, .exc i, v, p, r => by simp [plain] at p
  | _, .kls i, v, p, r => by simp [plain] at p
theorem dps_of (S : SOk G ms st H) : ∀ (n : Nat) (d : List PV) (v : List V), plainL n d = true → RepL G ms st H d v → DpAll G.K H v (toPDs d)
  | _, [], v, _, r => by simp only [RepL] at r; subst r; simp only [toPDs]; exact .nil
  | n, d :: ds, v, p, r => by
    simp only [RepL] at r
    obtain ⟨w, r', rfl, h1, h2⟩ := r
    simp only [plainL, Bool.and_eq_true] at p
    simp only [toPDs]
    exact .cons (dp_of S n d w p.1 h1) (dps_of S n ds r' p.2 h2)
end
theorem strOk_toS (s : Tx) : PyData.strOk (toS s) = true := by
  unfold PyData.strOk
  rw [← Array.all_toList, toS_cps, List.all_map, List.all_eq_true]
  intro c _
  have : c.toNat < 0x110000 := by
    have := c.valid
    rcases this with h | h
    · show c.val.toNat < _
      have : c.val.toNat < 0xd800 := h
      omega
    · exact h.2
  simpa using this
mutual
theorem lay_of : ∀ (n : Nat) (d : PV), plain n d = true → (toPD d).canLay0 = true ∧ (toPD d).depth ≤ n
  | _, .none, _ => by simp [toPD, PyData.canLay0, PyData.depth]
  | _, .bool b, _ => by simp [toPD, PyData.canLay0, PyData.depth]
  | _, .int i, _ => by simp [toPD, PyData.canLay0, PyData.depth]
  | _, .str s, _ => by simp [toPD, PyData.canLay0, PyData.depth, strOk_toS]
  | n + 1, .tup xs, p => by
    simp only [plain] at p
    have := lays_of n xs p
    simp only [toPD, PyData.canLay0, PyData.depth]
    exact ⟨this.1, by omega⟩
  | n + 1, .lst xs, p => by
    simp only [plain] at p
    have := lays_of n xs p
    simp only [toPD, PyData.canLay0, PyData.depth]
    exact ⟨this.1, by omega⟩
  | 0, .tup xs, p => by simp [plain] at p
  | 0, .lst xs, p => by simp [plain] at p
  | _, .dct t kvs, p => by simp [plain] at p
  | _, .box i, p => by simp [plain] at p
  | _, .exc i, p => by simp [plain] at p
  | _, .kls i, p => by simp [plain] at p
theorem lays_of : ∀ (n : Nat) (d : List PV), plainL n d = true → PyData.canLayAll0 (toPDs d) = true ∧ PyData.depthAll (toPDs d) ≤ n
  | _, [], _ => by simp [toPDs, PyData.canLayAll0, PyData.depthAll]
  | n, d :: ds, p => by
    simp only [plainL, Bool.and_eq_true] at p
    have h1 := lay_of n d p.1
    have h2 := lays_of n ds p.2
    simp only [toPDs, PyData.canLayAll0, PyData.depthAll, h1.1, h2.1, Bool.and_self, true_and]
    omega
end
theorem shaped_of {d : PV} (h : plain 60 d = true) : SeqAt.shaped (toPD d) = true := by
  have := lay_of 60 d h
  unfold SeqAt.shaped
  rw [this.1, Bool.true_and]
  exact decide_eq_true (by omega)
mutual
theorem eqv_pd : ∀ (n m : Nat) (a b : PV), plain n a = true → plain m b = true → PyData.eqv (toPD a) (toPD b) = eqv a b
  | n, m, .none, b, p, q => by cases b <;> simp [toPD, eqv, PyData.eqv, plain] at q ⊢
  | n, m, .bool x, b, p, q => by cases b <;> simp [toPD, eqv, PyData.eqv, plain] at q ⊢
  | n, m, .int x, b, p, q => by cases b <;> simp [toPD, eqv, PyData.eqv, plain] at q ⊢
  | n, m, .str x, b, p, q => by
    cases b <;> simp [toPD, eqv, PyData.eqv, plain] at q ⊢
    exact toS_eq _ _
  | n + 1, m, .tup xs, b, p, q => by
    cases b with
    | tup ys =>
      cases m with
      | zero => simp [plain] at q
      | succ m =>
        simp only [plain] at p q
        simp only [toPD, eqv, PyData.eqv]
        exact eqvs_pd n m xs ys p q
    | _ => simp [toPD, eqv, PyData.eqv, plain] at q ⊢
  | n + 1, m, .lst xs, b, p, q => by
    cases b with
    | lst ys =>
      cases m with
      | zero => simp [plain] at q
      | succ m =>
        simp only [plain] at p q
        simp only [toPD, eqv, PyData.eqv]
        exact eqvs_pd n m xs ys p q
    | _ => simp [toPD, eqv, PyData.eqv, plain] at q ⊢
  | 0, _, .tup xs, _, p, _ => by simp [plain] at p
  | 0, _, .lst xs, _, p, _ => by simp [plain] at p
  | _, _, .dct t kvs, _, p, _ => by simp [plain] at p
  | _, _, .box i, _, p, _ => by simp [plain] at p
  | _, _, .exc i, _, p, _ => by simp [plain] at p
  | _, _, .kls i, _, p, _ => by simp [plain] at p
theorem eqvs_pd : ∀ (n m : Nat) (a b : List PV), plainL n a = true → plainL m b = true → PyData.eqvAll (toPDs a) (toPDs b) = eqvL a b
  | n, m, [], b, p, q => by cases b <;> simp [toPDs, eqvL, PyData.eqvAll]
  | n, m, x :: xs, b, p, q => by
    cases b with
    | nil => simp [toPDs, eqvL, PyData.eqvAll]
    | cons y ys =>
      simp only [plainL, Bool.and_eq_true] at p q
      simp only [toPDs, eqvL, PyData.eqvAll]
      rw [eqv_pd n m x y p.1 q.1, eqvs_pd n m xs ys p.2 q.2]
end
/-- what a box holds, read as a tree -/
theorem dp_res (S : SOk G ms st H) {d : PV} {v : V} (r : Rep G ms st H d v) (p : plain 60 (res st d) = true) : Dp G.K H v (toPD (res st d)) := by
  cases d with
  | kls ns =>
    simp only [Rep] at r
    obtain ⟨a, rfl, e2⟩ := r
    simp only [res, plain] at p ⊢
    simp only [toPD]
    exact .lst e2.sq (dps_of S 59 _ _ p (RepL.ints ns))
  | box i =>
    simp only [Rep] at r
    obtain ⟨a, rfl, e2⟩ := r
    simp only [res] at p ⊢
    split at p
    · rename_i xs hi
      obtain ⟨vs, e3, e4⟩ := S.obj i _ a hi e2
      simp only [plain] at p
      simp only [toPD]
      exact .lst (.inl (.inl e3)) (dps_of S 59 xs vs p e4)
    · simp [plain] at p
    · simp [plain] at p
  | _ => exact dp_of S 60 _ v p r

/-! ### an operator by its values -/
def OpF (G : Ctx) (lo : Nat) (f : PV → PV → Sto → R PV) (r : L2.R2) : Prop := ∀ (ms : List Addr) (st : Sto) (H : Hp) (x y : PV) (u w : V) (Q : VK) (E : Nat → Hp → Prop),
  lo ≤ st.length → SOk G ms st H → Rep G ms st H x u → Rep G ms st H y w → Res G (Rep G) lo ms st H (f x y st) Q E → r u w H Q
theorem Res.mono_lo {α β : Type} {rep : List Addr → Sto → Hp → α → β → Prop} {r : R α} {Q : β → Hp → Prop} {E : Nat → Hp → Prop} (h : Res G rep lo ms st H r Q E) : Res G rep lo ms st H r Q E := h

def rAdd (K : PySem.W.Frag) : L2.R2 := fun x y H Q => (∃ i j, x = .int i ∧ y = .int j ∧ Q (.int (i + j)) H) ∨ (∃ i j, x = .str i ∧ y = .str j ∧ i.length + j.length ≤ PySem.sizeLine ∧ Q (.str (i ++ j)) H) ∨ L2.rCatA K x y H Q ∨
  ∃ l b xs zs, x = .ref l ∧ y = .ref b ∧ Rd H l (.lst xs) ∧ Rd H b (.lst zs) ∧ xs.length + zs.length ≤ PySem.sizeLine ∧ ∀ p, H p = none → Q (.ref p) (upd H p (.lst (xs ++ zs)))
theorem lstRd {X : Cx} {pins : List (Addr × Obj)} {σ : L2.St} {s : Shared} {l : Addr} {xs : List V} (I : Inv X pins σ H s) (hH : Rd H l (.lst xs)) : xs.length ≤ PySem.sizeLine ∧ ∃ (its : List Value) (n : Nat), Vals xs its ∧ xs.length = its.length ∧ s.heap.get? l = some { cls := .type "list", data := .seq its.toArray n } := by
  obtain ⟨z, its, n, r, e⟩ := hH.ok I.hok
  exact ⟨z, its, n, r, r.length, e⟩
theorem op_catR {X : Cx} : L2.OpR X (binaryOp .Add) (fun x y H Q => ∃ l b xs zs, x = .ref l ∧ y = .ref b ∧ Rd H l (.lst xs) ∧ Rd H b (.lst zs) ∧ xs.length + zs.length ≤ PySem.sizeLine ∧ ∀ p, H p = none → Q (.ref p) (upd H p (.lst (xs ++ zs)))) := by
  intro pins s σ H x y v u Q I rx ry h
  obtain ⟨l, b, xs, zs, rfl, rfl, hH, hB, hz, q⟩ := h
  cases rx
  cases ry
  obtain ⟨z, its, n, r, hl, e⟩ := lstRd I hH
  obtain ⟨z2, its2, n2, r2, hl2, e2⟩ := lstRd I hB
  refine PySem.P.add_list e e2 ?_ (by rw [List.size_toArray, List.size_toArray]; omega)
  have ea : its.toArray ++ its2.toArray = (its ++ its2).toArray := by simp
  rw [ea]
  exact ⟨.ref _, _, I.lnew (t' := s.toks) (r.append r2) (by rw [List.length_append]; omega), rfl, q _ I.fresh⟩
theorem op_add {X : Cx} : L2.OpR X (binaryOp .Add) (rAdd X.K) := L2.OpR.or L2.op_add (L2.OpR.or L2.op_add_str (L2.OpR.or L2.op_catA op_catR))
theorem add_ok {bx : Bool} : OpF G lo (fAdd bx) (rAdd G.K) := by
  intro ms st H x y u w Q E hlo S rx ry h
  have lists : ∀ {xs ys : List PV}, lstOf st x = some xs → lstOf st y = some ys → Res G (Rep G) lo ms st H (if xs.length + ys.length ≤ sizeLine then mkLst bx (xs ++ ys) st else .bad) Q E → rAdd G.K u w H Q := fun {xs ys} hx hy h => by
    obtain ⟨a, vs, rfl, ra, la⟩ := lstOf_ok S rx hx
    obtain ⟨b, ws, rfl, rb, lb⟩ := lstOf_ok S ry hy
    have e1 := RepL.length _ _ la
    have e2 := RepL.length _ _ lb
    by_cases hz : xs.length + ys.length ≤ sizeLine
    · rw [if_pos hz] at h
      refine .inr (.inr (.inr ⟨a, b, vs, ws, rfl, rfl, ra, rb, by rw [e1, e2, ← line_eq]; exact hz, mkLst_ok S hlo (RepL.append _ _ _ _ la lb) h⟩))
    · rw [if_neg hz] at h
      exact h.elim
  unfold fAdd at h
  split at h
  · simp only [Rep] at rx ry
    subst rx; subst ry
    exact .inl ⟨_, _, rfl, rfl, h.done S (by simp only [Rep])⟩
  · simp only [Rep] at rx ry
    subst rx; subst ry
    rename_i a b
    by_cases hz : a.length + b.length ≤ sizeLine
    · rw [if_pos hz] at h
      refine .inr (.inl ⟨_, _, rfl, rfl, by rw [toS_len, toS_len, ← line_eq]; exact hz, ?_⟩)
      rw [← toS_append]
      exact h.done S (by simp only [Rep])
    · rw [if_neg hz] at h
      exact h.elim
  · rename_i xs ys
    by_cases hz : xs.length + ys.length ≤ sizeLine
    · rw [if_pos hz] at h
      simp only [Rep] at rx ry
      obtain ⟨a, vs, rfl, ra, la⟩ := rx
      obtain ⟨b, ws, rfl, rb, lb⟩ := ry
      have e1 := RepL.length _ _ la
      have e2 := RepL.length _ _ lb
      refine .inr (.inr (.inl ⟨a, b, vs, ws, rfl, rfl, ra.sq, rb.sq, by rw [e1, e2, ← line_eq]; exact hz, fun q => ?_, fun q1 q2 => ?_, fun _ _ => tup_ok S (RepL.append _ _ _ _ la lb) h⟩))
      · subst q
        cases xs with
        | nil => exact h.done S (by simp only [Rep, List.nil_append]; exact ⟨b, ws, rfl, rb, lb⟩)
        | cons _ _ => simp at e1
      · subst q2
        cases ys with
        | nil => exact h.done S (by simp only [Rep, List.append_nil]; exact ⟨a, vs, rfl, ra, la⟩)
        | cons _ _ => simp at e2
    · rw [if_neg hz] at h
      exact h.elim
  · split at h
    · rename_i hx hy
      exact lists hx hy h
    · exact h.elim
theorem sub_ok : OpF G lo fSub (L2.rI0 fun i j => .int (i - j)) := by
  intro ms st H x y u w Q E hlo S rx ry h
  unfold fSub at h
  split at h
  · simp only [Rep] at rx ry
    subst rx; subst ry
    exact ⟨_, _, rfl, rfl, h.done S (by simp only [Rep])⟩
  · exact h.elim
theorem mod_ok : OpF G lo fMod (L2.rI (fun _ j => 0 < j) fun i j => .int (i % j)) := by
  intro ms st H x y u w Q E hlo S rx ry h
  unfold fMod at h
  split at h
  · simp only [Rep] at rx ry
    subst rx; subst ry
    split at h
    · rename_i hj
      exact ⟨_, _, rfl, rfl, hj, h.done S (by simp only [Rep])⟩
    · exact h.elim
  · exact h.elim
theorem div_ok : OpF G lo fDiv (L2.rI L2.CDiv fun i j => .int (i / j)) := by
  intro ms st H x y u w Q E hlo S rx ry h
  unfold fDiv at h
  split at h
  · simp only [Rep] at rx ry
    subst rx; subst ry
    split at h
    · rename_i hj
      exact ⟨_, _, rfl, rfl, hj, h.done S (by simp only [Rep])⟩
    · exact h.elim
  · exact h.elim
theorem pow_ok : OpF G lo fPow (L2.rI L2.CPow fun i j => .int (i ^ j.toNat)) := by
  intro ms st H x y u w Q E hlo S rx ry h
  unfold fPow at h
  split at h
  · simp only [Rep] at rx ry
    subst rx; subst ry
    split at h
    · rename_i hj
      exact ⟨_, _, rfl, rfl, ⟨hj.1, by omega, by omega⟩, h.done S (by simp only [Rep])⟩
    · exact h.elim
  · exact h.elim
end
end Z

set_option maxHeartbeats 200000
set_option maxRecDepth 512
set_option maxHeartbeats 1000000
/-! Products, comparisons, in, places, slices. -/
namespace Z
open PySem PySem.Spec PyProof.Rows
open L2 (V HO Hp SqL SqT Rd upd upd_same upd_ne ne_of ne_of_none Cx PE PT PS PSs PA PG PI Inv VK TE TA TS TT RelV Vals Dp DpAll)

section
variable {G : Ctx} {lo : Nat} {ms : List Addr} {st : Sto} {H H' : Hp} {X : Cx}

/-! ### products -/
def rRepR : L2.R2 := fun x y H Q => ∃ l k xs, x = .ref l ∧ y = .int k ∧ Rd H l (.lst xs) ∧ -(2 ^ 63) ≤ k ∧ k < 2 ^ 63 ∧ xs.length * k.toNat ≤ PySem.sizeLine ∧
  ∀ p, H p = none → Q (.ref p) (upd H p (.lst (List.replicate k.toNat xs).flatten))
open L2 in
theorem op_repR : L2.OpR X (binaryOp .Mult) rRepR := by
  intro pins s σ H x y v u Q I rx ry h
  obtain ⟨l, k, xs, rfl, rfl, hH, h1, h2, hz, q⟩ := h
  cases rx
  obtain ⟨t, rfl⟩ := ry
  obtain ⟨z, its, n, r, hl, e⟩ := lstRd I hH
  have hlen : its.toArray.size * k.toNat ≤ PySem.sizeLine := by rw [List.size_toArray, ← hl]; exact hz
  have hcap : ¬ its.toArray.size * k.toNat > (2 ^ 63 - 1) / 8 := by
    have : (PySem.sizeLine : Nat) ≤ (2 ^ 63 - 1) / 8 := by decide
    omega
  have hfit : ¬ (!Builtin.List.listFitsIndex k) = true := by
    rw [fitsIndex_both h1 h2]
    exact Bool.false_ne_true
  have hlong : ¬ Builtin.List.listTooLong (its.toArray.size * k.toNat) = true := by
    rw [notLongL hlen]
    exact Bool.false_ne_true
  have hnew : List.foldl (fun x1 x2 => x1 ++ x2) #[] (List.replicate (if its.toArray.isEmpty = true then 0 else k.toNat) its.toArray) = (List.replicate k.toNat its).flatten.toArray := by
    have f0 : ∀ m : Nat, List.foldl (fun x1 x2 => x1 ++ x2) #[] (List.replicate m its.toArray) = (List.replicate m its).flatten.toArray := fun m => by
      have := foldl_rep its m []
      rw [List.nil_append] at this
      exact this
    rw [f0]
    cases its with
    | nil => simp
    | cons a r' => rw [if_neg (by simp)]
  refine wpAny_binaryOp_repeat_ref (T := "list") (U := "int") (by decide) ⟨_, e, rfl⟩ (fun s' => typeIs_int s' k t) noFill_list_mul F.fills_int_mul F.slot_int_rmul repeat_list F.slot_int_index.lookup
    (call_meets F.slot_int_rmul (typeIs_int s k t) F.entry_int_rmul (F.args_int_rmul_2 _ _) (int___rmul___int_list k t l its.toArray n)
      ⟨e, rfl, ⟨_, e, rfl⟩, call_meets F.slot_list_mul ⟨_, e, rfl⟩ F.entry_list_mul (F.args_list_mul_2 _ _) (AutoListH.list___mul___list_int_3 l its.toArray n k t hfit hcap hlong) ⟨e, ?_⟩⟩)
  rw [hnew]
  exact ⟨.ref _, _, I.lnew (t' := s.toks) (r.rep k.toNat) (by rw [PyProof.Rows.lm_len_rep_flat, Nat.mul_comm]; exact hz), rfl, q _ I.fresh⟩

def rMul (K : PySem.W.Frag) : L2.R2 := fun x y H Q => L2.rI L2.CMul (fun i j => .int (i * j)) x y H Q ∨ L2.rRepT K x y H Q ∨ rRepR x y H Q
theorem op_mul : L2.OpR X (binaryOp .Mult) (rMul X.K) := L2.OpR.or L2.op_mul (L2.OpR.or L2.op_repT op_repR)
theorem mul_ok {bx : Bool} : OpF G lo (fMul bx) (rMul G.K) := by
  intro ms st H x y u w Q E hlo S rx ry h
  unfold fMul at h
  split at h
  · simp only [Rep] at rx ry
    subst rx; subst ry
    split at h
    · rename_i hj
      exact .inl ⟨_, _, rfl, rfl, hj, h.done S (by simp only [Rep])⟩
    · exact h.elim
  · simp only [Rep] at rx ry
    subst ry
    obtain ⟨a, vs, rfl, ra, la⟩ := rx
    have e1 := RepL.length _ _ la
    split at h
    · rename_i hj
      refine .inr (.inl ⟨a, _, vs, rfl, rfl, ra.sq, fun z => ?_, hj.1, hj.2.1, by omega, tup_ok S (RepL.rep _ _ la _) h⟩)
      subst z
      rename_i xs k
      cases xs with
      | nil => simp at hj
      | cons _ _ => simp at e1
    · exact h.elim
  · simp only [Rep] at rx ry
    subst ry
    obtain ⟨a, vs, rfl, ra, la⟩ := rx
    have e1 := RepL.length _ _ la
    split at h
    · rename_i hj
      exact .inr (.inr ⟨a, _, vs, rfl, rfl, ra.1, by omega, by omega, by rw [e1, ← line_eq]; exact hj.2.2, mkLst_ok S hlo (RepL.rep _ _ la _) h⟩)
    · exact h.elim
  · exact h.elim

/-! ### comparisons -/
/-- a comparison that comes to a truth -/
def CmF (G : Ctx) (f : PV → PV → Sto → Option Bool) (r : L2.R2) : Prop := ∀ (ms : List Addr) (st : Sto) (H : Hp) (x y : PV) (u w : V) (b : Bool) (Q : VK),
  SOk G ms st H → Rep G ms st H x u → Rep G ms st H y w → f x y st = some b → Q (.bl b) H → r u w H Q
theorem eq_okc : CmF G (cmpV .eq) (L2.rEqD G.K) := by
  intro ms st H x y u w b Q S rx ry h q
  simp only [cmpV] at h
  split at h
  · rename_i hp
    simp only [Bool.and_eq_true] at hp
    cases h
    refine ⟨_, _, dp_res S rx hp.1, dp_res S ry hp.2, shaped_of hp.1, shaped_of hp.2, ?_⟩
    rw [eqv_pd 60 60 _ _ hp.1 hp.2]
    exact q
  · cases h
theorem ne_okc : CmF G (cmpV .ne) (L2.rNeD G.K) := by
  intro ms st H x y u w b Q S rx ry h q
  simp only [cmpV] at h
  split at h
  · rename_i hp
    simp only [Bool.and_eq_true] at hp
    cases h
    refine ⟨_, _, dp_res S rx hp.1, dp_res S ry hp.2, shaped_of hp.1, shaped_of hp.2, ?_⟩
    rw [eqv_pd 60 60 _ _ hp.1 hp.2]
    exact q
  · cases h
theorem ltV_int {x y : PV} {b : Bool} (h : ltV x y = some b) : ∃ i j, x = .int i ∧ y = .int j ∧ b = decide (i < j) := by
  unfold ltV at h
  split at h
  · cases h; exact ⟨_, _, rfl, rfl, rfl⟩
  · cases h
theorem leV_int {x y : PV} {b : Bool} (h : leV x y = some b) : ∃ i j, x = .int i ∧ y = .int j ∧ b = decide (i ≤ j) := by
  unfold leV at h
  split at h
  · cases h; exact ⟨_, _, rfl, rfl, rfl⟩
  · cases h
theorem lt_okc : CmF G (cmpV .lt) (L2.rI0 fun i j => .bl (decide (i < j))) := by
  intro ms st H x y u w b Q S rx ry h q
  obtain ⟨i, j, rfl, rfl, rfl⟩ := ltV_int h
  simp only [Rep] at rx ry
  subst rx; subst ry
  exact ⟨_, _, rfl, rfl, q⟩
theorem le_okc : CmF G (cmpV .le) (L2.rI0 fun i j => .bl (decide (i ≤ j))) := by
  intro ms st H x y u w b Q S rx ry h q
  obtain ⟨i, j, rfl, rfl, rfl⟩ := leV_int h
  simp only [Rep] at rx ry
  subst rx; subst ry
  exact ⟨_, _, rfl, rfl, q⟩
theorem gt_okc : CmF G (cmpV .gt) (L2.rI0 fun i j => .bl (decide (j < i))) := by
  intro ms st H x y u w b Q S rx ry h q
  obtain ⟨i, j, rfl, rfl, rfl⟩ := ltV_int h
  simp only [Rep] at rx ry
  subst rx; subst ry
  exact ⟨_, _, rfl, rfl, q⟩
theorem ge_okc : CmF G (cmpV .ge) (L2.rI0 fun i j => .bl (decide (j ≤ i))) := by
  intro ms st H x y u w b Q S rx ry h q
  obtain ⟨i, j, rfl, rfl, rfl⟩ := leV_int h
  simp only [Rep] at rx ry
  subst rx; subst ry
  exact ⟨_, _, rfl, rfl, q⟩

theorem rep_non {v : PV} {u : V} (S : SOk G ms st H) (r : Rep G ms st H v u) : decide (u = .non) = (match v with | .none => true | _ => false) := by
  cases v with
  | none => simp only [Rep] at r; subst r; rfl
  | bool b => simp only [Rep] at r; subst r; rfl
  | int i => simp only [Rep] at r; subst r; rfl
  | str s => simp only [Rep] at r; subst r; rfl
  | tup xs => simp only [Rep] at r; obtain ⟨a, _, rfl, _⟩ := r; rfl
  | lst xs => simp only [Rep] at r; obtain ⟨a, _, rfl, _⟩ := r; rfl
  | dct t xs => cases t <;> (simp only [Rep] at r; obtain ⟨a, _, rfl, _⟩ := r; rfl)
  | box xs => simp only [Rep] at r; obtain ⟨a, rfl, _⟩ := r; rfl
  | exc xs => simp only [Rep] at r; obtain ⟨a, rfl, _⟩ := r; rfl
  | kls xs => simp only [Rep] at r; obtain ⟨a, rfl, _⟩ := r; rfl
def rIs : L2.R2 := fun x y H Q => (y = .non ∧ Q (.bl (decide (x = .non))) H) ∨ (∃ a b, x = .bl a ∧ y = .bl b ∧ Q (.bl (decide (a = b))) H)
def rIsNot : L2.R2 := fun x y H Q => (y = .non ∧ Q (.bl (!decide (x = .non))) H) ∨ (∃ a b, x = .bl a ∧ y = .bl b ∧ Q (.bl (!decide (a = b))) H)
theorem op_is : L2.OpR X (compareOp .Is) rIs := L2.OpR.or L2.op_isN L2.op_is_bl
theorem op_isNot : L2.OpR X (compareOp .IsNot) rIsNot := L2.OpR.or L2.op_notN L2.op_isnot_bl
theorem is_okc : CmF G (cmpV .is) rIs := by
  intro ms st H x y u w b Q S rx ry h q
  simp only [cmpV, isV] at h
  split at h
  · simp only [Rep] at rx ry
    subst rx; subst ry
    cases h
    exact .inl ⟨rfl, q⟩
  · rename_i hx
    simp only [Rep] at ry
    subst ry
    cases h
    refine .inl ⟨rfl, ?_⟩
    rw [rep_non S rx]
    cases x <;> first | exact q | exact absurd rfl hx
  · simp only [Rep] at rx ry
    subst rx; subst ry
    cases h
    exact .inr ⟨_, _, rfl, rfl, q⟩
  · cases h
theorem isNot_okc : CmF G (cmpV .isNot) rIsNot := by
  intro ms st H x y u w b Q S rx ry h q
  simp only [cmpV, isV] at h
  split at h
  · simp only [Rep] at rx ry
    subst rx; subst ry
    cases h
    exact .inl ⟨rfl, q⟩
  · rename_i hx
    simp only [Rep] at ry
    subst ry
    cases h
    refine .inl ⟨rfl, ?_⟩
    rw [rep_non S rx]
    cases x <;> first | exact q | exact absurd rfl hx
  · simp only [Rep] at rx ry
    subst rx; subst ry
    cases h
    exact .inr ⟨_, _, rfl, rfl, q⟩
  · cases h

/-! ### in -/
def rInDat (K : PySem.W.Frag) (neg : Bool) : L2.R2 := fun x y H Q => ∃ d ds, Dp K H x d ∧ (Dp K H y (.list ds) ∨ Dp K H y (.tuple ds)) ∧ SeqAt.shaped d = true ∧ SeqAt.shaped (.list ds) = true ∧ Q (.bl (if neg then !(ds.any fun z => PyData.eqv z d) else ds.any fun z => PyData.eqv z d)) H
theorem op_inDat (hu : X.A.units + 65 < cLine) : L2.OpR X (compareOp .In) (rInDat X.K false) := by
  intro pins s σ H x y v u Q I rx ry h
  obtain ⟨d, ds, hd, he, sd, se, q⟩ := h
  obtain ⟨as, r1⟩ := Dp.reads I d x v hd rx
  rcases he with he | he
  · obtain ⟨bs, r2⟩ := Dp.reads I (.list ds) y u he ry
    exact SeqAt.in_list_reads r2 r1 (SeqAt.canLay_of_shaped se) (SeqAt.canLay_of_shaped sd) (room_in_shaped sd hu) ⟨.bl _, H, I, rfl, q⟩
  · obtain ⟨bs, r2⟩ := Dp.reads I (.tuple ds) y u he ry
    exact SeqAt.in_tuple_reads r2 r1 (SeqAt.canLay_of_shaped se) (SeqAt.canLay_of_shaped sd) (room_in_shaped sd hu) ⟨.bl _, H, I, rfl, q⟩
theorem op_notInDat (hu : X.A.units + 65 < cLine) : L2.OpR X (compareOp .NotIn) (rInDat X.K true) := by
  intro pins s σ H x y v u Q I rx ry h
  obtain ⟨d, ds, hd, he, sd, se, q⟩ := h
  obtain ⟨as, r1⟩ := Dp.reads I d x v hd rx
  rcases he with he | he
  · obtain ⟨bs, r2⟩ := Dp.reads I (.list ds) y u he ry
    exact SeqAt.notIn_list_reads r2 r1 (SeqAt.canLay_of_shaped se) (SeqAt.canLay_of_shaped sd) (room_in_shaped sd hu) ⟨.bl _, H, I, rfl, q⟩
  · obtain ⟨bs, r2⟩ := Dp.reads I (.tuple ds) y u he ry
    exact SeqAt.notIn_tuple_reads r2 r1 (SeqAt.canLay_of_shaped se) (SeqAt.canLay_of_shaped sd) (room_in_shaped sd hu) ⟨.bl _, H, I, rfl, q⟩
def rInDct (neg : Bool) : L2.R2 := fun y x H Q => ∃ a o, x = .ref a ∧ L2.DGet H a y o ∧ Q (.bl (if neg then !o.isSome else o.isSome)) H
theorem op_inDct (hu : X.A.units + 1 < cLine) : L2.OpR X (compareOp .In) (rInDct false) := by
  intro pins s σ H y x iv u Q I ry rx h
  obtain ⟨a, o, rfl, g, q⟩ := h
  cases rx
  exact L2.d_in hu I g ry fun s' I' => ⟨.bl o.isSome, H, I', rfl, q⟩
def rInChr (neg : Bool) : L2.R2 := fun x y H Q => ∃ (c : Nat) (z : Str), x = .str ⟨#[c]⟩ ∧ y = .str z ∧ Q (.bl (if neg then !decide (c ∈ z.cps.toList) else decide (c ∈ z.cps.toList))) H
def rIn (K : PySem.W.Frag) (neg : Bool) : L2.R2 := fun x y H Q => rInChr neg x y H Q ∨ rInDct neg x y H Q ∨ rInDat K neg x y H Q
end
end Z

set_option maxHeartbeats 200000
set_option maxRecDepth 512
set_option maxHeartbeats 1000000
/-! Dicts, in, places, slices. -/
namespace Z
open PySem PySem.Spec PyProof.Rows
open L2 (V HO Hp SqL SqT Rd upd upd_same upd_ne ne_of ne_of_none Cx PE PT PS PSs PA PG PI Inv VK TE TA TS TT RelV Vals Dp DpAll)

section
variable {G : Ctx} {lo : Nat} {ms : List Addr} {st : Sto} {H H' : Hp} {X : Cx}

theorem keyR_inj {a b : KA} (h : keyR a = keyR b) : a = b := by
  cases a <;> cases b <;> simp only [keyR, Sum.inl.injEq, Sum.inr.injEq, reduceCtorEq] at h
  · rw [h]
  · rw [toS_inj h]
theorem keysR_inj : ∀ {a b : List KA}, a.map keyR = b.map keyR → a = b := fun h => (List.map_inj_right fun _ _ q => keyR_inj q).mp h
theorem kV_keyR (k : KA) : L2.kV (keyR k) = (match k with | .i n => V.int n | .s t => V.str (toS t)) := by cases k <;> rfl
theorem valV_cons {κ : Type} [DecidableEq κ] (k' k : κ) (v : V) (r : List (κ × V)) : L2.valV ((k', v) :: r) k = if k' = k then some v else L2.valV r k := by
  unfold L2.valV
  by_cases h : k' = k
  · simp [h]
  · simp [List.find?_cons, h]
theorem dget_cons (k' k : DK) (v : PV) (r : List (DK × PV)) : dget ((k', v) :: r) k = if k' = k then some v else dget r k := by
  unfold dget
  by_cases h : k' = k
  · simp [h]
  · simp [List.find?_cons, h]
def RelP (G : Ctx) (ms : List Addr) (st : Sto) (H : Hp) (o : Option PV) (v : Option V) : Prop := match o, v with
  | some d, some u => Rep G ms st H d u
  | none, none => True
  | _, _ => False
theorem RelP.isSome {o : Option PV} {v : Option V} (h : RelP G ms st H o v) : v.isSome = o.isSome := by
  cases o <;> cases v <;> simp_all [RelP]
theorem getK (k : KA) : ∀ (kvs : List (DK × PV)) (l : List (L2.Key × V)), RepK G ms st H kvs l → RelP G ms st H (dget kvs (.a k)) (L2.valV l (keyR k))
  | [], l, h => by simp only [RepK] at h; subst h; trivial
  | (k', d) :: r, l, h => by
    simp only [RepK] at h
    obtain ⟨ka, v, l', rfl, rfl, h1, h2⟩ := h
    rw [dget_cons, valV_cons]
    by_cases e : ka = k
    · subst e; rw [if_pos rfl, if_pos rfl]; exact h1
    · rw [if_neg (fun q => e (DK.a.inj q)), if_neg (fun q => e (keyR_inj q))]
      exact getK k r l' h2
theorem getT (k : List KA) : ∀ (kvs : List (DK × PV)) (l : List (List L2.Key × V)), RepT G ms st H kvs l → RelP G ms st H (dget kvs (.t k)) (L2.valV l (k.map keyR))
  | [], l, h => by simp only [RepT] at h; subst h; trivial
  | (k', d) :: r, l, h => by
    simp only [RepT] at h
    obtain ⟨ka, v, l', rfl, rfl, h1, h2⟩ := h
    rw [dget_cons, valV_cons]
    by_cases e : ka = k
    · subst e; rw [if_pos rfl, if_pos rfl]; exact h1
    · rw [if_neg (fun q => e (DK.t.inj q)), if_neg (fun q => e (keysR_inj q))]
      exact getT k r l' h2
theorem getK_t (k : List KA) : ∀ (kvs : List (DK × PV)) (l : List (L2.Key × V)), RepK G ms st H kvs l → dget kvs (.t k) = none
  | [], l, h => rfl
  | (k', d) :: r, l, h => by
    simp only [RepK] at h
    obtain ⟨ka, v, l', rfl, rfl, h1, h2⟩ := h
    rw [dget_cons, if_neg (by simp)]
    exact getK_t k r l' h2
theorem getT_a (k : KA) : ∀ (kvs : List (DK × PV)) (l : List (List L2.Key × V)), RepT G ms st H kvs l → dget kvs (.a k) = none
  | [], l, h => rfl
  | (k', d) :: r, l, h => by
    simp only [RepT] at h
    obtain ⟨ka, v, l', rfl, rfl, h1, h2⟩ := h
    rw [dget_cons, if_neg (by simp)]
    exact getT_a k r l' h2
theorem any_dget (k : DK) : ∀ kvs : List (DK × PV), (kvs.any fun p => decide (p.1 = k)) = (dget kvs k).isSome
  | [] => rfl
  | (k', d) :: r => by
    rw [List.any_cons, any_dget k r, dget_cons]
    by_cases h : k' = k <;> simp [h]

/-- what stands as a dict -/
def DAt (G : Ctx) (ms : List Addr) (st : Sto) (H : Hp) (a : Addr) (t : Bool) (kvs : List (DK × PV)) : Prop := match t with
  | false => ∃ l, Rd H a (.dK l) ∧ RepK G ms st H kvs l
  | true => ∃ l, Rd H a (.dT l) ∧ RepT G ms st H kvs l
theorem dctOf_ok (S : SOk G ms st H) {d : PV} {v : V} {t : Bool} {kvs : List (DK × PV)} (r : Rep G ms st H d v) (h : dctOf st d = some (t, kvs)) : ∃ a, v = .ref a ∧ DAt G ms st H a t kvs := by
  cases d with
  | dct t' ys =>
    simp only [dctOf, Option.some.injEq, Prod.mk.injEq] at h
    obtain ⟨rfl, rfl⟩ := h
    cases t' <;> (simp only [Rep] at r; obtain ⟨a, l, e1, e2, e3, e4⟩ := r; exact ⟨a, e1, l, e3, e4⟩)
  | box i =>
    simp only [Rep] at r
    obtain ⟨a, e1, e2⟩ := r
    simp only [dctOf] at h
    split at h
    · rename_i t' ys hi
      simp only [Option.some.injEq, Prod.mk.injEq] at h
      obtain ⟨rfl, rfl⟩ := h
      have q := S.obj i _ a hi e2
      cases t' <;> (obtain ⟨l, e3, e4⟩ := q; exact ⟨a, e1, l, .inl e3, e4⟩)
    · cases h
  | _ => simp [dctOf] at h
theorem atoms_ok : ∀ (xs : List PV) (ks : List KA) (vs : List V), keyOf.atoms xs = some ks → RepL G ms st H xs vs → vs = (ks.map keyR).map L2.kV
  | [], ks, vs, h, r => by
    simp only [keyOf.atoms, Option.some.injEq] at h
    simp only [RepL] at r
    subst h; subst r; rfl
  | x :: xs, ks, vs, h, r => by
    simp only [RepL] at r
    obtain ⟨v, r', rfl, h1, h2⟩ := r
    cases x with
    | int i =>
      simp only [keyOf.atoms, Option.map_eq_some_iff] at h
      obtain ⟨ks', e, rfl⟩ := h
      simp only [Rep] at h1
      subst h1
      rw [atoms_ok xs ks' r' e h2]
      rfl
    | str s =>
      simp only [keyOf.atoms, Option.map_eq_some_iff] at h
      obtain ⟨ks', e, rfl⟩ := h
      simp only [Rep] at h1
      subst h1
      rw [atoms_ok xs ks' r' e h2]
      rfl
    | _ => simp [keyOf.atoms] at h
/-- a key that a tuple is stands in the heap, or is the module's -/
theorem keyOf_cases (S : SOk G ms st H) {d : PV} {v : V} {k : DK} (r : Rep G ms st H d v) (h : keyOf d = some k) : (∃ a, k = .a a ∧ v = L2.kV (keyR a)) ∨ ∃ ks b, k = .t ks ∧ v = .ref b ∧ FT G.K H b ((ks.map keyR).map L2.kV) := by
  cases d with
  | int i =>
    simp only [keyOf, Option.some.injEq] at h
    simp only [Rep] at r
    subst h; subst r
    exact .inl ⟨_, rfl, rfl⟩
  | str s =>
    simp only [keyOf, Option.some.injEq] at h
    simp only [Rep] at r
    subst h; subst r
    exact .inl ⟨_, rfl, rfl⟩
  | tup xs =>
    simp only [keyOf, Option.map_eq_some_iff] at h
    obtain ⟨ks, e, rfl⟩ := h
    simp only [Rep] at r
    obtain ⟨a, vs, rfl, e2, e3⟩ := r
    rw [atoms_ok xs ks vs e e3] at e2
    exact .inr ⟨ks, a, rfl, rfl, e2⟩
  | _ => simp [keyOf] at h

/-- a look-up -/
theorem dget_ok (S : SOk G ms st H) {a : Addr} {t : Bool} {kvs : List (DK × PV)} {d : PV} {v : V} {k : DK} (D : DAt G ms st H a t kvs) (r : Rep G ms st H d v) (h : keyOf d = some k) (ht : isT k = t) :
    ∃ o, L2.DGet H a v o ∧ RelP G ms st H (dget kvs k) o := by
  rcases keyOf_cases S r h with ⟨ka, rfl, rfl⟩ | ⟨ks, b, rfl, rfl, f⟩
  · subst ht
    obtain ⟨l, d1, d2⟩ := D
    exact ⟨_, .inl ⟨l, _, d1, rfl, rfl⟩, getK ka kvs l d2⟩
  · subst ht
    obtain ⟨l, d1, d2⟩ := D
    exact ⟨_, .inr ⟨l, _, b, d1, rfl, f, rfl⟩, getT ks kvs l d2⟩

/-! ### in -/
theorem plainLst {n : Nat} {xs : List PV} (h : plainL n xs = true) : plain (n + 1) (.lst xs) = true := by simpa only [plain] using h
theorem any_pd {d : PV} (hd : plain 60 d = true) : ∀ xs : List PV, plainL 59 xs = true → ((toPDs xs).any fun z => PyData.eqv z (toPD d)) = xs.any fun y => eqv y d
  | [], _ => rfl
  | x :: xs, h => by
    simp only [plainL, Bool.and_eq_true] at h
    simp only [toPDs, List.any_cons]
    rw [eqv_pd 59 60 x d h.1 hd, any_pd hd xs h.2]
theorem in_ok (neg : Bool) (ms : List Addr) (st : Sto) (H : Hp) (x y : PV) (u w : V) (b : Bool) (Q : VK) (S : SOk G ms st H) (rx : Rep G ms st H x u) (ry : Rep G ms st H y w)
    (h : inV st x y = some b) (q : Q (.bl (if neg then !b else b)) H) : rIn G.K neg u w H Q := by
  have dat : ∀ ys : List PV, (Dp G.K H w (.list (toPDs ys)) ∨ Dp G.K H w (.tuple (toPDs ys))) → (plain 60 x = true ∧ plainL 59 ys = true) → b = (ys.any fun y => eqv y x) → rIn G.K neg u w H Q := fun ys hy hp hb => by
    refine .inr (.inr ⟨_, _, dp_of S 60 x u hp.1 rx, hy, shaped_of hp.1, ?_, ?_⟩)
    · have := shaped_of (plainLst hp.2)
      simpa only [toPD] using this
    · rw [any_pd hp.1 ys hp.2, ← hb]
      exact q
  unfold inV at h
  split at h
  · rename_i y
    split at h
    · rename_i c
      cases h
      simp only [Rep] at rx ry
      subst rx; subst ry
      refine .inl ⟨c.toNat, _, by simp [toS], rfl, ?_⟩
      rw [toS_cps]
      have e : decide (c.toNat ∈ y.map Char.toNat) = decide (c ∈ y) := by
        apply decide_eq_decide.mpr
        constructor
        · intro hm
          obtain ⟨c', hc, e⟩ := List.mem_map.mp hm
          rw [← char_inj e]
          exact hc
        · exact fun hm => List.mem_map.mpr ⟨c, hm, rfl⟩
      rw [e]
      exact q
    · cases h
  · split at h
    · rename_i t kvs hr
      cases t with
      | true => simp at h
      | false =>
        have hd : dctOf st y = some (false, kvs) := by
          cases y with
          | dct t' ys =>
            simp only [res, PV.dct.injEq] at hr
            obtain ⟨rfl, rfl⟩ := hr
            rfl
          | box i =>
            simp only [res] at hr
            split at hr
            · cases hr
            · rename_i hi
              cases hr
              simp only [dctOf, hi]
            · cases hr
          | _ => simp [res] at hr
        obtain ⟨a, rfl, D⟩ := dctOf_ok S ry hd
        simp only [Bool.false_eq_true, if_false] at h
        unfold inD at h
        split at h
        · cases h
          obtain ⟨o, g, ro⟩ := dget_ok S D rx (k := .a (.s _)) rfl rfl
          refine .inr (.inl ⟨a, o, rfl, g, ?_⟩)
          rw [ro.isSome, ← any_dget]
          exact q
        · cases h
          obtain ⟨o, g, ro⟩ := dget_ok S D rx (k := .a (.i _)) rfl rfl
          refine .inr (.inl ⟨a, o, rfl, g, ?_⟩)
          rw [ro.isSome, ← any_dget]
          exact q
        · cases h
    · rename_i ys hr
      split at h
      · rename_i hp
        cases h
        refine dat ys (.inl ?_) hp rfl
        have := dp_res S ry (by rw [hr]; exact plainLst hp.2)
        rw [hr] at this
        simpa only [toPD] using this
      · cases h
    · rename_i ys hr
      split at h
      · rename_i hp
        cases h
        refine dat ys (.inr ?_) hp rfl
        have e : plain 60 (PV.tup ys) = true := by simpa only [plain] using hp.2
        have := dp_res S ry (by rw [hr]; exact e)
        rw [hr] at this
        simpa only [toPD] using this
      · cases h
    · cases h
theorem op_in (hu : X.A.units + 65 < cLine) : L2.OpR X (compareOp .In) (rIn X.K false) := L2.OpR.or L2.op_in_sign (L2.OpR.or (op_inDct (by omega)) (op_inDat hu))
theorem op_notInDct (hu : X.A.units + 1 < cLine) : L2.OpR X (compareOp .NotIn) (rInDct true) := by
  intro pins s σ H y x iv u Q I ry rx h
  obtain ⟨a, o, rfl, g, q⟩ := h
  cases rx
  exact L2.d_notIn hu I g ry fun s' I' => ⟨.bl (!o.isSome), H, I', rfl, q⟩
theorem op_notIn (hu : X.A.units + 65 < cLine) : L2.OpR X (compareOp .NotIn) (rIn X.K true) := L2.OpR.or L2.op_notIn_sign (L2.OpR.or (op_notInDct (by omega)) (op_notInDat hu))
theorem in_okc : CmF G (cmpV .isIn) (rIn G.K false) := fun ms st H x y u w b Q S rx ry h q => in_ok false ms st H x y u w b Q S rx ry h q
theorem notIn_okc : CmF G (cmpV .notIn) (rIn G.K true) := fun ms st H x y u w b Q S rx ry h q => by
  simp only [cmpV, Option.map_eq_some_iff] at h
  obtain ⟨b', h, rfl⟩ := h
  exact in_ok true ms st H x y u w b' Q S rx ry h q
end
end Z

set_option maxHeartbeats 200000
set_option maxRecDepth 512
set_option maxHeartbeats 1000000
/-! Places, slices. -/
namespace Z
open PySem PySem.Spec PyProof.Rows
open L2 (V HO Hp SqL SqT Rd upd upd_same upd_ne ne_of ne_of_none Cx PE PT PS PSs PA PG PI Inv VK TE TA TS TT RelV Vals Dp DpAll)

section
variable {G : Ctx} {lo : Nat} {ms : List Addr} {st : Sto} {H H' : Hp} {X : Cx}

def rIxDct : L2.R2 := fun x y H Q => ∃ a v, x = .ref a ∧ L2.DGet H a y (some v) ∧ Q v H
theorem ix_dct (hu : X.A.units + 1 < cLine) : L2.IxR X rIxDct := by
  intro value slice pins s σ H x y v u Q I rx ry h hs
  obtain ⟨a, w, rfl, g, q⟩ := h
  obtain rfl : v = Value.ref a := rx
  exact tail_any (L2.dict_typeIs I g) PySem.F.slot_dict_getitem.lookup (L2.d_getItem hu I g ry fun w' s' I' r => ⟨w, H, I', r, q⟩) hs
def rIx (K : PySem.W.Frag) : L2.R2 := fun x y H Q => L2.rIx K x y H Q ∨ rIxDct x y H Q
theorem op_ix (hu : X.A.units + 1 < cLine) : L2.IxR X (rIx X.K) := L2.IxR.or L2.ix_seq (ix_dct hu)
theorem RepL.at {xs : List PV} {vs : List V} {k : Int} {x : PV} (r : RepL G ms st H xs vs) (h : atI xs k = some x) : ∃ v, L2.atI vs k = some v ∧ Rep G ms st H x v := by
  unfold atI L2.atI at h
  unfold L2.atI
  rw [RepL.length _ _ r]
  obtain ⟨j, e1, e2⟩ := Option.bind_eq_some_iff.mp h
  rw [e1]
  exact RepL.get _ _ j x r e2
theorem atI_map {α β : Type} (f : α → β) (xs : List α) (k : Int) : L2.atI (xs.map f) k = (L2.atI xs k).map f := by
  unfold L2.atI
  rw [List.length_map]
  cases L2.ixN xs.length k with
  | none => rfl
  | some j => simp
theorem idx_ok : OpF G lo idxf (rIx G.K) := by
  intro ms st H x y u w Q E hlo S rx ry h
  unfold idxf at h
  split at h
  · split at h
    · simp only [Rep] at rx ry
      subst rx; subst ry
      split at h
      · rename_i hz
        split at h
        · rename_i c hc
          refine .inl (.inr (.inr ⟨_, _, c.toNat, rfl, rfl, by rw [toS_len, ← line_eq]; exact hz, ?_, ?_⟩))
          · rw [toS_cps, atI_map, show L2.atI _ _ = _ from hc]; rfl
          · have := h.done S (u := .str (toS [c])) (by simp only [Rep])
            simpa [toS] using this
        · exact h.elim
      · exact h.elim
    · exact h.elim
  · split at h
    · rename_i kvs hd
      obtain ⟨t, kvs⟩ := kvs
      split at h
      · rename_i k hk
        split at h
        · rename_i ht
          obtain ⟨a, rfl, D⟩ := dctOf_ok S rx hd
          obtain ⟨o, g, ro⟩ := dget_ok S D ry hk ht
          simp only at h
          cases e : dget kvs k with
          | none => rw [e] at h; exact h.elim
          | some d =>
            rw [e] at h ro
            cases o with
            | none => exact ro.elim
            | some v => exact .inr ⟨a, v, rfl, g, h.done S ro⟩
        · exact h.elim
      · exact h.elim
    · split at h
      · rename_i xs hx
        split at h
        · rename_i k
          simp only [Rep] at ry
          subst ry
          cases e : atI xs k with
          | none => rw [e] at h; exact h.elim
          | some d =>
            rw [e] at h
            obtain ⟨a, vs, rfl, hs, rl⟩ := seqOf_ok S rx hx
            obtain ⟨v, ev, rv⟩ := rl.at e
            have q := h.done S rv
            rcases hs with hs | hs
            · exact .inl (.inl ⟨a, vs, k, v, rfl, rfl, hs, ev, q⟩)
            · exact .inl (.inr (.inl ⟨a, vs, k, v, rfl, rfl, hs, ev, q⟩))
        · exact h.elim
      · exact h.elim

/-! ### slices -/
def rSl (K : PySem.W.Frag) : V → Option Int → Option Int → Hp → VK → Prop := fun x lo hi H Q => L2.rSlL K x lo hi H Q ∨ L2.rSlA K x lo hi H Q ∨ L2.rSlS x lo hi H Q
theorem op_sl : L2.SlR X (rSl X.K) := L2.SlR.or L2.sl_list (L2.SlR.or L2.sl_tupA L2.sl_str)
theorem RepL.cut {xs : List PV} {vs : List V} {a b : Option Int} (r : RepL G ms st H xs vs) : RepL G ms st H (Z.cut xs a b) (L2.cutV vs a b) := by
  unfold Z.cut L2.cutV
  rw [RepL.length _ _ r]
  exact RepL.take _ _ _ (RepL.drop _ _ _ r)
theorem cutS_toS (s : Tx) (a b : Option Int) : L2.cutS (toS s) a b = toS (Z.cut s a b) := by
  apply Str.ext'
  apply Array.toList_inj.mp
  rw [toS_cps]
  unfold L2.cutS Z.cut
  simp [toS_len, toS, List.map_take, List.map_drop, Str.length]
theorem slice_ok {bx : Bool} {ms : List Addr} {st : Sto} {H : Hp} {x : PV} {u : V} {a b : Option Int} {Q : VK} {E : Nat → Hp → Prop} (hlo : lo ≤ st.length) (S : SOk G ms st H) (rx : Rep G ms st H x u)
    (h : Res G (Rep G) lo ms st H (slicef bx x a b st) Q E) : rSl G.K u a b H Q := by
  unfold slicef at h
  split at h
  · simp only [Rep] at rx
    subst rx
    split at h
    · rename_i hz
      refine .inr (.inr ⟨_, rfl, by rw [toS_len, ← line_eq]; exact hz, ?_⟩)
      rw [cutS_toS]
      exact h.done S (by simp only [Rep])
    · exact h.elim
  · rename_i xs
    simp only [Rep] at rx
    obtain ⟨p, vs, rfl, e2, e3⟩ := rx
    refine .inr (.inl ⟨p, vs, rfl, e2.sq, fun q => ?_, fun _ => tup_ok S e3.cut h⟩)
    have e1 := RepL.length _ _ e3
    have : Z.cut xs a b = xs := by
      unfold Z.cut
      rw [e1] at q
      rw [q.1, q.2, List.drop_zero, Nat.sub_zero, List.take_length]
    rw [this] at h
    exact h.done S (by simp only [Rep]; exact ⟨p, vs, rfl, e2, e3⟩)
  · split at h
    · rename_i xs hx
      obtain ⟨p, vs, rfl, e2, e3⟩ := lstOf_ok S rx hx
      exact .inl ⟨p, vs, rfl, .inl e2, mkLst_ok S hlo e3.cut h⟩
    · exact h.elim
end
end Z

set_option maxHeartbeats 200000
set_option maxRecDepth 512
set_option maxHeartbeats 1000000
/-! Built-in functions. -/
namespace Z
open PySem PySem.Spec PyProof.Rows
open L2 (V HO Hp SqL SqT Rd upd upd_same upd_ne ne_of ne_of_none Cx PE PT PS PSs PA PG PI Inv VK TE TA TS TT RelV Vals Dp DpAll)

section
variable {G : Ctx} {lo : Nat} {ms : List Addr} {st : Sto} {H H' : Hp} {X : Cx}

abbrev RB := List V → Hp → VK → Prop
def BiF (G : Ctx) (lo : Nat) (f : List PV → Sto → R PV) (r : RB) : Prop := ∀ (ms : List Addr) (st : Sto) (H : Hp) (xs : List PV) (vs : List V) (Q : VK) (E : Nat → Hp → Prop),
  lo ≤ st.length → SOk G ms st H → RepL G ms st H xs vs → Res G (Rep G) lo ms st H (f xs st) Q E → r vs H Q

theorem RepL.one {x : PV} {vs : List V} (h : RepL G ms st H [x] vs) : ∃ v, vs = [v] ∧ Rep G ms st H x v := by
  simp only [RepL] at h
  obtain ⟨v, r, rfl, h1, rfl⟩ := h
  exact ⟨v, rfl, h1⟩
theorem RepL.two {x y : PV} {vs : List V} (h : RepL G ms st H [x, y] vs) : ∃ v w, vs = [v, w] ∧ Rep G ms st H x v ∧ Rep G ms st H y w := by
  simp only [RepL] at h
  obtain ⟨v, r, rfl, h1, w, r', rfl, h2, rfl⟩ := h
  exact ⟨v, w, rfl, h1, h2⟩

/-! ### len -/
theorem call_lenR : L2.CallR X (.builtin "len") (fun xs H Q => ∃ a kvs, xs = [V.ref a] ∧ Rd H a (.dK kvs) ∧ Q (.int kvs.length) H) := by
  intro pins s σ H xs us Q I r h
  obtain ⟨a, kvs, rfl, hH, q⟩ := h
  rw [Vals.ref1 r]
  exact L2.d_len I hH fun t s' I' => ⟨.int kvs.length, H, I', ⟨t, rfl⟩, q⟩
def rLen (K : PySem.W.Frag) : RB := fun xs H Q => (∃ x n, xs = [x] ∧ L2.LenV K x H n ∧ Q (.int n) H) ∨ ∃ a kvs, xs = [V.ref a] ∧ Rd H a (.dK kvs) ∧ Q (.int kvs.length) H
theorem cb_len : L2.CallR X (.builtin "len") (rLen X.K) := L2.CallR.or L2.call_len call_lenR
theorem RepK.length : ∀ {kvs : List (DK × PV)} {l : List (L2.Key × V)}, RepK G ms st H kvs l → l.length = kvs.length
  | [], l, h => by simp only [RepK] at h; subst h; rfl
  | (k, d) :: r, l, h => by
    simp only [RepK] at h
    obtain ⟨ka, v, l', _, rfl, _, h2⟩ := h
    rw [List.length_cons, List.length_cons, RepK.length h2]
theorem len_ok {bx : Bool} : BiF G lo (bfn .len bx) (rLen G.K) := by
  intro ms st H xs vs Q E hlo S r h
  unfold bfn at h
  split at h <;> try (first | (rename_i e; cases e; done) | exact h.elim)
  · obtain ⟨v, rfl, rv⟩ := r.one
    simp only [Rep] at rv
    subst rv
    split at h
    · rename_i s _ hz
      have q := h.done S (u := .int s.length) (by simp only [Rep])
      refine .inl ⟨_, s.length, rfl, ⟨by rw [toS_len, ← line_eq]; exact hz, (toS_len s).symm⟩, q⟩
    · exact h.elim
  · obtain ⟨v, rfl, rv⟩ := r.one
    split at h
    · rename_i ys hy
      obtain ⟨a, ws, rfl, hs, rl⟩ := seqOf_ok S rv hy
      have q := h.done S (u := .int ys.length) (by simp only [Rep])
      have e := RepL.length _ _ rl
      refine .inl ⟨_, ys.length, rfl, ?_, q⟩
      rcases hs with hs | hs
      · exact .inl ⟨ws, hs, e.symm⟩
      · exact .inr ⟨ws, hs, e.symm⟩
    · split at h
      · rename_i kvs hd
        obtain ⟨a, rfl, l, d1, d2⟩ := dctOf_ok S rv hd
        have q := h.done S (u := .int kvs.length) (by simp only [Rep])
        refine .inr ⟨a, l, rfl, d1, ?_⟩
        rw [RepK.length d2]
        exact q
      · exact h.elim

/-! ### list, tuple -/
def rListOf (K : PySem.W.Frag) : RB := fun xs H Q => (∃ p ys, xs = [.ref p] ∧ (SqL K H p ys ∨ SqT K H p ys) ∧ ∀ l, H l = none → Q (.ref l) (upd H l (.lst ys))) ∨
  ((∃ (a : Addr) (kvs : List (L2.Key × V)), xs = [V.ref a] ∧ Rd H a (.dK kvs) ∧ ∀ p, H p = none → Q (.ref p) (upd H p (.lst (kvs.map fun kv => L2.kV kv.1)))) ∨
   ∃ (d : Addr) (kvs : List (List L2.Key × V)), xs = [V.ref d] ∧ Rd H d (.dT kvs) ∧ ∀ p bs, H p = none → L2.IsKeys H kvs bs → Q (.ref p) (upd H p (.lst (bs.map V.ref))))
theorem cr_listOf (hc : X.calm = true) : L2.CallR X (.type "list") (rListOf X.K) := L2.CallR.or L2.call_list_of (L2.CallR.or (L2.call_listD hc) (L2.call_list_dT hc))
theorem rep_ka (k : KA) : Rep G ms st H (kaV k) (L2.kV (keyR k)) := by
  cases k <;> (simp only [kaV, keyR, L2.kV, Rep])
theorem keysK : ∀ (kvs : List (DK × PV)) (l : List (L2.Key × V)), RepK G ms st H kvs l → RepL G ms st H (kvs.map fun p => dkV p.1) (l.map fun kv => L2.kV kv.1)
  | [], l, h => by simp only [RepK] at h; subst h; simp only [List.map_nil, RepL]
  | (k, d) :: r, l, h => by
    simp only [RepK] at h
    obtain ⟨ka, v, l', rfl, rfl, _, h2⟩ := h
    simp only [List.map_cons, RepL]
    exact ⟨_, _, rfl, rep_ka ka, keysK r l' h2⟩
theorem rep_kas : ∀ ks : List KA, RepL G ms st H (ks.map kaV) ((ks.map keyR).map L2.kV)
  | [] => by simp only [List.map_nil, RepL]
  | k :: ks => by
    simp only [List.map_cons, RepL]
    exact ⟨_, _, rfl, rep_ka k, rep_kas ks⟩
theorem keysT : ∀ (kvs : List (DK × PV)) (l : List (List L2.Key × V)) (bs : List Addr), RepT G ms st H kvs l → L2.IsKeys H l bs → RepL G ms st H (kvs.map fun p => dkV p.1) (bs.map V.ref)
  | [], l, bs, h, k => by
    simp only [RepT] at h
    subst h
    cases k
    simp only [List.map_nil, RepL]
  | (k, d) :: r, l, bs, h, q => by
    simp only [RepT] at h
    obtain ⟨ks, v, l', rfl, rfl, _, h2⟩ := h
    cases q with
    | cons q1 q2 =>
      simp only [List.map_cons, RepL]
      refine ⟨_, _, rfl, ?_, keysT r l' _ h2 q2⟩
      simp only [dkV, Rep]
      exact ⟨_, _, rfl, q1, rep_kas ks⟩
theorem listOf_ok {bx : Bool} : BiF G lo (bfn .listOf bx) (rListOf G.K) := by
  intro ms st H xs vs Q E hlo S r h
  unfold bfn at h
  split at h <;> try (first | (rename_i e; cases e; done) | exact h.elim)
  obtain ⟨v, rfl, rv⟩ := r.one
  split at h
  · rename_i ys hy
    obtain ⟨a, ws, rfl, hs, rl⟩ := seqOf_ok S rv hy
    exact .inl ⟨a, ws, rfl, hs, mkLst_ok S hlo rl h⟩
  · split at h
    · rename_i kvs hd
      obtain ⟨t, kvs⟩ := kvs
      obtain ⟨a, rfl, d⟩ := dctOf_ok S rv hd
      cases t with
      | false =>
        obtain ⟨l, d1, d2⟩ := d
        exact .inr (.inl ⟨a, l, rfl, d1, mkLst_ok S hlo (keysK _ _ d2) h⟩)
      | true =>
        obtain ⟨l, d1, d2⟩ := d
        exact .inr (.inr ⟨a, l, rfl, d1, fun p bs hp hk => mkLst_ok S hlo (keysT _ _ _ d2 hk) h p hp⟩)
    · exact h.elim
def rTupleOf (K : PySem.W.Frag) : RB := fun xs H Q => ∃ p ys, xs = [.ref p] ∧ ((SqL K H p ys ∧ ∀ l, H l = none → Q (.ref l) (upd H l (.tup ys))) ∨ (SqT K H p ys ∧ Q (.ref p) H))
theorem tupleOf_ok {bx : Bool} : BiF G lo (bfn .tupleOf bx) (rTupleOf G.K) := by
  intro ms st H xs vs Q E hlo S r h
  unfold bfn at h
  split at h <;> try (first | (rename_i e; cases e; done) | exact h.elim)
  · obtain ⟨v, rfl, rv⟩ := r.one
    simp only [Rep] at rv
    obtain ⟨a, ws, rfl, e2, e3⟩ := rv
    exact ⟨a, ws, rfl, .inr ⟨e2.sq, h.done S (by simp only [Rep]; exact ⟨a, ws, rfl, e2, e3⟩)⟩⟩
  · obtain ⟨v, rfl, rv⟩ := r.one
    split at h
    · rename_i ys hy
      obtain ⟨a, ws, rfl, hs, rl⟩ := lstOf_ok S rv hy
      exact ⟨a, ws, rfl, .inl ⟨.inl hs, tup_ok S rl h⟩⟩
    · exact h.elim

/-! ### sum, all, max, min -/
theorem ints_ok : ∀ (xs : List PV) (ns : List Int) (vs : List V), intsOf xs = some ns → RepL G ms st H xs vs → vs = ns.map V.int
  | [], ns, vs, h, r => by
    simp only [intsOf, Option.some.injEq] at h
    simp only [RepL] at r
    subst h; subst r; rfl
  | x :: xs, ns, vs, h, r => by
    simp only [RepL] at r
    obtain ⟨v, r', rfl, h1, h2⟩ := r
    cases x with
    | int i =>
      simp only [intsOf, Option.map_eq_some_iff] at h
      obtain ⟨ks', e, rfl⟩ := h
      simp only [Rep] at h1
      subst h1
      rw [ints_ok xs ks' r' e h2]
      rfl
    | _ => simp [intsOf] at h
theorem bools_ok : ∀ (xs : List PV) (ns : List Bool) (vs : List V), boolsOf xs = some ns → RepL G ms st H xs vs → vs = ns.map V.bl
  | [], ns, vs, h, r => by
    simp only [boolsOf, Option.some.injEq] at h
    simp only [RepL] at r
    subst h; subst r; rfl
  | x :: xs, ns, vs, h, r => by
    simp only [RepL] at r
    obtain ⟨v, r', rfl, h1, h2⟩ := r
    cases x with
    | bool i =>
      simp only [boolsOf, Option.map_eq_some_iff] at h
      obtain ⟨ks', e, rfl⟩ := h
      simp only [Rep] at h1
      subst h1
      rw [bools_ok xs ks' r' e h2]
      rfl
    | _ => simp [boolsOf] at h
theorem sum_ok {bx : Bool} : BiF G lo (bfn .sum bx) (L2.rSum G.K) := by
  intro ms st H xs vs Q E hlo S r h
  unfold bfn at h
  split at h <;> try (first | (rename_i e; cases e; done) | exact h.elim)
  obtain ⟨v, rfl, rv⟩ := r.one
  split at h
  · rename_i ns hn
    obtain ⟨ys, hy, hn⟩ := Option.bind_eq_some_iff.mp hn
    obtain ⟨a, ws, rfl, hs, rl⟩ := lstOf_ok S rv hy
    have := ints_ok ys ns ws hn rl
    subst this
    exact ⟨a, ns, rfl, .inl hs, h.done S (by simp only [Rep])⟩
  · exact h.elim
theorem all_ok {bx : Bool} : BiF G lo (bfn .all bx) (L2.rAll G.K) := by
  intro ms st H xs vs Q E hlo S r h
  unfold bfn at h
  split at h <;> try (first | (rename_i e; cases e; done) | exact h.elim)
  obtain ⟨v, rfl, rv⟩ := r.one
  split at h
  · rename_i ns hn
    obtain ⟨ys, hy, hn⟩ := Option.bind_eq_some_iff.mp hn
    obtain ⟨a, ws, rfl, hs, rl⟩ := lstOf_ok S rv hy
    have := bools_ok ys ns ws hn rl
    subst this
    exact ⟨a, ns, rfl, .inl hs, h.done S (by simp only [Rep])⟩
  · exact h.elim
theorem maxI_spec : ∀ (l : List Int) (m : Int), maxI m l ∈ m :: l ∧ ∀ y ∈ m :: l, y ≤ maxI m l
  | [], m => by simp [maxI]
  | x :: r, m => by
    simp only [maxI]
    by_cases c : x > m
    · rw [if_pos c]
      have ih := maxI_spec r x
      have h0 := ih.2 x List.mem_cons_self
      refine ⟨List.mem_cons_of_mem _ ih.1, fun y hy => ?_⟩
      rcases List.mem_cons.mp hy with rfl | hy
      · omega
      · exact ih.2 y hy
    · rw [if_neg c]
      have ih := maxI_spec r m
      have h0 := ih.2 m List.mem_cons_self
      refine ⟨?_, fun y hy => ?_⟩
      · rcases List.mem_cons.mp ih.1 with e | e
        · rw [e]; exact List.mem_cons_self
        · exact List.mem_cons_of_mem _ (List.mem_cons_of_mem _ e)
      · rcases List.mem_cons.mp hy with rfl | hy
        · exact h0
        · rcases List.mem_cons.mp hy with rfl | hy
          · omega
          · exact ih.2 y (List.mem_cons_of_mem _ hy)
theorem minI_spec : ∀ (l : List Int) (m : Int), minI m l ∈ m :: l ∧ ∀ y ∈ m :: l, minI m l ≤ y
  | [], m => by simp [minI]
  | x :: r, m => by
    simp only [minI]
    by_cases c : x < m
    · rw [if_pos c]
      have ih := minI_spec r x
      have h0 := ih.2 x List.mem_cons_self
      refine ⟨List.mem_cons_of_mem _ ih.1, fun y hy => ?_⟩
      rcases List.mem_cons.mp hy with rfl | hy
      · omega
      · exact ih.2 y hy
    · rw [if_neg c]
      have ih := minI_spec r m
      have h0 := ih.2 m List.mem_cons_self
      refine ⟨?_, fun y hy => ?_⟩
      · rcases List.mem_cons.mp ih.1 with e | e
        · rw [e]; exact List.mem_cons_self
        · exact List.mem_cons_of_mem _ (List.mem_cons_of_mem _ e)
      · rcases List.mem_cons.mp hy with rfl | hy
        · exact h0
        · rcases List.mem_cons.mp hy with rfl | hy
          · omega
          · exact ih.2 y (List.mem_cons_of_mem _ hy)
theorem max1_ok {bx : Bool} : BiF G lo (bfn .max1 bx) (L2.rMax G.K) := by
  intro ms st H xs vs Q E hlo S r h
  unfold bfn at h
  split at h <;> try (first | (rename_i e; cases e; done) | exact h.elim)
  obtain ⟨v, rfl, rv⟩ := r.one
  split at h
  · rename_i n ns hn
    obtain ⟨ys, hy, hn⟩ := Option.bind_eq_some_iff.mp hn
    obtain ⟨a, ws, rfl, hs, rl⟩ := lstOf_ok S rv hy
    have := ints_ok ys _ ws hn rl
    subst this
    refine ⟨a, n :: ns, rfl, .inl hs, Nat.succ_pos _, fun m h1 h2 => ?_⟩
    have sp := maxI_spec ns n
    obtain rfl : m = maxI n ns := Int.le_antisymm (sp.2 m h1) (h2 _ sp.1)
    exact h.done S (by simp only [Rep])
  · exact h.elim
theorem min1_ok {bx : Bool} : BiF G lo (bfn .min1 bx) (L2.rMin G.K) := by
  intro ms st H xs vs Q E hlo S r h
  unfold bfn at h
  split at h <;> try (first | (rename_i e; cases e; done) | exact h.elim)
  obtain ⟨v, rfl, rv⟩ := r.one
  split at h
  · rename_i n ns hn
    obtain ⟨ys, hy, hn⟩ := Option.bind_eq_some_iff.mp hn
    obtain ⟨a, ws, rfl, hs, rl⟩ := lstOf_ok S rv hy
    have := ints_ok ys _ ws hn rl
    subst this
    refine ⟨a, n :: ns, rfl, .inl hs, Nat.succ_pos _, fun m h1 h2 => ?_⟩
    have sp := minI_spec ns n
    obtain rfl : m = minI n ns := Int.le_antisymm (h2 _ sp.1) (sp.2 m h1)
    exact h.done S (by simp only [Rep])
  · exact h.elim
theorem max2_ok {bx : Bool} : BiF G lo (bfn .max2 bx) (fun xs H Q => ∃ i j, xs = [.int i, .int j] ∧ Q (.int (if j > i then j else i)) H) := by
  intro ms st H xs vs Q E hlo S r h
  unfold bfn at h
  split at h <;> try (first | (rename_i e; cases e; done) | exact h.elim)
  obtain ⟨v, w, rfl, rv, rw'⟩ := r.two
  simp only [Rep] at rv rw'
  subst rv; subst rw'
  exact ⟨_, _, rfl, h.done S (by simp only [Rep])⟩
theorem min2_ok {bx : Bool} : BiF G lo (bfn .min2 bx) (fun xs H Q => ∃ i j, xs = [.int i, .int j] ∧ Q (.int (if j < i then j else i)) H) := by
  intro ms st H xs vs Q E hlo S r h
  unfold bfn at h
  split at h <;> try (first | (rename_i e; cases e; done) | exact h.elim)
  obtain ⟨v, w, rfl, rv, rw'⟩ := r.two
  simp only [Rep] at rv rw'
  subst rv; subst rw'
  exact ⟨_, _, rfl, h.done S (by simp only [Rep])⟩
theorem abs_ok {bx : Bool} : BiF G lo (bfn .abs bx) (fun xs H Q => ∃ i, xs = [.int i] ∧ Q (.int (if i < 0 then -i else i)) H) := by
  intro ms st H xs vs Q E hlo S r h
  unfold bfn at h
  split at h <;> try (first | (rename_i e; cases e; done) | exact h.elim)
  obtain ⟨v, rfl, rv⟩ := r.one
  simp only [Rep] at rv
  subst rv
  exact ⟨_, rfl, h.done S (by simp only [Rep])⟩
theorem int_ok {bx : Bool} : BiF G lo (bfn .int bx) (fun xs H Q => (∃ i, xs = [.int i] ∧ Q (.int i) H) ∨ ∃ k, xs = [.bl k] ∧ Q (.int (if k then 1 else 0)) H) := by
  intro ms st H xs vs Q E hlo S r h
  unfold bfn at h
  split at h <;> try (first | (rename_i e; cases e; done) | exact h.elim)
  · obtain ⟨v, rfl, rv⟩ := r.one
    simp only [Rep] at rv
    subst rv
    exact .inl ⟨_, rfl, h.done S (by simp only [Rep])⟩
  · obtain ⟨v, rfl, rv⟩ := r.one
    simp only [Rep] at rv
    subst rv
    exact .inr ⟨_, rfl, h.done S (by simp only [Rep])⟩
end
end Z

set_option maxHeartbeats 200000
set_option maxRecDepth 512
set_option maxHeartbeats 1000000
/-! sorted: of lists of whole numbers, of texts, of tuples of these. -/
namespace Z
open PySem PySem.Spec PyProof.Rows
open L2 (V HO Hp SqL SqT Rd upd upd_same upd_ne ne_of ne_of_none Cx PE PT PS PSs PA PG PI Inv VK TE TA TS TT RelV Vals Dp DpAll)

/-! ### the order -/
theorem like_pd_aux : True := trivial
mutual
theorem like_pd : ∀ (a b : PV), likeP a b = true → PySem.W.alike (toPD a) (toPD b) = true
  | .int i, b, h => by cases b <;> simp [likeP] at h <;> simp [toPD, PySem.W.alike]
  | .str i, b, h => by cases b <;> simp [likeP] at h <;> simp [toPD, PySem.W.alike]
  | .tup xs, b, h => by
    cases b with
    | tup ys =>
      simp only [likeP] at h
      simp only [toPD, PySem.W.alike]
      exact likes_pd xs ys h
    | _ => simp [likeP] at h
  | .none, b, h => by cases b <;> simp [likeP] at h
  | .bool _, b, h => by cases b <;> simp [likeP] at h
  | .lst _, b, h => by cases b <;> simp [likeP] at h
  | .dct _ _, b, h => by cases b <;> simp [likeP] at h
  | .box _, b, h => by cases b <;> simp [likeP] at h
  | .exc _, b, h => by cases b <;> simp [likeP] at h
  | .kls _, b, h => by cases b <;> simp [likeP] at h
theorem likes_pd : ∀ (xs ys : List PV), likePs xs ys = true → PySem.W.alikeAll (toPDs xs) (toPDs ys) = true
  | [], ys, _ => by simp [toPDs, PySem.W.alikeAll]
  | x :: xs, [], _ => by simp [toPDs, PySem.W.alikeAll]
  | x :: xs, y :: ys, h => by
    simp only [likePs, Bool.and_eq_true] at h
    simp only [toPDs, PySem.W.alikeAll, like_pd x y h.1, likes_pd xs ys h.2, Bool.and_self]
end
mutual
theorem lt_pd : ∀ (n m : Nat) (a b : PV), plain n a = true → plain m b = true → likeP a b = true → PySem.W.dataLt (toPD a) (toPD b) = ltP a b
  | n, m, .int i, b, _, _, h => by
    cases b <;> simp [likeP] at h
    simp only [toPD, ltP]
    exact PySem.W.dataLt_int _ _
  | n, m, .str i, b, _, _, h => by
    cases b <;> simp [likeP] at h
    simp only [toPD, ltP, ltTx]
    rw [PySem.W.dataLt_str, toS_cps, toS_cps]
  | n, m, .tup xs, b, p, q, h => by
    cases b with
    | tup ys =>
      cases n with
      | zero => simp [plain] at p
      | succ n =>
        cases m with
        | zero => simp [plain] at q
        | succ m =>
          simp only [likeP] at h
          simp only [plain] at p q
          simp only [toPD, ltP]
          rw [PySem.W.dataLt_tuple]
          exact lts_pd n m xs ys p q h
    | _ => simp [likeP] at h
  | _, _, .none, b, _, _, h => by cases b <;> simp [likeP] at h
  | _, _, .bool _, b, _, _, h => by cases b <;> simp [likeP] at h
  | _, _, .lst _, b, _, _, h => by cases b <;> simp [likeP] at h
  | _, _, .dct _ _, b, _, _, h => by cases b <;> simp [likeP] at h
  | _, _, .box _, b, _, _, h => by cases b <;> simp [likeP] at h
  | _, _, .exc _, b, _, _, h => by cases b <;> simp [likeP] at h
  | _, _, .kls _, b, _, _, h => by cases b <;> simp [likeP] at h
theorem lts_pd : ∀ (n m : Nat) (xs ys : List PV), plainL n xs = true → plainL m ys = true → likePs xs ys = true → PyProof.Rows.lexLt PyProof.Rows.itemOrd (PySem.W.keyToksAll (toPDs xs)) (PySem.W.keyToksAll (toPDs ys)) = ltPs xs ys
  | n, m, [], [], _, _, _ => by simp only [ltPs]; exact PyProof.Rows.lex_irrefl _
  | n, m, [], y :: ys, _, _, _ => by simp [toPDs, ltPs, PySem.W.keyToksAll]; rfl
  | n, m, x :: xs, [], _, _, _ => by simp [toPDs, ltPs, PySem.W.keyToksAll]; rfl
  | n, m, x :: xs, y :: ys, p, q, h => by
    simp only [likePs, Bool.and_eq_true] at h
    simp only [plainL, Bool.and_eq_true] at p q
    simp only [toPDs, ltPs]
    have e := eqv_pd n m x y p.1 q.1
    cases he : eqv x y with
    | true =>
      rw [PySem.W.dataLt_all_yes (like_pd x y h.1) (e.trans he), if_pos rfl]
      exact lts_pd n m xs ys p.2 q.2 h.2
    | false =>
      rw [PySem.W.dataLt_all_no (like_pd x y h.1) (e.trans he), if_neg (by simp)]
      exact lt_pd n m x y p.1 q.1 h.1
end


/-! ### the call -/
open PySem.W (EachIs AllAlike Sortable dataLe sorted_data alike)
def rSortedD (K : PySem.W.Frag) : RB := fun vs H Q => ∃ (a : Addr) (bs : List (V × PyData)), vs = [V.ref a] ∧ SqL K H a (bs.map (·.1)) ∧ (∀ b ∈ bs, Dp K H b.1 b.2) ∧ AllAlike (bs.map (·.2)) ∧ Sortable (bs.map (·.2)) ∧ (∀ b ∈ bs, b.2.depth ≤ 60) ∧
  ∀ p, H p = none → Q (.ref p) (upd H p (.lst ((bs.mergeSort (dataLe false (·.2))).map (·.1))))
theorem each_vals {K : PySem.W.Frag} {R : Value → V × PyData → Prop} : ∀ {bs : List (V × PyData)} {its : List Value}, Vals (bs.map (·.1)) its → (∀ b ∈ bs, ∀ u, RelV b.1 u → R u b) → EachIs R its bs
  | [], its, h, _ => by cases h; exact .nil
  | b :: bs, its, h, k => by
    cases h with
    | cons h1 h2 => exact .cons (k b List.mem_cons_self _ h1) (each_vals (K := K) h2 fun b' hb => k b' (List.mem_cons_of_mem _ hb))
theorem vals_each : ∀ {bs : List (V × PyData)} {its : List Value}, EachIs (fun u b => RelV b.1 u) its bs → Vals (bs.map (·.1)) its
  | [], its, h => by cases h; exact .nil
  | b :: bs, its, h => by
    cases h with
    | cons h1 h2 => exact .cons h1 (vals_each h2)
section
variable {X : Cx}
theorem cr_sortedD (hu : X.A.units + 70 < cLine) : L2.CallR X (.builtin "sorted") (rSortedD X.K) := by
  intro pins s σ H vs us Q I r h
  obtain ⟨a, bs, rfl, hs, hd, hal, hk, hdep, q⟩ := h
  obtain ⟨its, rv, hl, hz⟩ := I.list hs
  obtain ⟨u, rfl, ru⟩ := L2.vals1 r
  obtain rfl : u = Value.ref a := ru
  have hz' : bs.length ≤ PySem.sizeLine := by simpa using hz
  refine sorted_data (R := fun u (b : V × PyData) => RelV b.1 u) (bs := bs) (enc := fun b => b.2) hl.isList (each_vals (K := X.K) rv fun b hb u hr => hr) (each_vals (K := X.K) rv fun b hb u hr => Dp.reads I b.2 b.1 u (hd b hb) hr) hal hk hz'
    (fun b hb => by have := hdep b hb; omega) fun out ho eo => ?_
  have vo := vals_each eo
  have kp : ∀ b o, s.heap.get? b = some o → (sortedAll s.heap its out.toArray).get? b = some o := fun b o e => sortedAll_old e
  obtain ⟨n, hn⟩ := sortedAll_at s.heap its out.toArray
  refine ⟨.ref (s.heap.objs.size + 1), upd H (s.heap.objs.size + 1) (.lst ((bs.mergeSort (dataLe false (·.2))).map (·.1))), I.laid (t' := s.toks) kp (Nat.le_succ _) ⟨?_, out, n, vo, hn⟩, rfl, q _ (I.hok.fresh (Nat.le_succ _))⟩
  rw [List.length_map, List.length_mergeSort]
  exact hz'
end

section
variable {G : Ctx} {lo : Nat} {ms : List Addr} {st : Sto} {H H' : Hp}
/-- the pairs of trees and values of a list -/
theorem RepL.zip : ∀ {xs : List PV} {vs : List V}, RepL G ms st H xs vs → (∀ p ∈ xs.zip vs, Rep G ms st H p.1 p.2) ∧ (xs.zip vs).map (·.1) = xs ∧ (xs.zip vs).map (·.2) = vs
  | [], vs, h => by
    simp only [RepL] at h
    subst h
    exact ⟨fun p hp => by simp at hp, rfl, rfl⟩
  | x :: xs, vs, h => by
    simp only [RepL] at h
    obtain ⟨v, r, rfl, h1, h2⟩ := h
    obtain ⟨i1, i2, i3⟩ := RepL.zip h2
    refine ⟨fun p hp => ?_, by simp [i2], by simp [i3]⟩
    rcases List.mem_cons.mp hp with rfl | hp
    · exact h1
    · exact i1 p hp
theorem RepL.unzip : ∀ {ps : List (PV × V)}, (∀ p ∈ ps, Rep G ms st H p.1 p.2) → RepL G ms st H (ps.map (·.1)) (ps.map (·.2))
  | [], _ => by simp only [List.map_nil, RepL]
  | p :: ps, h => by
    simp only [List.map_cons, RepL]
    exact ⟨_, _, rfl, h p List.mem_cons_self, RepL.unzip fun q hq => h q (List.mem_cons_of_mem _ hq)⟩
theorem plainL_mem : ∀ {n : Nat} {xs : List PV}, plainL n xs = true → ∀ x ∈ xs, plain n x = true
  | n, [], _, x, h => by simp at h
  | n, y :: ys, p, x, h => by
    simp only [plainL, Bool.and_eq_true] at p
    rcases List.mem_cons.mp h with rfl | h
    · exact p.1
    · exact plainL_mem p.2 x h
theorem okSort_d {xs : List PV} (h : okSort xs = true) : plainL 50 xs = true ∧ (∀ x ∈ xs, ∀ y ∈ xs, likeP x y = true) ∧ ((∀ x ∈ xs, tupNE x = true) ∨ ∀ x ∈ xs, atomP x = true) := by
  simp only [okSort, Bool.and_eq_true, Bool.or_eq_true, List.all_eq_true] at h
  exact ⟨h.1.1.2, h.1.2, h.2⟩
theorem depth_pd (n : Nat) (x : PV) (h : plain n x = true) : (toPD x).depth ≤ n := (lay_of n x h).2
/-- what a sorted list is made of -/
theorem sort_asks {xs : List PV} {vs : List V} {a : Addr} {Q : VK} {E : Nat → Hp → Prop} {bx : Bool} (S : SOk G ms st H) (hlo : lo ≤ st.length) (hs : SqL G.K H a vs) (r : RepL G ms st H xs vs) (ho : okSort xs = true) (h : Res G (Rep G) lo ms st H (mkLst bx (sortP xs) st) Q E) : rSortedD G.K [.ref a] H Q := by
  obtain ⟨z1, z2, z3⟩ := r.zip
  obtain ⟨o1, o2, o3⟩ := okSort_d ho
  have hm : ∀ p ∈ xs.zip vs, p.1 ∈ xs := fun p hp => by
    have := List.mem_map_of_mem (f := (·.1)) hp
    rw [z2] at this
    exact this
  have dm : ∀ d ∈ ((xs.zip vs).map fun p => (p.2, toPD p.1)).map (·.2), ∃ x ∈ xs, d = toPD x := fun d hd => by
    rw [List.map_map] at hd
    obtain ⟨p, hp, rfl⟩ := List.mem_map.mp hd
    exact ⟨p.1, hm p hp, rfl⟩
  refine ⟨a, (xs.zip vs).map fun p => (p.2, toPD p.1), rfl, ?_, fun b hb => ?_, fun d hd d' hd' => ?_, ?_, fun b hb => ?_, fun p hp => ?_⟩
  · rw [List.map_map]
    have e : (xs.zip vs).map ((fun x : V × PyData => x.1) ∘ fun p => (p.2, toPD p.1)) = vs := z3
    rw [e]
    exact hs
  · obtain ⟨p, hp, rfl⟩ := List.mem_map.mp hb
    exact dp_of S 50 p.1 p.2 (plainL_mem o1 _ (hm p hp)) (z1 p hp)
  · obtain ⟨x, hx, rfl⟩ := dm d hd
    obtain ⟨y, hy, rfl⟩ := dm d' hd'
    exact like_pd x y (o2 x hx y hy)
  · rcases o3 with o3 | o3
    · refine .inl fun d hd => ?_
      obtain ⟨x, hx, rfl⟩ := dm d hd
      have := o3 x hx
      match x, this with
      | .tup (y :: ys), _ => exact ⟨toPD y, toPDs ys, by simp [toPD, toPDs]⟩
    · refine .inr fun d hd => ?_
      obtain ⟨x, hx, rfl⟩ := dm d hd
      have := o3 x hx
      cases x <;> simp [atomP] at this <;> simp [toPD]
  · obtain ⟨p, hp, rfl⟩ := List.mem_map.mp hb
    have := depth_pd 50 p.1 (plainL_mem o1 _ (hm p hp))
    simp only
    omega
  · have e1 : (((xs.zip vs).map fun p => (p.2, toPD p.1)).mergeSort (dataLe false (·.2))) = ((xs.zip vs).mergeSort fun p q => leP p.1 q.1).map fun p => (p.2, toPD p.1) := by
      refine (PySem.W.sort_maps _ fun p hp q hq => ?_).symm
      have e := lt_pd 50 50 q.1 p.1 (plainL_mem o1 _ (hm q hq)) (plainL_mem o1 _ (hm p hp)) (o2 _ (hm q hq) _ (hm p hp))
      show leP p.1 q.1 = !PySem.W.dataLt (toPD q.1) (toPD p.1)
      rw [e]
      rfl
    have e2 : ((xs.zip vs).mergeSort fun p q => leP p.1 q.1).map (·.1) = sortP xs := by
      rw [PySem.W.sort_maps (s := leP) _ fun p _ q _ => rfl, z2]
      rfl
    rw [e1, List.map_map]
    have rr : RepL G ms st H (sortP xs) (((xs.zip vs).mergeSort fun p q => leP p.1 q.1).map (·.2)) := by
      rw [← e2]
      exact RepL.unzip fun p hp => z1 p (List.mem_mergeSort.mp hp)
    exact mkLst_ok S hlo rr h p hp
theorem sorted_ok {bx : Bool} : BiF G lo (bfn .sorted bx) (rSortedD G.K) := by
  intro ms st H xs vs Q E hlo S r h
  unfold bfn at h
  split at h <;> try (first | (rename_i e; cases e; done) | exact h.elim)
  obtain ⟨v, rfl, rv⟩ := r.one
  split at h
  · rename_i ys hy
    split at h
    · rename_i ho
      obtain ⟨a, ws, rfl, hs, rl⟩ := lstOf_ok S rv hy
      exact sort_asks S hlo (.inl hs) rl ho h
    · exact h.elim
  · exact h.elim
end

/-! ### dict(..) -/
section
variable {G : Ctx} {lo : Nat} {ms : List Addr} {st : Sto} {H H' : Hp} {X : Cx}
theorem keyRs_inj : ∀ {a b : List KA}, a.map keyR = b.map keyR → a = b
  | [], [], _ => rfl
  | [], _ :: _, h => by simp at h
  | _ :: _, [], h => by simp at h
  | x :: a, y :: b, h => by
    simp only [List.map_cons, List.cons.injEq] at h
    rw [keyR_inj h.1, keyRs_inj h.2]
theorem anyK (k : KA) : ∀ (kvs : List (DK × PV)) (l : List (L2.Key × V)), RepK G ms st H kvs l → (kvs.any fun p => decide (p.1 = .a k)) = l.any fun kv => decide (kv.1 = keyR k)
  | [], l, h => by simp only [RepK] at h; subst h; rfl
  | (k', d) :: r, l, h => by
    simp only [RepK] at h
    obtain ⟨ka, v, l', rfl, rfl, _, h2⟩ := h
    rw [List.any_cons, List.any_cons, anyK k r l' h2]
    congr 1
    by_cases e : ka = k
    · subst e; simp
    · have : keyR ka ≠ keyR k := fun q => e (keyR_inj q)
      simp [e, this]
theorem anyT (k : List KA) : ∀ (kvs : List (DK × PV)) (l : List (List L2.Key × V)), RepT G ms st H kvs l → (kvs.any fun p => decide (p.1 = .t k)) = l.any fun kv => decide (kv.1 = k.map keyR)
  | [], l, h => by simp only [RepT] at h; subst h; rfl
  | (k', d) :: r, l, h => by
    simp only [RepT] at h
    obtain ⟨ka, v, l', rfl, rfl, _, h2⟩ := h
    rw [List.any_cons, List.any_cons, anyT k r l' h2]
    congr 1
    by_cases e : ka = k
    · subst e; simp
    · have : ka.map keyR ≠ k.map keyR := fun q => e (keyRs_inj q)
      simp [e, this]
theorem mapK {k : KA} {d : PV} {v : V} (hd : Rep G ms st H d v) : ∀ (kvs : List (DK × PV)) (l : List (L2.Key × V)), RepK G ms st H kvs l → RepK G ms st H (kvs.map fun p => if p.1 = .a k then (p.1, d) else p) (l.map fun kv => if kv.1 = keyR k then (kv.1, v) else kv)
  | [], l, h => by simp only [RepK] at h; subst h; simp only [List.map_nil, RepK]
  | (k', d') :: r, l, h => by
    simp only [RepK] at h
    obtain ⟨ka, v', l', rfl, rfl, h1, h2⟩ := h
    have ih := mapK (k := k) hd r l' h2
    by_cases e : ka = k
    · subst e
      simp only [List.map_cons, if_true, RepK]
      exact ⟨_, _, _, rfl, rfl, hd, ih⟩
    · have q : keyR ka ≠ keyR k := fun q => e (keyR_inj q)
      have q' : ¬ (DK.a ka = DK.a k) := fun z => e (by injection z)
      simp only [List.map_cons, if_neg q, if_neg q', RepK]
      exact ⟨_, _, _, rfl, rfl, h1, ih⟩
theorem mapT {k : List KA} {d : PV} {v : V} (hd : Rep G ms st H d v) : ∀ (kvs : List (DK × PV)) (l : List (List L2.Key × V)), RepT G ms st H kvs l → RepT G ms st H (kvs.map fun p => if p.1 = .t k then (p.1, d) else p) (l.map fun kv => if kv.1 = k.map keyR then (kv.1, v) else kv)
  | [], l, h => by simp only [RepT] at h; subst h; simp only [List.map_nil, RepT]
  | (k', d') :: r, l, h => by
    simp only [RepT] at h
    obtain ⟨ka, v', l', rfl, rfl, h1, h2⟩ := h
    have ih := mapT (k := k) hd r l' h2
    by_cases e : ka = k
    · subst e
      simp only [List.map_cons, if_true, RepT]
      exact ⟨_, _, _, rfl, rfl, hd, ih⟩
    · have q : ka.map keyR ≠ k.map keyR := fun q => e (keyRs_inj q)
      have q' : ¬ (DK.t ka = DK.t k) := fun z => e (by injection z)
      simp only [List.map_cons, if_neg q, if_neg q', RepT]
      exact ⟨_, _, _, rfl, rfl, h1, ih⟩
theorem appK {k : KA} {d : PV} {v : V} (hd : Rep G ms st H d v) : ∀ (kvs : List (DK × PV)) (l : List (L2.Key × V)), RepK G ms st H kvs l → RepK G ms st H (kvs ++ [(.a k, d)]) (l ++ [(keyR k, v)])
  | [], l, h => by
    simp only [RepK] at h
    subst h
    simp only [List.nil_append, RepK]
    exact ⟨_, _, _, rfl, rfl, hd, rfl⟩
  | (k', d') :: r, l, h => by
    simp only [RepK] at h
    obtain ⟨ka, v', l', rfl, rfl, h1, h2⟩ := h
    simp only [List.cons_append, RepK]
    exact ⟨_, _, _, rfl, rfl, h1, appK hd r l' h2⟩
theorem appT {k : List KA} {d : PV} {v : V} (hd : Rep G ms st H d v) : ∀ (kvs : List (DK × PV)) (l : List (List L2.Key × V)), RepT G ms st H kvs l → RepT G ms st H (kvs ++ [(.t k, d)]) (l ++ [(k.map keyR, v)])
  | [], l, h => by
    simp only [RepT] at h
    subst h
    simp only [List.nil_append, RepT]
    exact ⟨_, _, _, rfl, rfl, hd, rfl⟩
  | (k', d') :: r, l, h => by
    simp only [RepT] at h
    obtain ⟨ka, v', l', rfl, rfl, h1, h2⟩ := h
    simp only [List.cons_append, RepT]
    exact ⟨_, _, _, rfl, rfl, h1, appT hd r l' h2⟩
theorem putK_ok {k : KA} {d : PV} {v : V} {kvs : List (DK × PV)} {l : List (L2.Key × V)} (hd : Rep G ms st H d v) (h : RepK G ms st H kvs l) : RepK G ms st H (dput kvs (.a k) d) (L2.putK l (keyR k) v) := by
  unfold dput L2.putK
  rw [anyK k kvs l h]
  split
  · exact mapK hd _ _ h
  · exact appK hd _ _ h
theorem putT_ok {k : List KA} {d : PV} {v : V} {kvs : List (DK × PV)} {l : List (List L2.Key × V)} (hd : Rep G ms st H d v) (h : RepT G ms st H kvs l) : RepT G ms st H (dput kvs (.t k) d) (L2.putK l (k.map keyR) v) := by
  unfold dput L2.putK
  rw [anyT k kvs l h]
  split
  · exact mapT hd _ _ h
  · exact appT hd _ _ h
theorem mkDct_ok {bx : Bool} {kvs : List (DK × PV)} {l : List (L2.Key × V)} {Q : VK} {E : Nat → Hp → Prop} (S : SOk G ms st H) (hlo : lo ≤ st.length) (r : RepK G ms st H kvs l) (h : Res G (Rep G) lo ms st H (mkDct bx false kvs st) Q E) :
    ∀ p, H p = none → Q (.ref p) (upd H p (.dK l)) := fun p hp => by
  cases bx with
  | false =>
    refine h ms _ (.ref p) (Ext.grow (upd_grow hp)) (S.grow (upd_grow hp)) ?_
    simp only [Rep]
    exact ⟨p, l, rfl, free_new S hp, .inl upd_same, RepK.ext (Ext.grow (lo := 0) (upd_grow hp)) _ _ r⟩
  | true =>
    have e : Ext G.rsv lo ms st H (ms ++ [p]) (st ++ [.dct false kvs]) (upd H p (.dK l)) := Ext.newBox S hp hlo
    refine h (ms ++ [p]) _ (.ref p) e (S.newBox hp ⟨l, upd_same, RepK.ext e _ _ r⟩) ?_
    show Rep G (ms ++ [p]) (st ++ [.dct false kvs]) (upd H p (.dK l)) (.box st.length) (.ref p)
    simp only [Rep]
    exact ⟨p, rfl, by rw [← S.len]; simp⟩
theorem keyOf_a {d : PV} {v : V} {ka : KA} (hk : keyOf d = some (.a ka)) (r : Rep G ms st H d v) : v = L2.kV (keyR ka) := by
  cases d <;> simp [keyOf] at hk
  · subst hk; simp only [Rep] at r; rw [r]; rfl
  · subst hk; simp only [Rep] at r; rw [r]; rfl
theorem dictP_ok : ∀ (xs : List PV) (acc kvs : List (DK × PV)) (vs : List V) (la : List (L2.Key × V)), dictP xs acc = some kvs → RepL G ms st H xs vs → RepK G ms st H acc la →
    ∃ (ps : List Addr) (more : List (L2.Key × V)), vs = ps.map V.ref ∧ Paired (fun p kv => SqT G.K H p [L2.kV kv.1, kv.2]) ps more ∧ RepK G ms st H kvs (L2.mergeK la more)
  | [], acc, kvs, vs, la, h, r, ra => by
    simp only [dictP, Option.some.injEq] at h
    simp only [RepL] at r
    subst h; subst r
    exact ⟨[], [], rfl, .nil, ra⟩
  | x :: xs, acc, kvs, vs, la, h, r, ra => by
    match x, h with
    | .tup [k, d], h =>
      simp only [dictP] at h
      cases hk : keyOf k with
      | none => rw [hk] at h; cases h
      | some dk =>
        cases dk with
        | t ks => rw [hk] at h; cases h
        | a ka =>
          rw [hk] at h
          simp only at h
          simp only [RepL] at r
          obtain ⟨v, r', rfl, h1, h2⟩ := r
          simp only [Rep] at h1
          obtain ⟨a, ws, rfl, f, rw_⟩ := h1
          obtain ⟨u1, u2, rfl, r1, r2⟩ := rw_.two
          have e1 := keyOf_a hk r1
          subst e1
          obtain ⟨ps, more, q1, q2, q3⟩ := dictP_ok xs _ kvs r' _ h h2 (putK_ok (k := ka) r2 ra)
          exact ⟨a :: ps, (keyR ka, u2) :: more, by rw [q1]; rfl, .cons f.sq q2, q3⟩
    | .tup [], h => simp [dictP] at h
    | .tup [_], h => simp [dictP] at h
    | .tup (_ :: _ :: _ :: _), h => simp [dictP] at h
    | .none, h => simp [dictP] at h
    | .bool _, h => simp [dictP] at h
    | .int _, h => simp [dictP] at h
    | .str _, h => simp [dictP] at h
    | .lst _, h => simp [dictP] at h
    | .dct _ _, h => simp [dictP] at h
    | .box _, h => simp [dictP] at h
    | .exc _, h => simp [dictP] at h
    | .kls _, h => simp [dictP] at h
def rDictOf (K : PySem.W.Frag) : RB := fun xs H Q => (∃ (a : Addr) (ps : List Addr) (kvs : List (L2.Key × V)), xs = [.ref a] ∧ SqL K H a (ps.map V.ref) ∧ Paired (fun p kv => SqT K H p [L2.kV kv.1, kv.2]) ps kvs ∧ ∀ p, H p = none → Q (.ref p) (upd H p (.dK (L2.mergeK [] kvs)))) ∨
  ∃ (a : Addr) (kvs : List (L2.Key × V)), xs = [.ref a] ∧ Rd H a (.dK kvs) ∧ ∀ p, H p = none → Q (.ref p) (upd H p (.dK kvs))
theorem cr_dictOf (hc : X.calm = true) : L2.CallR X (.type "dict") (rDictOf X.K) := L2.CallR.or (L2.call_dictP hc) L2.call_dictD
theorem dictOf_ok {bx : Bool} : BiF G lo (bfn .dictOf bx) (rDictOf G.K) := by
  intro ms st H xs vs Q E hlo S r h
  unfold bfn at h
  split at h <;> try (first | (rename_i e; cases e; done) | exact h.elim)
  obtain ⟨v, rfl, rv⟩ := r.one
  split at h
  · rename_i ys hy
    split at h
    · rename_i kvs hd
      obtain ⟨a, ws, rfl, hs, rl⟩ := lstOf_ok S rv hy
      obtain ⟨ps, more, rfl, q2, q3⟩ := dictP_ok (la := []) ys [] kvs ws hd rl (by simp only [RepK])
      exact .inl ⟨a, ps, more, rfl, .inl hs, q2, mkDct_ok S hlo q3 h⟩
    · exact h.elim
  · split at h
    · rename_i kvs hd
      obtain ⟨a, rfl, l, d1, d2⟩ := dctOf_ok S rv hd
      exact .inr ⟨a, l, rfl, d1, mkDct_ok S hlo d2 h⟩
    · exact h.elim
end
end Z

set_option maxHeartbeats 200000
set_option maxRecDepth 512
/-! Whether a text of the small language is a text of the program. -/
namespace Z
open PySem (Str Expr Stmt Scope NameKind CmpOp Operator UnaryOp Const Comprehension)

/-- what is known where a text stands: its names, its scope, names that it may store to by cells; defs, classes, constants -/
structure CC where
  N : List Str
  sc : Scope
  fnc : Str → Bool
  fnm : Nat → Option String
  cnm : Nat → Option String
  glb : String → Option PV

def opB : BOp → Operator → Bool
  | .add, .Add | .sub, .Sub | .mul, .Mult | .mod, .Mod | .fdiv, .FloorDiv | .pow, .Pow => true
  | _, _ => false
def opC : COp → CmpOp → Bool
  | .eq, .Eq | .ne, .NotEq | .lt, .Lt | .le, .LtE | .gt, .Gt | .ge, .GtE | .isIn, .In | .notIn, .NotIn | .is, .Is | .isNot, .IsNot => true
  | _, _ => false
def biName : Bi → String
  | .len => "len" | .listOf => "list" | .tupleOf => "tuple" | .sum => "sum" | .all => "all" | .max1 => "max" | .min1 => "min" | .max2 => "max" | .min2 => "min"
  | .abs => "abs" | .int => "int" | .str => "str" | .dictOf => "dict" | .sorted => "sorted" | .sortedSet => "sorted" | .lenSet => "len" | .sortedItems => "sorted" | .sortedBy => "sorted"
def bmName : Bm → String
  | .append => "append" | .extend => "extend" | .insert => "insert" | .pop => "pop" | .reverse => "reverse" | .get => "get" | .get2 => "get" | .items => "items" | .join => "join" | .split => "split"
  | .partition => "partition" | .upper => "upper" | .count => "count" | .index => "index"
def tyName : Ty → String
  | .int => "int" | .bool => "bool" | .str => "str" | .tuple => "tuple" | .list => "list" | .valueError => "ValueError" | .cls _ => ""
def notCls : Ty → Bool
  | .cls _ | .valueError => false
  | _ => true
def isVis (sc : Scope) (x : Str) : Bool := match sc.names.lookup x with
  | some .local | some .cell | some .free => true
  | _ => false
def isGl (sc : Scope) (x : Str) : Bool := match sc.names.lookup x with
  | some .globalImplicit => true
  | _ => false
def canStore (C : CC) (x : Str) : Bool := match C.sc.names.lookup x with
  | some .local => true
  | some .cell => C.fnc x
  | _ => false
def sane (x : Str) : Bool := !(x == Str.ofString "__debug__") && !(x == Str.ofString "__classdict__") && !(x == Str.ofString "__name__")
def nameAt (C : CC) (i : Nat) (x : Str) : Bool := decide (C.N[i]? = some x) && sane x
def notSuper : Expr → Bool
  | .Call (.Name _ _) [] [] _ => false
  | _ => true
def isSlice : Expr → Bool
  | .Slice .. => true
  | _ => false
def isSet : Expr → Bool
  | .Set .. => true
  | _ => false

mutual
def chkG (C : CC) : Tg → Expr → Bool
  | .name i, .Name x _ => nameAt C i x && canStore C x
  | .tup l, .Tuple es _ _ => chkGs C l es
  | _, _ => false
def chkGs (C : CC) : List Tg → List Expr → Bool
  | [], [] => true
  | t :: l, e :: es => chkG C t e && chkGs C l es
  | _, _ => false
end
mutual
def tgVars : Tg → List Nat
  | .name i => [i]
  | .tup l => tgVarss l
def tgVarss : List Tg → List Nat
  | [] => []
  | t :: l => tgVars t ++ tgVarss l
end
def bmAr : Bm → Nat → Bool
  | .append, 1 | .extend, 1 | .insert, 2 | .pop, 0 | .get, 1 | .get2, 2 | .upper, 0 => true
  | _, _ => false
def isTupTg : Expr → Bool
  | .Tuple .. => true
  | _ => false

mutual
def chk (C : CC) : ME → Expr → Bool
  | .const (.int i), .Constant (.int j) _ _ => decide (i = j)
  | .const (.str s), .Constant (.str x) _ _ => decide (toS s = x)
  | .const (.bool b), .Constant (.bool c) _ _ => b == c
  | .const .none, .Constant .none _ _ => true
  | .var i, .Name x _ => nameAt C i x && isVis C.sc x
  | .glob n d, .Name x _ => decide (x = Str.ofString n) && sane x && isGl C.sc x && (match d, C.glb n with
    | .int i, some (.int j) => decide (i = j)
    | .str s, some (.str t) => decide (s = t)
    | _, _ => false)
  | .bin op _ a b, .BinOp l o r _ => opB op o && chk C a l && chk C b r
  | .neg a, .UnaryOp .USub e _ => chk C a e
  | .nt a, .UnaryOp .Not e _ => chk C a e
  | .and a b, .BoolOp .And [e, e2] _ => chk C a e && chk C b e2
  | .and a b, .BoolOp .And (e :: e2 :: e3 :: r) pos => chk C a e && chk C b (.BoolOp .And (e2 :: e3 :: r) pos)
  | .or a b, .BoolOp .Or [e, e2] _ => chk C a e && chk C b e2
  | .or a b, .BoolOp .Or (e :: e2 :: e3 :: r) pos => chk C a e && chk C b (.BoolOp .Or (e2 :: e3 :: r) pos)
  | .cmp op a b, .Compare l [o] [r] _ => opC op o && chk C a l && chk C b r && !isSet r
  | .chain op op' a b c, .Compare l [o, o'] [m, r] _ => opC op o && opC op' o' && chk C a l && chk C b m && chk C c r && !isSet m && !isSet r
  | .ite c a b, .IfExp t x y _ => chk C c t && chk C a x && chk C b y
  | .tup es, .Tuple xs _ _ => chks C es xs
  | .lst _ es, .List xs _ => chks C es xs
  | .dict0 _, .Dict [] [] _ => true
  | .call f es, .Call (.Name x _) (e :: xs) [] _ => sane x && isGl C.sc x && (match C.fnm f with | some n => decide (x = Str.ofString n) | none => false) && chks C es (e :: xs)
  | .bi b _ es, .Call (.Name x _) (e :: xs) [] _ => sane x && isGl C.sc x && decide (x = Str.ofString (biName b)) && (match b with
    | .sortedSet | .lenSet => (match e, xs with
      | .Call (.Name y _) [e2] [] _, [] => sane y && isGl C.sc y && decide (y = Str.ofString "set") && chks C es [e2]
      | _, _ => false)
    | .sortedItems => (match es with
      | .cons a .nil => (match e, xs with
        | .Call (.Attribute e2 n ap) [] [] cp, [] => notSuper e2 && decide (n = Str.ofString "items") && (ap.endLine == cp.line) && chk C a e2
        | _, _ => false)
      | _ => false)
    | .sortedBy => false
    | _ => chks C es (e :: xs))
  | .isinst a t, .Call (.Name x _) [e, .Name y _] [] _ => sane x && isGl C.sc x && sane y && isGl C.sc y && decide (x = Str.ofString "isinstance") && decide (y = Str.ofString (tyName t)) && notCls t && chk C a e
  | .bm m o es, .Call (.Attribute e n ap) xs [] cp => notSuper e && decide (n = Str.ofString (bmName m)) && (ap.endLine == cp.line) && bmAr m xs.length && chk C o e && chks C es xs
  | .idx a i, .Subscript x y _ => !isSlice y && chk C a x && chk C i y
  | .slice _ a lo hi, .Subscript x (.Slice l h none _) _ => chk C a x && chkO C lo l && chkO C hi h
  | .comp _ tg vs it cond elt, .ListComp e [⟨t, i, ifs, a⟩] scope _ =>
    let C' : CC := { C with sc := L2.relS scope C.sc, fnc := fun x => scope.names.lookup x == some .cell }
    L2.blkC C.N C.sc scope (vs.map fun i => (C.N.getD i Str.empty, i)) && chkI C it t i && chkG C' tg t && (tgVars tg).all (fun i => vs.contains i) && chk C' elt e && chkF C' cond ifs && decide (vs.all fun i => i < C.N.length) && decide (a = 0)
  | _, _ => false
def chks (C : CC) : MEs → List Expr → Bool
  | .nil, [] => true
  | .cons e r, x :: xs => chk C e x && chks C r xs
  | _, _ => false
def chkF (C : CC) : Option ME → List Expr → Bool
  | none, [] => true
  | some c, [x] => chk C c x
  | _, _ => false
def chkO (C : CC) : Option ME → Option Expr → Bool
  | none, none => true
  | some e, some x => chk C e x
  | _, _ => false
def chkI (C : CC) : MI → Expr → Expr → Bool
  | .seq e, _, x => chk C e x && !isSet x
  | .range1 a, _, .Call (.Name x _) [e] [] _ => isGl C.sc x && decide (x = Str.ofString "range") && chk C a e
  | .range2 a b, _, .Call (.Name x _) [e, e2] [] _ => isGl C.sc x && decide (x = Str.ofString "range") && chk C a e && chk C b e2
  | .enum a, t, .Call (.Name x _) [e] [] _ => isTupTg t && isGl C.sc x && decide (x = Str.ofString "enumerate") && chk C a e
  | .zip a b, t, .Call (.Name x _) [e, e2] [] _ => isTupTg t && isGl C.sc x && decide (x = Str.ofString "zip") && chk C a e && chk C b e2
  | _, _, _ => false
end
end Z

set_option maxHeartbeats 200000
set_option maxRecDepth 512
set_option maxHeartbeats 1000000
/-! The small language's texts come to what the program's do: expressions. -/
namespace Z
open PySem PySem.Spec PyProof.Rows
open L2 (V HO Hp SqL SqT Rd upd upd_same upd_ne ne_of ne_of_none Cx PE PT PS PSs PA PG PGs PI PW PO Inv VK TE TA TS TT RelV Vals Dp DpAll)

theorem _root_.L2.PE.weak {X : Cx} {e : Expr} {t t' : TE} (h : PE X e t) (m : ∀ σ H Q, t' σ H Q → t σ H Q) : PE X e t' := ⟨fun pins s σ H Q I q => h.run pins s σ H Q I (m σ H Q q)⟩
theorem _root_.L2.PT.weak {X : Cx} {e : Expr} {t t' : TT} (h : PT X e t) (m : ∀ σ H Q, t' σ H Q → t σ H Q) : PT X e t' := ⟨fun pins s σ H Q I q => h.run pins s σ H Q I (m σ H Q q)⟩
theorem _root_.L2.PA.weak {X : Cx} {e : List Expr} {t t' : TA} (h : PA X e t) (m : ∀ σ H Q, t' σ H Q → t σ H Q) : PA X e t' := ⟨fun pos pins s σ H Q I q => h.run pos pins s σ H Q I (m σ H Q q)⟩
theorem _root_.L2.PI.weak {X : Cx} {tg e : Expr} {t t' : L2.TI} (h : PI X tg e t) (m : ∀ σ H Q, t' σ H Q → t σ H Q) : PI X tg e t' := ⟨fun pins s σ H Q I q => h.run pins s σ H Q I (m σ H Q q)⟩

/-- what a def promises -/
def spOf (K : PySem.W.Frag) (ca : Nat → Addr) (D : Nat → List PV → Sto → R PV) : L2.Sp := fun vs H Q E => ∃ rs lo ms st ds, lo ≤ st.length ∧ SOk ⟨K, ca, rs⟩ ms st H ∧ RepL ⟨K, ca, rs⟩ ms st H ds vs ∧ Res ⟨K, ca, rs⟩ (Rep ⟨K, ca, rs⟩) lo ms st H (D lo ds st) Q fun c H' => E (.ref (ca c)) none H'

def biNames : List String := ["len", "list", "tuple", "sum", "all", "max", "min", "abs", "int", "str", "dict", "sorted", "isinstance", "range", "enumerate", "zip", "bool", "set", "ValueError"]

/-- an exception class of the program's own -/
structure ExcF (K : PySem.W.Frag) (mg : Str → Option Value) (a : Addr) (n : String) : Prop where
  m : mg (Str.ofString n) = some (.ref a)
  x : PySem.W.excIn K a [.type "ValueError", .type "Exception", .type "BaseException", .type "object"] "ValueError.__new__" = true
  k : PySem.W.keepIn K (.ref a) = true
  b : PySem.W.subIn K (.ref a) (.type "BaseException") = some true
  t : PySem.W.typeIn K (.ref a) = some (.type "type")
/-- where a text stands -/
structure Lk (X : Cx) (G : Ctx) (Γ : Gam) (C : CC) : Prop where
  K : X.K = G.K
  N : X.N = C.N
  nd : C.N.Nodup
  sc : X.env.scope = C.sc
  calm : X.calm = true
  loc : ∀ x, canStore C x = true → X.fn x = true ∨ X.env.scope.names.lookup x = some .local
  room : L2.Room 0 X.A
  fn : ∀ f x, C.fnm f = some x → ∃ fa fd ps k, X.mg (Str.ofString x) = some (.ref fa) ∧ PySem.W.keepIn X.K (.ref fa) = true ∧ L2.Binds X.K fd ps [] ∧ L2.Room k X.A ∧ L2.FnOk X.prog X.w X.K X.mg X.base (L2.CX X.prog X.w) k fa fd ps (spOf G.K G.ca (Γ.fn f))
  bi : ∀ n ∈ biNames, X.mg (Str.ofString n) = none
  exc : ∀ c n, C.cnm c = some n → ExcF X.K X.mg (G.ca c) n
  gl : ∀ n d, C.glb n = some d → ∃ u v, X.mg (Str.ofString n) = some u ∧ RelV v u ∧ (match d with | .int i => v = .int i | .str s => v = .str (toS s) | _ => False)

section
variable {X : Cx} {G : Ctx} {Γ : Gam} {C : CC} {lo : Nat} {W : L2.WX}

theorem Lk.hu (L : Lk X G Γ C) : X.A.units + 200 < cLine := by have := L.room.un; omega
theorem Lk.glo (L : Lk X G Γ C) {x : Str} (h : isGl C.sc x = true) : L2.Gl X x := by
  show X.env.scope.names.lookup x = some .globalImplicit
  rw [L.sc]
  unfold isGl at h
  split at h
  · assumption
  · cases h
theorem Lk.vis (L : Lk X G Γ C) {x : Str} (h : isVis C.sc x = true) : L2.Vis X.env.scope x := by
  rw [L.sc]
  unfold isVis at h
  split at h
  · exact .inl (by assumption)
  · exact .inr (.inl (by assumption))
  · exact .inr (.inr (by assumption))
  · cases h
theorem Lk.loc' (L : Lk X G Γ C) {x : Str} (h : canStore C x = true) : L2.Loc X.env.scope x := by
  rw [L.sc]
  unfold canStore at h
  split at h
  · exact .inl (by assumption)
  · exact .inr (by assumption)
  · cases h
theorem sane_d {x : Str} (h : sane x = true) : (x == ("__debug__" : Str)) = false ∧ (x == ("__classdict__" : Str)) = false ∧ x ≠ "__name__" := by
  simp only [sane, Bool.and_eq_true, Bool.not_eq_true'] at h
  exact ⟨h.1.1, h.1.2, beq_eq_false_iff_ne.mp h.2⟩
theorem nameAt_d {i : Nat} {x : Str} (h : nameAt C i x = true) : C.N[i]? = some x ∧ sane x = true := by
  simp only [nameAt, Bool.and_eq_true, decide_eq_true_eq] at h
  exact h

theorem EOk.get {ms : List Addr} {st : Sto} {H : Hp} : ∀ {ρ : Env} {σ : L2.St} {i : Nat} {d : PV}, EOk G ms st H ρ σ → ρ[i]? = some (some d) → ∃ v, σ[i]? = some (some v) ∧ Rep G ms st H d v
  | [], σ, i, d, h, e => by simp at e
  | o :: ρ, σ, 0, d, h, e => by
    simp only [EOk] at h
    obtain ⟨v, σ', rfl, h1, h2⟩ := h
    simp at e
    obtain ⟨u, rfl, r⟩ := h1 d e
    exact ⟨u, rfl, r⟩
  | o :: ρ, σ, i + 1, d, h, e => by
    simp only [EOk] at h
    obtain ⟨v, σ', rfl, h1, h2⟩ := h
    simpa using EOk.get h2 (by simpa using e)
theorem EOk.len {ms : List Addr} {st : Sto} {H : Hp} : ∀ {ρ : Env} {σ : L2.St}, EOk G ms st H ρ σ → σ.length = ρ.length
  | [], σ, h => by simp only [EOk] at h; subst h; rfl
  | o :: ρ, σ, h => by
    simp only [EOk] at h
    obtain ⟨v, σ', rfl, h1, h2⟩ := h
    simp [EOk.len h2]
theorem EOk.set {ms : List Addr} {st : Sto} {H : Hp} {d : PV} {v : V} (r : Rep G ms st H d v) : ∀ {ρ : Env} {σ : L2.St} {i : Nat}, EOk G ms st H ρ σ → EOk G ms st H (ρ.set i (some d)) (σ.set i (some v))
  | [], σ, i, h => by simp only [EOk] at h; subst h; simp [EOk]
  | o :: ρ, σ, 0, h => by
    simp only [EOk] at h
    obtain ⟨w, σ', rfl, h1, h2⟩ := h
    simp only [List.set_cons_zero, EOk]
    exact ⟨some v, σ', rfl, fun d' e => by cases e; exact ⟨v, rfl, r⟩, h2⟩
  | o :: ρ, σ, i + 1, h => by
    simp only [EOk] at h
    obtain ⟨w, σ', rfl, h1, h2⟩ := h
    simp only [List.set_cons_succ, EOk]
    exact ⟨w, _, rfl, h1, EOk.set r h2⟩
theorem EOk.unset {ms : List Addr} {st : Sto} {H : Hp} {v : Option V} : ∀ {ρ : Env} {σ : L2.St} {i : Nat}, EOk G ms st H ρ σ → EOk G ms st H (ρ.set i none) (σ.set i v)
  | [], σ, i, h => by simp only [EOk] at h; subst h; simp [EOk]
  | o :: ρ, σ, 0, h => by
    simp only [EOk] at h
    obtain ⟨w, σ', rfl, h1, h2⟩ := h
    simp only [List.set_cons_zero, EOk]
    exact ⟨v, σ', rfl, (fun d' e => nomatch e), h2⟩
  | o :: ρ, σ, i + 1, h => by
    simp only [EOk] at h
    obtain ⟨w, σ', rfl, h1, h2⟩ := h
    simp only [List.set_cons_succ, EOk]
    exact ⟨w, _, rfl, h1, EOk.unset h2⟩

/-- length of the store behind a step -/
theorem Ext.le {ms ms' : List Addr} {st st' : Sto} {H H' : Hp} (e : Ext G.rsv lo ms st H ms' st' H') (S : SOk G ms st H) (S' : SOk G ms' st' H') (h : lo ≤ st.length) : lo ≤ st'.length := by
  have := e.pre.length_le
  rw [S.len, S'.len] at this
  omega

/-! ### one by one -/
theorem t_const {d : PV} {v : V} {e : Expr} (h : PE X e (L2.tC v)) (r : ∀ ms st H, Rep G ms st H d v) : PE X e (tE G lo W (eval Γ lo (.const d))) := h.weak fun σ H Q ⟨ms, ρ, st, hl, S, E, q⟩ => by
  simp only [eval] at q
  exact q.done S (r ms st H)
theorem t_var {i : Nat} {e : Expr} (h : PE X e (L2.tVar i)) : PE X e (tE G lo W (eval Γ lo (.var i))) := h.weak fun σ H Q ⟨ms, ρ, st, hl, S, E, q⟩ => by
  simp only [eval] at q
  split at q
  · rename_i d hd
    obtain ⟨v, e1, r⟩ := E.get hd
    exact ⟨v, e1, q.done S r⟩
  · exact q.elim
/-- two parts, then an operation by values -/
theorem two_parts {a b : Env → Sto → R PV} {f : PV → PV → Sto → R PV} {r : L2.R2} (hf : OpF G lo f r) (σ : L2.St) (H : Hp) (Q : VK)
    (h : tE G lo W (fun ρ st => (a ρ st).bind fun x st1 => (b ρ st1).bind fun y st2 => f x y st2) σ H Q) : L2.tOp r (tE G lo W a) (tE G lo W b) σ H Q := by
  obtain ⟨ms, ρ, st, hl, S, E, q⟩ := h
  refine ⟨ms, ρ, st, hl, S, E, q.bind1 (rep := Rep G) fun x st1 ms1 H1 u e1 S1 r1 q1 => ?_⟩
  refine ⟨ms1, ρ, st1, e1.le S S1 hl, S1, E.ext e1, q1.bind1 (rep := Rep G) fun y st2 ms2 H2 w e2 S2 r2 q2 => ?_⟩
  exact hf ms2 st2 H2 x y u w Q _ (e2.le S1 S2 (e1.le S S1 hl)) S2 (Rep.ext e2 _ _ r1) r2 q2
theorem t_bin {op : Operator} {r : L2.R2} {f : PV → PV → Sto → R PV} {a b : Expr} {da db : Env → Sto → R PV} {pos : Pos} (ho : L2.OpR X (binaryOp op) r) (hf : OpF G lo f r) (ha : PE X a (tE G lo W da)) (hb : PE X b (tE G lo W db)) :
    PE X (.BinOp a op b pos) (tE G lo W fun ρ st => (da ρ st).bind fun x st1 => (db ρ st1).bind fun y st2 => f x y st2) := (L2.pe_op ho ha hb).weak fun σ H Q h => two_parts hf σ H Q h
theorem cm_op {f : PV → PV → Sto → Option Bool} {r : L2.R2} (hf : CmF G f r) : OpF G lo (fun x y st => ofOpt ((f x y st).map .bool) st) r := by
  intro ms st H x y u w Q E hl S rx ry h
  cases e : f x y st with
  | none => simp only [e] at h; exact h.elim
  | some b =>
    simp only [e, Option.map_some, ofOpt_some] at h
    exact hf ms st H x y u w b Q S rx ry e (h.done S (by simp only [Rep]))
theorem t_cmp {op : CmpOp} {r : L2.R2} {f : PV → PV → Sto → Option Bool} {a b : Expr} {da db : Env → Sto → R PV} {pos : Pos} (ho : L2.OpR X (compareOp op) r) (hf : CmF G f r) (hm : behindInMarks op b = false) (ha : PE X a (tE G lo W da)) (hb : PE X b (tE G lo W db)) :
    PE X (.Compare a [op] [b] pos) (tE G lo W fun ρ st => (da ρ st).bind fun x st1 => (db ρ st1).bind fun y st2 => ofOpt ((f x y st2).map .bool) st2) :=
  (L2.pe_cmpR ho ha hb hm).weak fun σ H Q h => two_parts (cm_op hf) σ H Q h
/-- as a test -/
abbrev tB := L2.tB
theorem t_cmpT {op : CmpOp} {r : L2.R2} {f : PV → PV → Sto → Option Bool} {a b : Expr} {da db : Env → Sto → R PV} {pos : Pos} (ho : L2.OpR X (compareOp op) r) (hf : CmF G f r) (hm : behindInMarks op b = false) (ha : PE X a (tE G lo W da)) (hb : PE X b (tE G lo W db)) :
    PT X (.Compare a [op] [b] pos) (tB (tE G lo W fun ρ st => (da ρ st).bind fun x st1 => (db ρ st1).bind fun y st2 => ofOpt ((f x y st2).map .bool) st2)) :=
  (L2.pt_cmpR ho ha hb hm).weak fun σ H Q h => two_parts (cm_op hf) σ H _ h

theorem t_neg {a : Expr} {da : Env → Sto → R PV} {pos : Pos} (ha : PE X a (tE G lo W da)) : PE X (.UnaryOp .USub a pos) (tE G lo W fun ρ st => (da ρ st).bind fun x st1 => match x with | .int i => .ok (.int (-i)) st1 | _ => .bad) :=
  (L2.pe_un L2.un_neg ha).weak fun σ H Q ⟨ms, ρ, st, hl, S, E, q⟩ => ⟨ms, ρ, st, hl, S, E, q.bind1 (rep := Rep G) fun x st1 ms1 H1 u e1 S1 r1 q1 => by
    split at q1
    · simp only [Rep] at r1
      subst r1
      exact ⟨_, rfl, q1.done S1 (by simp only [Rep])⟩
    · exact q1.elim⟩
theorem rep_boolI {ms : List Addr} {st : Sto} {H : Hp} {b : Bool} : Rep G ms st H (.bool b) (.bl b) := by simp only [Rep]
theorem rep_bool {ms : List Addr} {st : Sto} {H : Hp} {b : Bool} {v : V} (r : Rep G ms st H (.bool b) v) : v = .bl b := by simpa only [Rep] using r
theorem t_not {a : Expr} {da : Env → Sto → R PV} {pos : Pos} (ha : PE X a (tE G lo W da)) : PE X (.UnaryOp .Not a pos) (tE G lo W fun ρ st => (da ρ st).bind fun x st1 => match x with | .bool b => .ok (.bool (!b)) st1 | _ => .bad) :=
  (L2.pe_not ha).weak fun σ H Q ⟨ms, ρ, st, hl, S, E, q⟩ => ⟨ms, ρ, st, hl, S, E, q.bind1 (rep := Rep G) fun x st1 ms1 H1 u e1 S1 r1 q1 => by
    split at q1
    · exact ⟨_, rep_bool r1, q1.done S1 (by simp only [Rep])⟩
    · exact q1.elim⟩
theorem t_notT {a : Expr} {da : Env → Sto → R PV} {pos : Pos} (ha : PT X a (tB (tE G lo W da))) : PT X (.UnaryOp .Not a pos) (tB (tE G lo W fun ρ st => (da ρ st).bind fun x st1 => match x with | .bool b => .ok (.bool (!b)) st1 | _ => .bad)) :=
  (L2.pt_not ha).weak fun σ H Q ⟨ms, ρ, st, hl, S, E, q⟩ => ⟨ms, ρ, st, hl, S, E, q.bind1 (rep := Rep G) fun x st1 ms1 H1 u e1 S1 r1 q1 => by
    split at q1
    · obtain ⟨c, e, q2⟩ := q1.done (rep := Rep G) S1 rep_boolI
      cases e
      exact ⟨_, rep_bool r1, q2⟩
    · exact q1.elim⟩

abbrev dAnd (da db : Env → Sto → R PV) : Env → Sto → R PV := fun ρ st => (da ρ st).bind fun x st1 => match x with | .bool true => db ρ st1 | .bool false => .ok (.bool false) st1 | _ => .bad
abbrev dOr (da db : Env → Sto → R PV) : Env → Sto → R PV := fun ρ st => (da ρ st).bind fun x st1 => match x with | .bool false => db ρ st1 | .bool true => .ok (.bool true) st1 | _ => .bad
theorem t_and {a b : Expr} {rest : List Expr} {da db : Env → Sto → R PV} {pos : Pos} (ha : PE X a (tE G lo W da)) (hb : PE X (.BoolOp .And (b :: rest) pos) (tE G lo W db)) : PE X (.BoolOp .And (a :: b :: rest) pos) (tE G lo W (dAnd da db)) :=
  (L2.pe_and ha hb).weak fun σ H Q ⟨ms, ρ, st, hl, S, E, q⟩ => ⟨ms, ρ, st, hl, S, E, q.bind1 (rep := Rep G) fun x st1 ms1 H1 u e1 S1 r1 q1 => by
    split at q1
    · refine ⟨true, rep_bool r1, ?_⟩
      refine L2.iteT ?_
      exact ⟨ms1, ρ, st1, e1.le S S1 hl, S1, E.ext e1, q1⟩
    · refine ⟨false, rep_bool r1, ?_⟩
      refine L2.iteF ?_
      exact q1.done S1 (by simp only [Rep])
    · exact q1.elim⟩
theorem t_or {a b : Expr} {rest : List Expr} {da db : Env → Sto → R PV} {pos : Pos} (ha : PE X a (tE G lo W da)) (hb : PE X (.BoolOp .Or (b :: rest) pos) (tE G lo W db)) : PE X (.BoolOp .Or (a :: b :: rest) pos) (tE G lo W (dOr da db)) :=
  (L2.pe_or ha hb).weak fun σ H Q ⟨ms, ρ, st, hl, S, E, q⟩ => ⟨ms, ρ, st, hl, S, E, q.bind1 (rep := Rep G) fun x st1 ms1 H1 u e1 S1 r1 q1 => by
    split at q1
    · refine ⟨false, rep_bool r1, ?_⟩
      refine L2.iteF ?_
      exact ⟨ms1, ρ, st1, e1.le S S1 hl, S1, E.ext e1, q1⟩
    · refine ⟨true, rep_bool r1, ?_⟩
      refine L2.iteT ?_
      exact q1.done S1 (by simp only [Rep])
    · exact q1.elim⟩
theorem t_andT {a b : Expr} {rest : List Expr} {da db : Env → Sto → R PV} {pos : Pos} (ha : PT X a (tB (tE G lo W da))) (hb : PW X (.BoolOp .And (b :: rest) pos) (tB (tE G lo W db))) : PW X (.BoolOp .And (a :: b :: rest) pos) (tB (tE G lo W (dAnd da db))) := by
  have h := L2.pw_and ha hb
  refine ⟨fun wh pins s σ H Q I hq => h.run wh pins s σ H Q I ?_⟩
  obtain ⟨ms, ρ, st, hl, S, E, q⟩ := hq
  refine ⟨ms, ρ, st, hl, S, E, q.bind1 (rep := Rep G) fun x st1 ms1 H1 u e1 S1 r1 q1 => ?_⟩
  split at q1
  · refine ⟨true, rep_bool r1, ?_⟩
    refine L2.iteT ?_
    exact ⟨ms1, ρ, st1, e1.le S S1 hl, S1, E.ext e1, q1⟩
  · refine ⟨false, rep_bool r1, ?_⟩
    refine L2.iteF ?_
    obtain ⟨c, e, q2⟩ := q1.done (rep := Rep G) S1 rep_boolI
    cases e
    exact q2
  · exact q1.elim
theorem t_orT {a b : Expr} {rest : List Expr} {da db : Env → Sto → R PV} {pos : Pos} (ha : PT X a (tB (tE G lo W da))) (hb : PW X (.BoolOp .Or (b :: rest) pos) (tB (tE G lo W db))) : PW X (.BoolOp .Or (a :: b :: rest) pos) (tB (tE G lo W (dOr da db))) := by
  have h := L2.pw_or ha hb
  refine ⟨fun wh pins s σ H Q I hq => h.run wh pins s σ H Q I ?_⟩
  obtain ⟨ms, ρ, st, hl, S, E, q⟩ := hq
  refine ⟨ms, ρ, st, hl, S, E, q.bind1 (rep := Rep G) fun x st1 ms1 H1 u e1 S1 r1 q1 => ?_⟩
  split at q1
  · refine ⟨false, rep_bool r1, ?_⟩
    refine L2.iteF ?_
    exact ⟨ms1, ρ, st1, e1.le S S1 hl, S1, E.ext e1, q1⟩
  · refine ⟨true, rep_bool r1, ?_⟩
    refine L2.iteT ?_
    obtain ⟨c, e, q2⟩ := q1.done (rep := Rep G) S1 rep_boolI
    cases e
    exact q2
  · exact q1.elim
theorem t_ite {c a b : Expr} {dc da db : Env → Sto → R PV} {pos : Pos} (hc : PT X c (tB (tE G lo W dc))) (ha : PE X a (tE G lo W da)) (hb : PE X b (tE G lo W db)) :
    PE X (.IfExp c a b pos) (tE G lo W fun ρ st => (dc ρ st).bind fun x st1 => match x with | .bool true => da ρ st1 | .bool false => db ρ st1 | _ => .bad) :=
  (L2.pe_ifExp hc ha hb).weak fun σ H Q ⟨ms, ρ, st, hl, S, E, q⟩ => ⟨ms, ρ, st, hl, S, E, q.bind1 (rep := Rep G) fun x st1 ms1 H1 u e1 S1 r1 q1 => by
    split at q1
    · refine ⟨true, rep_bool r1, ?_⟩
      refine L2.iteT ?_
      exact ⟨ms1, ρ, st1, e1.le S S1 hl, S1, E.ext e1, q1⟩
    · refine ⟨false, rep_bool r1, ?_⟩
      refine L2.iteF ?_
      exact ⟨ms1, ρ, st1, e1.le S S1 hl, S1, E.ext e1, q1⟩
    · exact q1.elim⟩
theorem chain_asks {r r' : L2.R2} {f f' : PV → PV → Sto → Option Bool} {da db dc : Env → Sto → R PV} (hf : CmF G f r) (hf' : CmF G f' r') (σ : L2.St) (H : Hp) (Q : VK)
    (h : tE G lo W (fun ρ st => (da ρ st).bind fun x st1 => (db ρ st1).bind fun y st2 => match f x y st2 with
      | some true => (dc ρ st2).bind fun z st3 => ofOpt ((f' y z st3).map .bool) st3
      | some false => .ok (.bool false) st2
      | none => .bad) σ H Q) : L2.tChain r r' (tE G lo W da) (tE G lo W db) (tE G lo W dc) σ H Q := by
    obtain ⟨ms, ρ, st, hl, S, E, q⟩ := h
    refine ⟨ms, ρ, st, hl, S, E, q.bind1 (rep := Rep G) fun x st1 ms1 H1 u e1 S1 r1 q1 => ?_⟩
    refine ⟨ms1, ρ, st1, e1.le S S1 hl, S1, E.ext e1, q1.bind1 (rep := Rep G) fun y st2 ms2 H2 w e2 S2 r2 q2 => ?_⟩
    split at q2
    · rename_i hfe
      refine hf ms2 st2 H2 x y u w true _ S2 (Rep.ext e2 _ _ r1) r2 hfe ⟨true, rfl, ?_⟩
      refine L2.iteT ?_
      refine ⟨ms2, ρ, st2, e2.le S1 S2 (e1.le S S1 hl), S2, (E.ext e1).ext e2, q2.bind1 (rep := Rep G) fun z st3 ms3 H3 w3 e3 S3 r3 q3 => ?_⟩
      exact cm_op hf' ms3 st3 H3 y z w w3 Q _ (e3.le S2 S3 (e2.le S1 S2 (e1.le S S1 hl))) S3 (Rep.ext e3 _ _ r2) r3 q3
    · rename_i hfe
      refine hf ms2 st2 H2 x y u w false _ S2 (Rep.ext e2 _ _ r1) r2 hfe ⟨false, rfl, ?_⟩
      refine L2.iteF ?_
      exact q2.done S2 (by simp only [Rep])
    · exact q2.elim

/-! ### lists of expressions -/
theorem t_nil : PA X [] (tEs G lo W (evals Γ lo .nil)) := L2.pa_nil.weak fun σ H Q ⟨ms, ρ, st, hl, S, E, q⟩ => by
  simp only [evals] at q
  exact q.done S (by simp only [RepL])
def isStar : Expr → Bool
  | .Starred .. => true
  | _ => false
theorem star_cons {e : Expr} {es : List Expr} {env : PySem.Env} (h : isStar e = false) : starEach (e :: es) env = (false, PySem.eval e env) :: starEach es env := by
  cases e <;> first | (simp [isStar] at h; done) | rfl
theorem star_any {pos : Pos} {env : PySem.Env} : ∀ {es : List Expr}, (∀ e ∈ es, isStar e = false) → (backTo pos (starEach es env)).any (·.1) = false
  | [], _ => rfl
  | e :: es, h => by
    rw [star_cons (h e List.mem_cons_self)]
    have := star_any (pos := pos) (env := env) (es := es) fun e he => h e (List.mem_cons_of_mem _ he)
    show (false || (backTo pos (starEach es env)).any (·.1)) = false
    rw [this] <;> rfl
theorem t_cons {e : Expr} {es : List Expr} {m : ME} {ms' : MEs} (he : PE X e (tE G lo W (Z.eval Γ lo m))) (hs : PA X es (tEs G lo W (Z.evals Γ lo ms'))) (h : isStar e = false) : PA X (e :: es) (tEs G lo W (Z.evals Γ lo (.cons m ms'))) :=
  (L2.pa_cons he hs (star_cons h)).weak fun σ H Q ⟨ms, ρ, st, hl, S, E, q⟩ => by
    simp only [Z.evals] at q
    refine ⟨ms, ρ, st, hl, S, E, q.bind1 (rep := Rep G) fun x st1 ms1 H1 u e1 S1 r1 q1 => ?_⟩
    refine ⟨ms1, ρ, st1, e1.le S S1 hl, S1, E.ext e1, q1.bind1 (rep := RepL G) fun xs st2 ms2 H2 us e2 S2 r2 q2 => ?_⟩
    exact q2.done S2 (by simp only [RepL]; exact ⟨u, us, rfl, Rep.ext e2 _ _ r1, r2⟩)
theorem t_tup {es : List Expr} {k : Nat} {d : Env → Sto → R (List PV)} {pos : Pos} (h : PA X es (tEs G lo W d)) : PE X (.Tuple es k pos) (tE G lo W fun ρ st => (d ρ st).bind fun xs st1 => if xs.length ≤ sizeLine then .ok (.tup xs) st1 else .bad) :=
  (L2.pe_tup h).weak fun σ H Q ⟨ms, ρ, st, hl, S, E, q⟩ => by
    refine ⟨ms, ρ, st, hl, S, E, q.bind1 (rep := RepL G) fun xs st1 ms1 H1 us e1 S1 r1 q1 => ?_⟩
    split at q1
    · rename_i hz
      exact ⟨by rw [RepL.length _ _ r1, ← line_eq]; exact hz, tup_ok S1 r1 q1⟩
    · exact q1.elim
theorem t_lst {es : List Expr} {bx : Bool} {d : Env → Sto → R (List PV)} {pos : Pos} (h : PA X es (tEs G lo W d)) : PE X (.List es pos) (tE G lo W fun ρ st => (d ρ st).bind fun xs st1 => if xs.length ≤ sizeLine then mkLst bx xs st1 else .bad) :=
  (L2.pe_lst h).weak fun σ H Q ⟨ms, ρ, st, hl, S, E, q⟩ => by
    refine ⟨ms, ρ, st, hl, S, E, q.bind1 (rep := RepL G) fun xs st1 ms1 H1 us e1 S1 r1 q1 => ?_⟩
    split at q1
    · rename_i hz
      exact ⟨by rw [RepL.length _ _ r1, ← line_eq]; exact hz, mkLst_ok S1 (e1.le S S1 hl) r1 q1⟩
    · exact q1.elim
theorem t_dict0 {t : Bool} {pos : Pos} : PE X (.Dict [] [] pos) (tE G lo W (Z.eval Γ lo (.dict0 t))) := by
  have mk : ∀ (o : HO) (σ : L2.St) (H : Hp) (Q : VK), (∀ ms st, SOk G ms st H → ∀ p, H p = none → ObjR G (ms ++ [p]) (st ++ [.dct t []]) (upd H p o) (.dct t []) p) → tE G lo W (Z.eval Γ lo (.dict0 t)) σ H Q → ∀ p, H p = none → Q (.ref p) (upd H p o) := fun o σ H Q ho ⟨ms, ρ, st, hl, S, E, q⟩ p hp => by
    simp only [Z.eval] at q
    exact q _ _ (.ref p) (Ext.newBox S hp hl) (S.newBox hp (ho ms st S p hp)) (by simp only [Rep]; exact ⟨p, rfl, by rw [← S.len]; simp⟩)
  cases t with
  | false => exact L2.pe_dnewK.weak fun σ H Q h => mk (.dK []) σ H Q (fun _ _ _ _ _ => ⟨[], upd_same, by simp only [RepK]⟩) h
  | true => exact L2.pe_dnewT.weak fun σ H Q h => mk (.dT []) σ H Q (fun _ _ _ _ _ => ⟨[], upd_same, by simp only [RepT]⟩) h
end
end Z

set_option maxHeartbeats 200000
set_option maxRecDepth 512
set_option maxHeartbeats 1000000
/-! Calls, built-in functions, places, slices, targets, what is walked. -/
namespace Z
open PySem PySem.Spec PyProof.Rows
open L2 (V HO Hp SqL SqT Rd upd upd_same upd_ne ne_of ne_of_none Cx PE PT PS PSs PA PG PGs PI PW PO Inv VK TE TA TS TT RelV Vals Dp DpAll)

section
variable {X : Cx} {G : Ctx} {Γ : Gam} {C : CC} {lo : Nat} {W : L2.WX}

/-! ### calls -/
theorem t_call (L : Lk X G Γ C) (tk : L2.Takes X W) {f : Nat} {n : String} {x : Str} {e : Expr} {es : List Expr} {d : Env → Sto → R (List PV)} {p pos : Pos} (hf : C.fnm f = some n) (hx : x = Str.ofString n) (hs : sane x = true) (hg : isGl C.sc x = true)
    (ha : PA X (e :: es) (tEs G lo W d)) (hst : ∀ y ∈ e :: es, isStar y = false) :
    PE X (.Call (.Name x p) (e :: es) [] pos) (tE G lo W fun ρ st => (d ρ st).bind fun xs st1 => Γ.fn f lo xs st1) := by
  obtain ⟨fa, fd, ps, k, h1, h2, h3, h4, F⟩ := L.fn f n hf
  refine (L2.pe_callS F h4 (L.glo hg) (hx ▸ h1) h2 h3 (fun σ => L2.passAt tk σ) ha (sane_d hs).1 (star_cons (hst e List.mem_cons_self)) (star_any fun y hy => hst y (List.mem_cons_of_mem _ hy))).weak fun σ H Q ⟨ms, ρ, st, hl, S, E, q⟩ => ?_
  exact ⟨ms, ρ, st, hl, S, E, q.bind1 (rep := RepL G) fun xs st1 ms1 H1 us e1 S1 r1 q1 => ⟨G.rsv, lo, ms1, st1, xs, e1.le S S1 hl, S1, r1, q1⟩⟩

/-! ### built-in functions -/
theorem bi_mem (L : Lk X G Γ C) {x : Str} {n : String} (hx : x = Str.ofString n) (hn : n ∈ biNames) : X.mg x = none := hx ▸ L.bi n hn
theorem t_biF (L : Lk X G Γ C) {x : Str} {n id : String} {e : Expr} {es : List Expr} {d : Env → Sto → R (List PV)} {p pos : Pos} {r : RB} {f : List PV → Sto → R PV} (hc : L2.CallR X (.builtin id) r) (hf : BiF G lo f r) (hx : x = Str.ofString n) (hn : n ∈ biNames)
    (hb : bootBuiltins x = some (.builtin id)) (hs : sane x = true) (hg : isGl C.sc x = true) (ha : PA X (e :: es) (tEs G lo W d)) (hst : ∀ y ∈ e :: es, isStar y = false) :
    PE X (.Call (.Name x p) (e :: es) [] pos) (tE G lo W fun ρ st => (d ρ st).bind f) :=
  (L2.pe_callB hc (L.glo hg) (bi_mem L hx hn) hb ha (sane_d hs).2.2 (sane_d hs).1 (star_cons (hst e List.mem_cons_self)) (star_any fun y hy => hst y (List.mem_cons_of_mem _ hy))).weak fun σ H Q ⟨ms, ρ, st, hl, S, E, q⟩ =>
    ⟨ms, ρ, st, hl, S, E, q.bind1 (rep := RepL G) fun xs st1 ms1 H1 us e1 S1 r1 q1 => hf ms1 st1 H1 xs us Q _ (e1.le S S1 hl) S1 r1 q1⟩
theorem t_biT (L : Lk X G Γ C) {x : Str} {n id : String} {e : Expr} {es : List Expr} {d : Env → Sto → R (List PV)} {p pos : Pos} {r : RB} {f : List PV → Sto → R PV} (hc : L2.CallR X (.type id) r) (hf : BiF G lo f r) (hx : x = Str.ofString n) (hn : n ∈ biNames)
    (hb : bootBuiltins x = some (.type id)) (hs : sane x = true) (hg : isGl C.sc x = true) (ha : PA X (e :: es) (tEs G lo W d)) (hst : ∀ y ∈ e :: es, isStar y = false) :
    PE X (.Call (.Name x p) (e :: es) [] pos) (tE G lo W fun ρ st => (d ρ st).bind f) :=
  (L2.pe_callTy hc (L.glo hg) (bi_mem L hx hn) hb ha (sane_d hs).2.2 (sane_d hs).1 (star_cons (hst e List.mem_cons_self)) (star_any fun y hy => hst y (List.mem_cons_of_mem _ hy))).weak fun σ H Q ⟨ms, ρ, st, hl, S, E, q⟩ =>
    ⟨ms, ρ, st, hl, S, E, q.bind1 (rep := RepL G) fun xs st1 ms1 H1 us e1 S1 r1 q1 => hf ms1 st1 H1 xs us Q _ (e1.le S S1 hl) S1 r1 q1⟩
/-- a rule that asks nothing serves what comes to nothing -/
theorem bi_bad {f : List PV → Sto → R PV} {r : RB} (h : ∀ xs st, f xs st = .bad) : BiF G lo f r := fun ms st H xs vs Q E _ _ _ q => by
  rw [h] at q
  exact q.elim
def plainBi : Bi → Bool
  | .sortedSet | .lenSet | .sortedItems | .sortedBy => false
  | _ => true
theorem t_bi (L : Lk X G Γ C) (b : Bi) (bx : Bool) (hpl : plainBi b = true) {x : Str} {e : Expr} {es : List Expr} {d : Env → Sto → R (List PV)} {p pos : Pos} (hx : x = Str.ofString (biName b)) (hs : sane x = true) (hg : isGl C.sc x = true)
    (ha : PA X (e :: es) (tEs G lo W d)) (hst : ∀ y ∈ e :: es, isStar y = false) :
    PE X (.Call (.Name x p) (e :: es) [] pos) (tE G lo W fun ρ st => (d ρ st).bind (bfn b bx)) := by
  cases b with
  | len => exact t_biF L (id := "len") cb_len (L.K ▸ len_ok) hx (by decide) (hx ▸ PySem.boot_len) hs hg ha hst
  | listOf => exact t_biT L (id := "list") (cr_listOf L.calm) (L.K ▸ listOf_ok) hx (by decide) (hx ▸ (by decide +kernel)) hs hg ha hst
  | tupleOf => exact t_biT L (id := "tuple") L2.call_tuple_of (L.K ▸ tupleOf_ok) hx (by decide) (hx ▸ (by decide +kernel)) hs hg ha hst
  | sum => exact t_biF L (id := "sum") (L2.cr_sum L.calm) (L.K ▸ sum_ok) hx (by decide) (hx ▸ (by decide +kernel)) hs hg ha hst
  | all => exact t_biF L (id := "all") (L2.cr_all L.calm) (L.K ▸ all_ok) hx (by decide) (hx ▸ (by decide +kernel)) hs hg ha hst
  | max1 => exact t_biF L (id := "max") (L2.cr_max L.calm) (L.K ▸ max1_ok) hx (by decide) (hx ▸ (by decide +kernel)) hs hg ha hst
  | min1 => exact t_biF L (id := "min") (L2.cr_min L.calm) (L.K ▸ min1_ok) hx (by decide) (hx ▸ (by decide +kernel)) hs hg ha hst
  | max2 => exact t_biF L (id := "max") (L2.call_max2 L.calm) max2_ok hx (by decide) (hx ▸ (by decide +kernel)) hs hg ha hst
  | min2 => exact t_biF L (id := "min") (L2.call_min2 L.calm) min2_ok hx (by decide) (hx ▸ (by decide +kernel)) hs hg ha hst
  | abs => exact t_biF L (id := "abs") L2.call_abs abs_ok hx (by decide) (hx ▸ (by decide +kernel)) hs hg ha hst
  | int => exact t_biT L (id := "int") L2.call_int1 int_ok hx (by decide) (hx ▸ (by decide +kernel)) hs hg ha hst
  | str => exact t_biT L (id := "str") L2.call_str_int (bi_bad fun xs st => rfl) hx (by decide) (hx ▸ (by decide +kernel)) hs hg ha hst
  | dictOf => exact t_biT L (id := "dict") (cr_dictOf L.calm) (L.K ▸ dictOf_ok) hx (by decide) (hx ▸ (by decide +kernel)) hs hg ha hst
  | sorted => exact t_biF L (id := "sorted") (cr_sortedD (by have := L.hu; omega)) (L.K ▸ sorted_ok) hx (by decide) (hx ▸ (by decide +kernel)) hs hg ha hst
  | sortedSet => simp [plainBi] at hpl
  | lenSet => simp [plainBi] at hpl
  | sortedItems => simp [plainBi] at hpl
  | sortedBy => simp [plainBi] at hpl

/-! ### isinstance -/
theorem ty_ok {ms : List Addr} {st : Sto} {H : Hp} {v : PV} {u : V} {t : Ty} {b : Bool} (S : SOk G ms st H) (r : Rep G ms st H v u) (h : isTy Γ st v t = some b) (ht : notCls t = true) :
    ∃ tv, L2.TyX G.K H u tv ∧ PySem.W.kitOne G.K tv (.type (tyName t)) = some b := by
  have fin : ∀ a : String, L2.TyX G.K H u (.type a) → L2.kitB a (tyName t) = some b → ∃ tv, L2.TyX G.K H u tv ∧ PySem.W.kitOne G.K tv (.type (tyName t)) = some b := fun a h1 h2 => ⟨_, h1, L2.kit_ty h2⟩
  have lstT : ∀ a vs, Rd H a (.lst vs) → L2.TyX G.K H (.ref a) (.type "list") := fun a vs h => by
    rcases h with h | ⟨o, h⟩
    · exact .base (.lst h)
    · exact .base (.frz h)
  cases v with
  | none =>
    simp only [Rep] at r
    subst r
    refine fin "NoneType" (.base .non) ?_
    cases t <;> first | (simp [notCls] at ht; done) | (simp [isTy] at h; subst h; decide +kernel)
  | bool c =>
    simp only [Rep] at r
    subst r
    refine fin "bool" (.base (.bl c)) ?_
    cases t <;> first | (simp [notCls] at ht; done) | (simp [isTy] at h; subst h; decide +kernel)
  | int i =>
    simp only [Rep] at r
    subst r
    refine fin "int" (.base (.int i)) ?_
    cases t <;> first | (simp [notCls] at ht; done) | (simp [isTy] at h; subst h; decide +kernel)
  | str s =>
    simp only [Rep] at r
    subst r
    refine fin "str" (.base (.str _)) ?_
    cases t <;> first | (simp [notCls] at ht; done) | (simp [isTy] at h; subst h; decide +kernel)
  | tup xs =>
    simp only [Rep] at r
    obtain ⟨a, vs, rfl, e2, _⟩ := r
    refine fin "tuple" (.base (.tup e2)) ?_
    cases t <;> first | (simp [notCls] at ht; done) | (simp [isTy] at h; subst h; decide +kernel)
  | lst xs =>
    simp only [Rep] at r
    obtain ⟨a, vs, rfl, e2, _⟩ := r
    refine fin "list" (lstT a vs e2.1) ?_
    cases t <;> first | (simp [notCls] at ht; done) | (simp [isTy] at h; subst h; decide +kernel)
  | dct t' xs => cases t <;> simp [isTy] at h
  | exc c => cases t <;> first | (simp [notCls] at ht; done) | (simp [isTy] at h; done)
  | kls c => cases t <;> first | (simp [notCls] at ht; done) | (simp [isTy] at h; done)
  | box i =>
    cases t <;> first | (simp [notCls] at ht; done) | skip
    all_goals simp only [isTy] at h
    all_goals first | (cases h; done) | skip
    split at h
    · rename_i xs hi
      cases h
      simp only [Rep] at r
      obtain ⟨a, rfl, e2⟩ := r
      obtain ⟨vs, e3, _⟩ := S.obj i _ a hi e2
      exact fin "list" (.base (.lst e3)) (by decide +kernel)
    · cases h
theorem t_isinst (L : Lk X G Γ C) {t : Ty} {x y : Str} {e : Expr} {d : Env → Sto → R PV} {p p2 pos : Pos} (hx : x = Str.ofString "isinstance") (hs : sane x = true) (hg : isGl C.sc x = true) (hy : y = Str.ofString (tyName t)) (hs2 : sane y = true) (hg2 : isGl C.sc y = true)
    (ht : notCls t = true) (ha : PE X e (tE G lo W d)) (hst : isStar e = false) :
    PE X (.Call (.Name x p) [e, .Name y p2] [] pos) (tE G lo W fun ρ st => (d ρ st).bind fun v st1 => ofOpt ((isTy Γ st1 v t).map .bool) st1) := by
  have hb : bootBuiltins y = some (.type (tyName t)) := by
    subst hy
    cases t <;> first | (simp [notCls] at ht; done) | decide +kernel
  have hn : tyName t ∈ biNames := by cases t <;> first | (simp [notCls] at ht; done) | decide
  have hp : PE X (.Name y p2) (L2.tC (.ty (tyName t))) := L2.pe_bltn (L.glo hg2) (bi_mem L hy hn) hb rfl (sane_d hs2).2.2 (sane_d hs2).1
  refine (L2.pe_callB L2.call_isi (L.glo hg) (bi_mem L hx (by decide)) (hx ▸ (by decide +kernel)) (L2.pa_cons ha (L2.pa_cons hp L2.pa_nil) (star_cons hst)) (sane_d hs).2.2 (sane_d hs).1 (star_cons hst) rfl).weak fun σ H Q ⟨ms, ρ, st, hl, S, E, q⟩ => ?_
  refine ⟨ms, ρ, st, hl, S, E, q.bind1 (rep := Rep G) fun v st1 ms1 H1 u e1 S1 r1 q1 => ?_⟩
  cases e : isTy Γ st1 v t with
  | none => rw [e] at q1; exact q1.elim
  | some b =>
    rw [e] at q1
    obtain ⟨tv, h1, h2⟩ := ty_ok S1 r1 e ht
    exact ⟨u, .ty (tyName t), tv, .type (tyName t), b, rfl, .ty _, L.K ▸ h1, L.K ▸ h2, q1.done S1 rep_boolI⟩

/-! ### places, slices -/
theorem plainIx {b : Expr} (h : isSlice b = false) : L2.PlainIx b := by
  intro o i
  cases b <;> first | rfl | (simp [isSlice] at h)
theorem t_idx (L : Lk X G Γ C) {a i : Expr} {da di : Env → Sto → R PV} {pos : Pos} (h : isSlice i = false) (ha : PE X a (tE G lo W da)) (hi : PE X i (tE G lo W di)) :
    PE X (.Subscript a i pos) (tE G lo W fun ρ st => (da ρ st).bind fun x st1 => (di ρ st1).bind fun y st2 => idxf x y st2) :=
  (L2.pe_ix (op_ix (by have := L.hu; omega)) ha hi (plainIx h)).weak fun σ H Q h => two_parts (L.K ▸ idx_ok) σ H Q h
def tO (G : Ctx) (lo : Nat) (W : L2.WX) (d : Env → Sto → R (Option Int)) : L2.TO := fun σ H Q => ∃ ms ρ st, lo ≤ st.length ∧ SOk G ms st H ∧ EOk G ms st H ρ σ ∧ Res G (fun _ _ _ a b => b = a) lo ms st H (d ρ st) Q fun c H' => W (.ref (G.ca c)) none σ H'
theorem po_weak {e : Option Expr} {t t' : L2.TO} (h : L2.PO X e t) (m : ∀ σ H Q, t' σ H Q → t σ H Q) : L2.PO X e t' := ⟨fun pins s σ H Q I q => h.run pins s σ H Q I (m σ H Q q)⟩
theorem t_none : L2.PO X none (tO G lo W (evalO Γ lo none)) := po_weak L2.po_none fun σ H Q ⟨ms, ρ, st, hl, S, E, q⟩ => by
  simp only [evalO] at q
  exact q.done S rfl
theorem t_some {e : Expr} {m : ME} (h : PE X e (tE G lo W (Z.eval Γ lo m))) : L2.PO X (some e) (tO G lo W (evalO Γ lo (some m))) := po_weak (L2.po_some h) fun σ H Q ⟨ms, ρ, st, hl, S, E, q⟩ => by
  simp only [evalO] at q
  refine ⟨ms, ρ, st, hl, S, E, q.bind1 (rep := Rep G) fun x st1 ms1 H1 u e1 S1 r1 q1 => ?_⟩
  cases x with
  | int i =>
    simp only [Rep] at r1
    exact ⟨i, r1, q1.done S1 rfl⟩
  | _ => exact q1.elim
theorem t_slice (L : Lk X G Γ C) {bx : Bool} {a : Expr} {l h : Option Expr} {da : Env → Sto → R PV} {dl dh : Env → Sto → R (Option Int)} {pos p2 : Pos} (ha : PE X a (tE G lo W da)) (hl : L2.PO X l (tO G lo W dl)) (hh : L2.PO X h (tO G lo W dh)) :
    PE X (.Subscript a (.Slice l h none p2) pos) (tE G lo W fun ρ st => (da ρ st).bind fun x st1 => (dl ρ st1).bind fun i st2 => (dh ρ st2).bind fun j st3 => slicef bx x i j st3) :=
  (L2.pe_slice op_sl ha hl hh).weak fun σ H Q ⟨ms, ρ, st, hlo, S, E, q⟩ => by
    refine ⟨ms, ρ, st, hlo, S, E, q.bind1 (rep := Rep G) fun x st1 ms1 H1 u e1 S1 r1 q1 => ?_⟩
    refine ⟨ms1, ρ, st1, e1.le S S1 hlo, S1, E.ext e1, q1.bind1 (rep := fun _ _ _ a b => b = a) fun i st2 ms2 H2 w e2 S2 r2 q2 => ?_⟩
    refine ⟨ms2, ρ, st2, e2.le S1 S2 (e1.le S S1 hlo), S2, (E.ext e1).ext e2, q2.bind1 (rep := fun _ _ _ a b => b = a) fun j st3 ms3 H3 w3 e3 S3 r3 q3 => ?_⟩
    subst r2; subst r3
    have := slice_ok (e3.le S2 S3 (e2.le S1 S2 (e1.le S S1 hlo))) S3 (Rep.ext e3 _ _ (Rep.ext e2 _ _ r1)) q3
    exact L.K ▸ this
end
end Z

set_option maxHeartbeats 200000
set_option maxRecDepth 512
set_option maxHeartbeats 1000000
/-! Targets, what is walked. -/
namespace Z
open PySem PySem.Spec PyProof.Rows
open L2 (V HO Hp SqL SqT Rd upd upd_same upd_ne ne_of ne_of_none Cx PE PT PS PSs PA PG PGs PI PW Inv VK TE TA TS TT TG TGs RelV Vals Dp DpAll)

section
variable {X : Cx} {G : Ctx} {Γ : Gam} {C : CC} {lo : Nat} {W : L2.WX}

/-! ### targets -/
theorem pg_or {e : Expr} {t t' : TG} (h : PG X e t) (h' : PG X e t') : PG X e (fun v σ H Q => t v σ H Q ∨ t' v σ H Q) := ⟨fun pins s σ H v u Q I r q => by
  rcases q with q | q
  · exact h.run pins s σ H v u Q I r q
  · exact h'.run pins s σ H v u Q I r q⟩
mutual
def gOf (K : PySem.W.Frag) : Tg → TG
  | .name i => L2.gName i
  | .tup l => fun v σ H Q => L2.gTup K l.length (gOfs K l) v σ H Q ∨ L2.gLst K l.length (gOfs K l) v σ H Q
def gOfs (K : PySem.W.Frag) : List Tg → TGs
  | [] => L2.gNil
  | t :: l => L2.gCons (gOf K t) (gOfs K l)
end
theorem assign_star {e : Expr} {es : List Expr} {env : PySem.Env} (h : isStar e = false) : assignEach (e :: es) env = (false, PySem.assign e env) :: assignEach es env := by
  cases e <;> first | (simp [isStar] at h; done) | rfl
theorem chkG_star {t : Tg} {e : Expr} (h : chkG C t e = true) : isStar e = false := by
  cases e <;> first | rfl | (cases t <;> simp [chkG] at h)
mutual
theorem pg_of (L : Lk X G Γ C) : ∀ (t : Tg) (e : Expr), chkG C t e = true → PG X e (gOf X.K t)
  | .name i, e, h => by
    cases e with
    | Name x p =>
      simp only [chkG, Bool.and_eq_true] at h
      obtain ⟨h1, h2⟩ := h
      have hn := nameAt_d h1
      exact L2.pg_name (by rw [L.N]; exact L.nd) (by rw [L.N]; exact hn.1) (L.loc' h2) (L.loc x h2)
    | _ => simp [chkG] at h
  | .tup l, e, h => by
    cases e with
    | Tuple es k p =>
      simp only [chkG] at h
      obtain ⟨h1, h2, h3⟩ := pgs_of L l es h
      simp only [gOf]
      exact pg_or (L2.pg_tup L.calm h1 h2 h3) (L2.pg_lst L.calm h1 h2 h3)
    | _ => simp [chkG] at h
theorem pgs_of (L : Lk X G Γ C) : ∀ (l : List Tg) (es : List Expr), chkGs C l es = true → PGs X es (gOfs X.K l) ∧ (assignEach es X.env).length = l.length ∧ (assignEach es X.env).findIdx? (·.1) = none
  | [], es, h => by
    cases es with
    | nil => exact ⟨L2.pgs_nil, rfl, rfl⟩
    | cons _ _ => simp [chkGs] at h
  | t :: l, es, h => by
    cases es with
    | nil => simp [chkGs] at h
    | cons e es =>
      simp only [chkGs, Bool.and_eq_true] at h
      obtain ⟨h1, h2, h3⟩ := pgs_of L l es h.2
      have hs := assign_star (es := es) (env := X.env) (chkG_star h.1)
      simp only [gOfs]
      refine ⟨L2.pgs_cons (pg_of L t e h.1) h1 (by rw [hs] <;> rfl), by rw [hs, List.length_cons, List.length_cons, h2], ?_⟩
      rw [hs, List.findIdx?_cons]
      simp [h3]
end
mutual
theorem assign_ok {K : PySem.W.Frag} {ms : List Addr} {st : Sto} {H : Hp} (hK : K = G.K) : ∀ (t : Tg) (d : PV) (u : V) (ρ ρ' : Env) (σ : L2.St) (Q : L2.St → Hp → Prop), Rep G ms st H d u → EOk G ms st H ρ σ → assign t d ρ = some ρ' →
    (∀ σ', EOk G ms st H ρ' σ' → (∀ i, i ∉ tgVars t → σ'[i]? = σ[i]?) → Q σ' H) → gOf K t u σ H Q
  | .name i, d, u, ρ, ρ', σ, Q, r, E, h, q => by
    simp only [assign, Option.some.injEq] at h
    subst h
    refine q _ (EOk.set r E) fun j hj => ?_
    simp only [tgVars, List.mem_singleton] at hj
    rw [List.getElem?_set_ne (fun z => hj z.symm)]
  | .tup l, d, u, ρ, ρ', σ, Q, r, E, h, q => by
    cases d with
    | tup xs =>
      simp only [Rep] at r
      obtain ⟨a, vs, rfl, e2, e3⟩ := r
      simp only [assign] at h
      simp only [gOf]
      simp only [tgVars] at q
      exact .inl ⟨a, vs, rfl, hK ▸ e2.sq, by rw [RepL.length _ _ e3]; exact (assigns_len l xs ρ ρ' h).symm, assigns_ok hK l xs vs ρ ρ' σ Q e3 E h q⟩
    | lst xs =>
      simp only [Rep] at r
      obtain ⟨a, vs, rfl, e2, e3⟩ := r
      simp only [assign] at h
      simp only [gOf]
      simp only [tgVars] at q
      exact .inr ⟨a, vs, rfl, hK ▸ e2.sq, by rw [RepL.length _ _ e3]; exact (assigns_len l xs ρ ρ' h).symm, assigns_ok hK l xs vs ρ ρ' σ Q e3 E h q⟩
    | _ => simp [assign] at h
theorem assigns_ok {K : PySem.W.Frag} {ms : List Addr} {st : Sto} {H : Hp} (hK : K = G.K) : ∀ (l : List Tg) (ds : List PV) (us : List V) (ρ ρ' : Env) (σ : L2.St) (Q : L2.St → Hp → Prop), RepL G ms st H ds us → EOk G ms st H ρ σ → assign.go l ds ρ = some ρ' →
    (∀ σ', EOk G ms st H ρ' σ' → (∀ i, i ∉ tgVarss l → σ'[i]? = σ[i]?) → Q σ' H) → gOfs K l us σ H Q
  | [], ds, us, ρ, ρ', σ, Q, r, E, h, q => by
    cases ds with
    | nil =>
      simp only [assign.go, Option.some.injEq] at h
      subst h
      simp only [RepL] at r
      simp only [gOfs]
      exact ⟨r, q σ E fun _ _ => rfl⟩
    | cons _ _ => simp [assign.go] at h
  | t :: l, ds, us, ρ, ρ', σ, Q, r, E, h, q => by
    cases ds with
    | nil => simp [assign.go] at h
    | cons d ds =>
      simp only [assign.go] at h
      obtain ⟨ρ1, h1, h2⟩ := Option.bind_eq_some_iff.mp h
      simp only [RepL] at r
      obtain ⟨u, us', rfl, r1, r2⟩ := r
      simp only [gOfs]
      refine ⟨u, us', rfl, assign_ok hK t d u ρ ρ1 σ _ r1 E h1 fun σ1 E1 k1 => ?_⟩
      refine assigns_ok hK l ds us' ρ1 ρ' σ1 Q r2 E1 h2 fun σ2 E2 k2 => q σ2 E2 fun i hi => ?_
      simp only [tgVarss, List.mem_append, not_or] at hi
      rw [k2 i hi.2, k1 i hi.1]
theorem assigns_len : ∀ (l : List Tg) (ds : List PV) (ρ ρ' : Env), assign.go l ds ρ = some ρ' → l.length = ds.length
  | [], ds, ρ, ρ', h => by
    cases ds with
    | nil => rfl
    | cons _ _ => simp [assign.go] at h
  | t :: l, ds, ρ, ρ', h => by
    cases ds with
    | nil => simp [assign.go] at h
    | cons d ds =>
      simp only [assign.go] at h
      obtain ⟨ρ1, h1, h2⟩ := Option.bind_eq_some_iff.mp h
      rw [List.length_cons, List.length_cons, assigns_len l ds ρ1 ρ' h2]
end

/-! ### what is walked -/
/-- J walks what src tells, wherever one is from there on -/
def SrcOk (G : Ctx) (lo : Nat) (ms : List Addr) (st : Sto) (H : Hp) (src : Src) (J : L2.It) : Prop := match src with
  | .fix ds => ∀ G' ms1 st1 H1, Carry G G' ms st H ms1 st1 H1 → (∀ i, ds.length ≤ i → J.stop i H1) ∧
      ∀ i d, ds[i]? = some d → J.go i H1 ∧ ∀ x H2, J.yld i H1 x H2 → (∀ a, H1 a ≠ none → H2 a = H1 a) ∧ Rep G' ms1 st1 H2 d x
  | .live i => ∃ a, ms[i]? = some a ∧ J = L2.Itl G.K a
  | .liveE _ => False
def tI (G : Ctx) (lo : Nat) (W : L2.WX) (d : Env → Sto → R Src) : L2.TI := fun σ H R => ∃ ms ρ st, lo ≤ st.length ∧ SOk G ms st H ∧ EOk G ms st H ρ σ ∧ Res G (SrcOk G lo) lo ms st H (d ρ st) R fun c H' => W (.ref (G.ca c)) none σ H'

theorem src_list {ms : List Addr} {st : Sto} {H : Hp} {xs : List PV} {a : Addr} {vs : List V} (f : FL G.rsv ms st H a vs) (r : RepL G ms st H xs vs) : SrcOk G lo ms st H (.fix xs) (L2.Itl G.K a) := fun G' ms1 st1 H1 e => by
  have f1 : FL G'.rsv ms1 st1 H1 a vs := e.rd _ _ f.1 f.2
  have r1 := RepL.carry e _ _ r
  have hl := RepL.length _ _ r
  refine ⟨fun i hi => ⟨vs, f1.sq, by omega⟩, fun i d hd => ?_⟩
  obtain ⟨v, hv, rv⟩ := RepL.get _ _ i d r1 hd
  refine ⟨⟨vs, v, f1.sq, hv⟩, fun x H2 ⟨e2, y⟩ => ?_⟩
  subst e2
  have := y vs f1.sq
  rw [hv] at this
  cases this
  exact ⟨fun _ _ => rfl, rv⟩
theorem src_tup {ms : List Addr} {st : Sto} {H : Hp} {xs : List PV} {a : Addr} {vs : List V} (f : FT G.K H a vs) (r : RepL G ms st H xs vs) : SrcOk G lo ms st H (.fix xs) (L2.Itt G.K a) := fun G' ms1 st1 H1 e => by
  have f1 : FT G.K H1 a vs := e.tp _ _ f
  have r1 := RepL.carry e _ _ r
  have hl := RepL.length _ _ r
  refine ⟨fun i hi => ⟨vs, f1.sq, by omega⟩, fun i d hd => ?_⟩
  obtain ⟨v, hv, rv⟩ := RepL.get _ _ i d r1 hd
  refine ⟨⟨vs, v, f1.sq, hv⟩, fun x H2 ⟨e2, y⟩ => ?_⟩
  subst e2
  have := y vs f1.sq
  rw [hv] at this
  cases this
  exact ⟨fun _ _ => rfl, rv⟩

theorem src_str {ms : List Addr} {st : Sto} {H : Hp} {s : Tx} : SrcOk G lo ms st H (.fix (s.map fun c => .str [c])) (L2.Its (toS s)) := fun G' ms1 st1 H1 e => by
  have hz : (toS s).cps.size = s.length := by simp [toS]
  refine ⟨fun i hi => by show (toS s).cps.size ≤ i; rw [hz]; simpa using hi, fun i d hd => ?_⟩
  rw [List.getElem?_map] at hd
  obtain ⟨c, hc, rfl⟩ := Option.map_eq_some_iff.mp hd
  have hi := (List.getElem?_eq_some_iff.mp hc).1
  refine ⟨by show i < (toS s).cps.size; rw [hz]; exact hi, fun x H2 ⟨e2, c', hc', ex⟩ => ?_⟩
  subst e2; subst ex
  have e3 : (toS s).cps[i]? = some c.toNat := by simp [toS, hc]
  rw [e3] at hc'
  cases hc'
  exact ⟨fun _ _ => rfl, by simp [Rep, toS]⟩
def rIt (K : PySem.W.Frag) : V → Hp → (L2.It → Hp → Prop) → Prop := fun x H R => (∃ a, x = .ref a ∧ (∃ xs, SqL K H a xs) ∧ R (L2.Itl K a) H) ∨ (∃ a, x = .ref a ∧ (∃ xs, SqT K H a xs) ∧ R (L2.Itt K a) H) ∨ ∃ z, x = .str z ∧ R (L2.Its z) H
open L2 in
theorem pi_val {tg e : Expr} {te : TE} (he : PE X e te) : PI X tg e (fun σ H R => te σ H fun x H1 => rIt X.K x H1 R) := by
  refine ⟨fun pins s σ H R I h => ?_⟩
  refine thn (he.run pins s σ H _ I h) fun v s1 ⟨x, H1, I1, r1, q1⟩ => ?_
  rcases q1 with ⟨a, e, ⟨xs, hq⟩, q⟩ | ⟨a, e, ⟨xs, hq⟩, q⟩ | ⟨z, e, q⟩
  · subst e
    cases r1
    obtain ⟨its, rv, p, hz⟩ := I1.list hq
    refine wpAny_pyIter_list p.isList ?_
    refine ⟨s1.heap.objs.size, [s1.heap.objs.size], _, _, H1, rfl, I1.kept (t' := s1.toks) fun b o e => Heap.get?_push_of_some _ e, turn_list a _, ⟨_, Heap.get?_push_size _ rfl, rfl, rfl⟩, fun b hb => ?_, q⟩
    have e : b = s1.heap.objs.size := by simpa using hb
    subst e
    exact I1.fpOk (Nat.le_refl _) (I1.hok.fresh (Nat.le_refl _))
  · subst e
    cases r1
    obtain ⟨its, rv, p, hz⟩ := I1.tuple hq
    refine wpAny_pyIter_tuple (show s1.heap.IsTuple a its.toArray from p) ?_
    refine ⟨s1.heap.objs.size, [s1.heap.objs.size], _, _, H1, rfl, I1.kept (t' := s1.toks) fun b o e => Heap.get?_push_of_some _ e, turn_tuple a _, ⟨_, Heap.get?_push_size _ rfl, rfl, rfl⟩, fun b hb => ?_, q⟩
    have e : b = s1.heap.objs.size := by simpa using hb
    subst e
    exact I1.fpOk (Nat.le_refl _) (I1.hok.fresh (Nat.le_refl _))
  · subst e
    obtain ⟨t, rfl⟩ := r1
    cases ha : z.cps.all (· < 128)
    · exact wpAny_pyIter_wide ha (pi_one (tk := s1.toks) I1 _ (turn_str _ z t "str_iterator" (.inr rfl)) ⟨_, Heap.get?_push_size _ rfl, rfl, rfl⟩ q)
    · exact wpAny_pyIter_ascii ha (pi_one (tk := s1.toks) I1 _ (turn_str _ z t "str_ascii_iterator" (.inl rfl)) ⟨_, Heap.get?_push_size _ rfl, rfl, rfl⟩ q)
theorem t_seq (L : Lk X G Γ C) {tg e : Expr} {d : Env → Sto → R PV} (he : PE X e (tE G lo W d)) : PI X tg e (tI G lo W fun ρ st => (d ρ st).bind srcOf) :=
  (pi_val he).weak fun σ H Q ⟨ms, ρ, st, hl, S, E, q⟩ => ⟨ms, ρ, st, hl, S, E, q.bind1 (rep := Rep G) fun x st1 ms1 H1 u e1 S1 r1 q1 => by
    rw [L.K]
    cases x with
    | lst xs =>
      simp only [srcOf] at q1
      simp only [Rep] at r1
      obtain ⟨a, vs, rfl, e2, e3⟩ := r1
      exact .inl ⟨a, rfl, ⟨vs, e2.sq⟩, q1.done S1 (src_list e2 e3)⟩
    | tup xs =>
      simp only [srcOf] at q1
      simp only [Rep] at r1
      obtain ⟨a, vs, rfl, e2, e3⟩ := r1
      exact .inr (.inl ⟨a, rfl, ⟨vs, e2.sq⟩, q1.done S1 (src_tup e2 e3)⟩)
    | str s =>
      simp only [srcOf] at q1
      simp only [Rep] at r1
      subst r1
      exact .inr (.inr ⟨_, rfl, q1.done S1 src_str⟩)
    | box i =>
      simp only [srcOf] at q1
      simp only [Rep] at r1
      obtain ⟨a, rfl, e2⟩ := r1
      split at q1
      · rename_i xs hi
        obtain ⟨vs, e3, e4⟩ := S1.obj i _ a hi e2
        exact .inl ⟨a, rfl, ⟨vs, .of e3⟩, q1.done S1 ⟨a, e2, rfl⟩⟩
      · exact q1.elim
    | _ => exact q1.elim⟩
theorem src_rng {ms : List Addr} {st : Sto} {H : Hp} {m : Int} {n : Nat} {xs : List PV} (hx : xs = (List.range n).map fun (k : Nat) => .int (m + k)) : SrcOk G lo ms st H (.fix xs) (L2.Itr m n) := fun G' ms1 st1 H1 e => by
  subst hx
  refine ⟨fun i hi => (by simp at hi; exact hi), fun i d hd => ?_⟩
  rw [List.getElem?_map] at hd
  obtain ⟨k, hk, rfl⟩ := Option.map_eq_some_iff.mp hd
  have hi := (List.getElem?_eq_some_iff.mp hk).1
  rw [List.length_range] at hi
  rw [List.getElem?_range hi] at hk
  cases hk
  exact ⟨hi, fun x H2 ⟨e2, ex⟩ => by subst e2; subst ex; exact ⟨fun _ _ => rfl, by simp [Rep]⟩⟩
theorem t_range1 (L : Lk X G Γ C) {tg e : Expr} {x : Str} {p pos : Pos} {m : ME} (hx : x = Str.ofString "range") (hg : isGl C.sc x = true) (he : PE X e (tE G lo W (Z.eval Γ lo m))) (hst : isStar e = false) :
    PI X tg (.Call (.Name x p) [e] [] pos) (tI G lo W (source Γ lo (.range1 m))) := by
  subst hx
  refine (L2.pi_range1 (L.glo hg) (L.bi "range" (by decide)) (L2.pa_cons he L2.pa_nil (star_cons hst)) (by rw [star_cons hst] <;> rfl)).weak fun σ H Q ⟨ms, ρ, st, hl, S, E, q⟩ => ?_
  simp only [source] at q
  refine ⟨ms, ρ, st, hl, S, E, q.bind1 (rep := Rep G) fun x st1 ms1 H1 u e1 S1 r1 q1 => ?_⟩
  cases x with
  | int n =>
    simp only at q1
    split at q1
    · rename_i hn
      simp only [Bool.and_eq_true, decide_eq_true_eq] at hn
      simp only [Rep] at r1
      subst r1
      exact ⟨n, rfl, by omega, by omega, q1.done S1 (src_rng (m := 0) (by simp))⟩
    · exact q1.elim
  | _ => exact q1.elim
theorem t_range2 (L : Lk X G Γ C) {tg e e' : Expr} {x : Str} {p pos : Pos} {m m' : ME} (hx : x = Str.ofString "range") (hg : isGl C.sc x = true) (he : PE X e (tE G lo W (Z.eval Γ lo m))) (he' : PE X e' (tE G lo W (Z.eval Γ lo m'))) (hst : isStar e = false) (hst' : isStar e' = false) :
    PI X tg (.Call (.Name x p) [e, e'] [] pos) (tI G lo W (source Γ lo (.range2 m m'))) := by
  subst hx
  refine (L2.pi_range2 (L.glo hg) (L.bi "range" (by decide)) (L2.pa_cons he (L2.pa_cons he' L2.pa_nil (star_cons hst')) (star_cons hst)) (by rw [star_cons hst, star_cons hst'] <;> rfl) (by rw [star_cons hst'] <;> rfl)).weak fun σ H Q ⟨ms, ρ, st, hl, S, E, q⟩ => ?_
  simp only [source] at q
  refine ⟨ms, ρ, st, hl, S, E, q.bind1 (rep := Rep G) fun x st1 ms1 H1 u e1 S1 r1 q1 => ?_⟩
  refine ⟨ms1, ρ, st1, e1.le S S1 hl, S1, E.ext e1, q1.bind1 (rep := Rep G) fun y st2 ms2 H2 u2 e2 S2 r2 q2 => ?_⟩
  split at q2
  · split at q2
    · rename_i hn
      simp only [Bool.and_eq_true, decide_eq_true_eq] at hn
      simp only [Rep] at r1 r2
      subst r1; subst r2
      exact ⟨_, _, rfl, ⟨by omega, by omega, by omega, by omega⟩, q2.done S2 (src_rng rfl)⟩
    · exact q2.elim
  · exact q2.elim
theorem pairs_get : ∀ (xs : List PV) (k i : Nat) (d : PV), (pairs k xs)[i]? = some d → ∃ x, xs[i]? = some x ∧ d = .tup [.int ((k + i : Nat) : Int), x]
  | [], k, i, d, h => by simp [pairs] at h
  | x :: xs, k, 0, d, h => by simp [pairs] at h; exact ⟨x, rfl, h.symm⟩
  | x :: xs, k, i + 1, d, h => by
    simp only [pairs, List.getElem?_cons_succ] at h
    obtain ⟨y, h1, h2⟩ := pairs_get xs (k + 1) i d h
    exact ⟨y, by simpa using h1, by rw [h2, show k + 1 + i = k + (i + 1) by omega]⟩
theorem pairs_len : ∀ (xs : List PV) (k : Nat), (pairs k xs).length = xs.length
  | [], k => rfl
  | x :: xs, k => by simp [pairs, pairs_len xs]
theorem zip_get : ∀ (xs ys : List PV) (i : Nat) (d : PV), (zipV xs ys)[i]? = some d → ∃ x y, xs[i]? = some x ∧ ys[i]? = some y ∧ d = .tup [x, y]
  | [], ys, i, d, h => by simp [zipV] at h
  | x :: xs, [], i, d, h => by simp [zipV] at h
  | x :: xs, y :: ys, 0, d, h => by simp [zipV] at h; exact ⟨x, y, rfl, rfl, h.symm⟩
  | x :: xs, y :: ys, i + 1, d, h => by
    simp only [zipV, List.getElem?_cons_succ] at h
    obtain ⟨a, b, h1, h2, h3⟩ := zip_get xs ys i d h
    exact ⟨a, b, by simpa using h1, by simpa using h2, h3⟩
theorem zip_len : ∀ (xs ys : List PV), (zipV xs ys).length = min xs.length ys.length
  | [], ys => by simp [zipV]
  | x :: xs, [] => by simp [zipV]
  | x :: xs, y :: ys => by
    simp only [zipV, List.length_cons, zip_len xs ys]
    omega
/-- a pair that is handed out -/
theorem pair_rep {ms : List Addr} {st : Sto} {H : Hp} {x y : PV} {u v : V} {T : Addr} (hT : H T = none) (rx : Rep G ms st H x u) (ry : Rep G ms st H y v) : (∀ a, H a ≠ none → upd H T (.tup [u, v]) a = H a) ∧ Rep G ms st (upd H T (.tup [u, v])) (.tup [x, y]) (.ref T) := by
  have e := Ext.grow (rs := G.rsv) (lo := 0) (ms := ms) (st := st) (upd_grow (o := .tup [u, v]) hT)
  refine ⟨upd_grow hT, ?_⟩
  simp only [Rep]
  refine ⟨T, _, rfl, upd_same, ?_⟩
  simp only [RepL]
  exact ⟨u, [v], rfl, Rep.ext e _ _ rx, v, [], rfl, Rep.ext e _ _ ry, rfl⟩
theorem src_enum {ms : List Addr} {st : Sto} {H : Hp} {xs : List PV} {a : Addr} {vs : List V} (f : FL G.rsv ms st H a vs) (r : RepL G ms st H xs vs) : SrcOk G lo ms st H (.fix (pairs 0 xs)) (L2.Ite G.K a) := fun G' ms1 st1 H1 e => by
  have f1 : FL G'.rsv ms1 st1 H1 a vs := e.rd _ _ f.1 f.2
  have r1 := RepL.carry e _ _ r
  have hl := RepL.length _ _ r
  refine ⟨fun i hi => ⟨vs, f1.sq, by rw [pairs_len] at hi; omega⟩, fun i d hd => ?_⟩
  obtain ⟨d', hd', rfl⟩ := pairs_get xs 0 i d hd
  obtain ⟨v, hv, rv⟩ := RepL.get _ _ i d' r1 hd'
  refine ⟨⟨vs, v, f1.sq, hv⟩, fun x H2 ⟨T, y, ex, hT, eH, hy⟩ => ?_⟩
  subst ex; subst eH
  have := hy vs f1.sq
  rw [hv] at this
  cases this
  exact pair_rep hT (by simp [Rep]) rv
theorem src_zip {ms : List Addr} {st : Sto} {H : Hp} {xs ys : List PV} {a b : Addr} {vs ws : List V} (f : FL G.rsv ms st H a vs) (r : RepL G ms st H xs vs) (f' : FL G.rsv ms st H b ws) (r' : RepL G ms st H ys ws) : SrcOk G lo ms st H (.fix (zipV xs ys)) (L2.Itz G.K a b) := fun G' ms1 st1 H1 e => by
  have f1 : FL G'.rsv ms1 st1 H1 a vs := e.rd _ _ f.1 f.2
  have r1 := RepL.carry e _ _ r
  have hl := RepL.length _ _ r
  have f2 : FL G'.rsv ms1 st1 H1 b ws := e.rd _ _ f'.1 f'.2
  have r2 := RepL.carry e _ _ r'
  have hl2 := RepL.length _ _ r'
  refine ⟨fun i hi => ⟨vs, ws, f1.sq, f2.sq, by rw [zip_len] at hi; omega⟩, fun i d hd => ?_⟩
  obtain ⟨d1, d2, h1, h2, rfl⟩ := zip_get xs ys i d hd
  obtain ⟨v, hv, rv⟩ := RepL.get _ _ i d1 r1 h1
  obtain ⟨w, hw, rw'⟩ := RepL.get _ _ i d2 r2 h2
  refine ⟨⟨vs, ws, v, w, f1.sq, f2.sq, hv, hw⟩, fun x H2 ⟨T, y, z, ex, hT, eH, hy, hz⟩ => ?_⟩
  subst ex; subst eH
  have q1 := hy vs f1.sq
  have q2 := hz ws f2.sq
  rw [hv] at q1
  rw [hw] at q2
  cases q1
  cases q2
  exact pair_rep hT rv rw'
theorem t_enum (L : Lk X G Γ C) {tg e : Expr} {x : Str} {p pos : Pos} {m : ME} (ht : isTupTg tg = true) (hx : x = Str.ofString "enumerate") (hg : isGl C.sc x = true) (he : PE X e (tE G lo W (Z.eval Γ lo m))) (hst : isStar e = false) :
    PI X tg (.Call (.Name x p) [e] [] pos) (tI G lo W (source Γ lo (.enum m))) := by
  subst hx
  cases tg with
  | Tuple elts k tp =>
    refine (L2.pi_enum (L.glo hg) (L.bi "enumerate" (by decide)) (L2.pa_cons he L2.pa_nil (star_cons hst)) (by rw [star_cons hst] <;> rfl)).weak fun σ H Q ⟨ms, ρ, st, hl, S, E, q⟩ => ?_
    simp only [source] at q
    refine ⟨ms, ρ, st, hl, S, E, q.bind1 (rep := Rep G) fun x st1 ms1 H1 u e1 S1 r1 q1 => ?_⟩
    cases x with
    | lst xs =>
      simp only [Rep] at r1
      obtain ⟨a, vs, rfl, e2, e3⟩ := r1
      exact ⟨a, vs, rfl, e2.sq, L.K ▸ q1.done S1 (src_enum e2 e3)⟩
    | _ => exact q1.elim
  | _ => simp [isTupTg] at ht
theorem t_zip (L : Lk X G Γ C) {tg e e' : Expr} {x : Str} {p pos : Pos} {m m' : ME} (ht : isTupTg tg = true) (hx : x = Str.ofString "zip") (hg : isGl C.sc x = true) (he : PE X e (tE G lo W (Z.eval Γ lo m))) (he' : PE X e' (tE G lo W (Z.eval Γ lo m'))) (hst : isStar e = false) (hst' : isStar e' = false) :
    PI X tg (.Call (.Name x p) [e, e'] [] pos) (tI G lo W (source Γ lo (.zip m m'))) := by
  subst hx
  cases tg with
  | Tuple elts k tp =>
    refine (L2.pi_zip (L.glo hg) (L.bi "zip" (by decide)) (L2.pa_cons he (L2.pa_cons he' L2.pa_nil (star_cons hst')) (star_cons hst)) (star_cons hst) (by rw [star_cons hst'] <;> rfl)).weak fun σ H Q ⟨ms, ρ, st, hl, S, E, q⟩ => ?_
    simp only [source] at q
    refine ⟨ms, ρ, st, hl, S, E, q.bind1 (rep := Rep G) fun x st1 ms1 H1 u e1 S1 r1 q1 => ?_⟩
    refine ⟨ms1, ρ, st1, e1.le S S1 hl, S1, E.ext e1, q1.bind1 (rep := Rep G) fun y st2 ms2 H2 u2 e2 S2 r2 q2 => ?_⟩
    split at q2
    · have r1' := Rep.ext e2 _ _ r1
      simp only [Rep] at r1' r2
      obtain ⟨a, vs, rfl, e3, e4⟩ := r1'
      obtain ⟨b, ws, rfl, e5, e6⟩ := r2
      exact ⟨a, b, vs, ws, rfl, L.K ▸ e3.sq, L.K ▸ e5.sq, L.K ▸ q2.done S2 (src_zip e3 e4 e5 e6)⟩
    · exact q2.elim
  | _ => simp [isTupTg] at ht
end
end Z

set_option maxHeartbeats 200000
set_option maxRecDepth 512
set_option maxRecDepth 100000
set_option maxHeartbeats 4000000
/-! set(list), sorted(set(list)), len(set(list)): of whole numbers or texts. -/
namespace Z
open PySem PySem.Spec PyProof.Rows
open L2 (V HO Hp SqL SqT Rd upd upd_same upd_ne ne_of ne_of_none Cx PE PT PS PSs PA PG PI Inv VK TE TA TS TT RelV Vals Dp DpAll Ris SetAt)
open PySem.W (EachIs)

section
variable {P : Program} {w : World} {Ky : Type} [DecidableEq Ky] {knd : PySem.KeyKind P w Ky}
def ElG (knd : PySem.KeyKind P w Ky) (e : Int × Value) (k : Ky) : Prop := knd.is k e.2 = true ∧ e.1 = knd.hash k ∧ e.2.scannable = true
/-- a set of just the keys ms -/
def SetG (knd : PySem.KeyKind P w Ky) (h : Heap) (a : Addr) (ms : List Ky) (n : Nat) : Prop :=
  ∃ o es ep t ks, h.get? a = some o ∧ o.ExactSet ∧ o.data = .set es ep t ∧ EachIs (ElG knd) es.toList ks ∧ ks.Nodup ∧ (∀ k, k ∈ ks ↔ k ∈ ms) ∧
    es.size < scanBound ∧ t.fits es.size = true ∧ es.size = n ∧ Ris t.place.toList ∧ (w.params.followText "set-order" = true ∨ t.led = true)
theorem SetG.at {h h' : Heap} {a : Addr} {ms : List Ky} {n : Nat} (R : SetG knd h a ms n) (k : ∀ o, h.get? a = some o → h'.get? a = some o) : SetG knd h' a ms n := by
  obtain ⟨o, es, ep, t, ks, ho, r⟩ := R
  exact ⟨o, es, ep, t, ks, k o ho, r⟩
theorem SetG.congr {h : Heap} {a : Addr} {ms ms' : List Ky} {n : Nat} (R : SetG knd h a ms n) (e : ∀ k, k ∈ ms' ↔ k ∈ ms) : SetG knd h a ms' n := by
  obtain ⟨o, es, ep, t, ks, ho, h1, h2, h3, h4, h5, r⟩ := R
  exact ⟨o, es, ep, t, ks, ho, h1, h2, h3, h4, fun k => (h5 k).trans (e k).symm, r⟩
theorem each_mem_l {α β : Type} {R : α → β → Prop} : ∀ {xs : List α} {ys : List β}, EachIs R xs ys → ∀ x ∈ xs, ∃ y ∈ ys, R x y
  | _, _, .nil, x, h => by simp at h
  | _, _, .cons r t, x, h => by
    rcases List.mem_cons.mp h with rfl | h
    · exact ⟨_, List.mem_cons_self, r⟩
    · obtain ⟨y, a, b⟩ := each_mem_l t x h
      exact ⟨y, List.mem_cons_of_mem _ a, b⟩
theorem each_mem_r {α β : Type} {R : α → β → Prop} : ∀ {xs : List α} {ys : List β}, EachIs R xs ys → ∀ y ∈ ys, ∃ x ∈ xs, R x y
  | _, _, .nil, x, h => by simp at h
  | _, _, .cons r t, x, h => by
    rcases List.mem_cons.mp h with rfl | h
    · exact ⟨_, List.mem_cons_self, r⟩
    · obtain ⟨y, a, b⟩ := each_mem_r t x h
      exact ⟨y, List.mem_cons_of_mem _ a, b⟩
theorem elems_of {es : List (Int × Value)} {ks : List Ky} (g : EachIs (ElG knd) es ks) : ElemsOf knd es := fun e he => by
  obtain ⟨k, _, h1, h2, h3⟩ := each_mem_l g e he
  exact ⟨⟨k, h1, h2⟩, h3⟩
theorem each_perm {α β : Type} {R : α → β → Prop} : ∀ {xs xs' : List α} {ys : List β}, EachIs R xs ys → xs'.Perm xs → ∃ ys', ys'.Perm ys ∧ EachIs R xs' ys' := by
  intro xs xs' ys h p
  induction p generalizing ys with
  | nil => exact ⟨ys, List.Perm.refl _, h⟩
  | cons x p ih =>
    cases h with
    | cons r t =>
      obtain ⟨ys', a, b⟩ := ih t
      exact ⟨_ :: ys', a.cons _, .cons r b⟩
  | swap x y l =>
    cases h with
    | cons r t => cases t with
      | cons r' t' => exact ⟨_, List.Perm.swap _ _ _, .cons r' (.cons r t')⟩
  | trans p q i1 i2 =>
    obtain ⟨y1, a1, b1⟩ := i2 h
    obtain ⟨y2, a2, b2⟩ := i1 b1
    exact ⟨y2, a2.trans a1, b2⟩

variable {A : Around} {E : Value → Shared → Prop} {s : Shared} {a : Addr} {n : Nat}
theorem setG_add_tail {g : Bool → Sem Unit} (hg : ∀ (b : Bool) (s₁ : Shared) (Q' : Unit → Shared → Prop), Q' () s₁ → wpAny (model P w) A (g b) Q' E s₁)
    {o : Obj} {es : Array (Int × Value)} {ep : Nat} {t : SetTable} (ho : s.heap.get? a = some o) (hex : o.ExactSet) (hd : o.data = .set es ep t)
    {es1 : Array (Int × Value)} {t2 : SetTable} {ks ms : List Ky} (g1 : EachIs (ElG knd) es1.toList ks) (nd1 : ks.Nodup) (m1 : ∀ k, k ∈ ks ↔ k ∈ ms)
    (hb1 : es1.size < scanBound) (hf2 : t2.fits es1.size = true) (hr : Ris t2.place.toList) (hl : w.params.followText "set-order" = true ∨ t2.led = true) {wasDummy : Bool} {R : Option Bool → Shared → Prop}
    (hR : ∀ h', Heap.SameBut a s.heap h' → SetG knd h' a ms es1.size → R (some true) { s with heap := h' }) :
    wpAny (model P w) A (do
        storeSet a es1 t2
        if (!wasDummy && t2.tooFull) = true then do
            g (relayAll t2 es1 (SetTable.grown es1.size)).2.2
            storeSet a (relayAll t2 es1 (SetTable.grown es1.size)).1 (relayAll t2 es1 (SetTable.grown es1.size)).2.1
            pure (some true)
          else pure (some true)) R E s := by
  refine wpAny_bind (wpAny_storeSet_of ho hd ?_ (fits_of_scanBound hb1))
  have ho1 := L2.store_at (es' := es1) (t' := t2) ho hd
  have sb1 := Heap.SameBut.update s.heap a (Obj.putSet es1 t2)
  split
  · have pm := relayAll_perm t2 es1 (SetTable.grown es1.size)
    have hf3 := relayAll_fits t2 es1 (SetTable.grown es1.size)
    have hr3 := L2.relayAll_ris t2 es1 (SetTable.grown es1.size)
    have hl3 := L2.relayAll_led t2 es1 (SetTable.grown es1.size)
    generalize relayAll t2 es1 (SetTable.grown es1.size) = Z at pm hf3 hr3 hl3 ⊢
    obtain ⟨es2, t3, gave⟩ := Z
    dsimp only at pm hf3 hr3 hl3 ⊢
    have hsz : es2.size = es1.size := by rw [← Array.length_toList, pm.length_eq, Array.length_toList]
    have hb2 : es2.size < scanBound := by rw [hsz]; exact hb1
    obtain ⟨ks2, p2, g2⟩ := each_perm g1 pm
    refine wpAny_bind (hg _ _ _ ?_)
    refine wpAny_bind (wpAny_storeSet_of ho1 rfl ?_ (fits_of_scanBound hb2))
    have ho2 := L2.store_at (es' := es2) (t' := t3) ho1 rfl
    refine wpAny_pure (hR _ (sb1.trans (Heap.SameBut.update _ a _)) ?_)
    exact ⟨_, es2, _, t3, ks2, ho2, hex, rfl, g2, p2.nodup_iff.mpr nd1, fun k => (p2.mem_iff).trans (m1 k), hb2, hf3, hsz, hr3, hl.imp id fun z => by rw [hl3]; exact z⟩
  · exact wpAny_pure (hR _ sb1 ⟨_, es1, _, t2, ks, ho1, hex, rfl, g1, nd1, m1, hb1, hf2, rfl, hr, hl⟩)

theorem setG_add_hashed {k : Ky} {x : Value} {ms : List Ky} {Q : Bool → Shared → Prop} (hkey : knd.is k x = true) (hsc : x.scannable = true) (R : SetG knd s.heap a ms n) (room : n + 1 < scanBound)
    (hQ : ∀ (b : Bool) h' c, Heap.SameBut a s.heap h' → SetG knd h' a (k :: ms) c → c ≤ n + 1 → Q b { s with heap := h' }) :
    wpAny (model P w) A (setAddHashed a x (knd.hash k)) Q E s := by
  obtain ⟨o, es, ep, t, ks, ho, hex, hd, g, nd, hm, hb, hf, hn, hr, hl⟩ := R
  have hel : ElemsOf knd es.toList := elems_of g
  unfold setAddHashed setAddHashedIn
  refine wpAny_holding (wpAny_bind (wpAny_setState_of ho hd hf ?_))
  dsimp only
  rw [byScan_of hsc hb hel]
  simp only [↓reduceIte]
  unfold setAddByScan
  refine wpAny_bind ?_
  refine wpAny_bind (wpAny_rule ?_)
  refine wpAny_bind (wpAny_setScan_of hkey ho hd hf hel ?_)
  cases hfi : List.findIdx? (fun e => knd.is k e.2) es.toList with
  | some j =>
    dsimp only
    obtain ⟨hj, pj, _⟩ := List.findIdx?_eq_some_iff_getElem.mp hfi
    have hkm : k ∈ ks := by
      obtain ⟨k', hk', h1, h2, h3⟩ := each_mem_l g es.toList[j] (List.getElem_mem hj)
      have e := knd.inj _ _ _ h1 pj
      rw [← e]; exact hk'
    refine wpAny_pure (wpAny_pure ?_)
    refine hQ _ s.heap n (Heap.SameBut.refl a s.heap) ⟨o, es, ep, t, ks, ho, hex, hd, g, nd, fun i => ?_, hb, hf, hn, hr, hl⟩ (Nat.le_succ _)
    rw [hm i, List.mem_cons]
    exact ⟨.inr, fun z => z.elim (fun e => by rw [e]; exact (hm k).mp hkm) id⟩
  | none =>
    dsimp only
    have hnk : k ∉ ks := fun z => by
      obtain ⟨e, he, q1, q2, q3⟩ := each_mem_r g k z
      have c := List.findIdx?_eq_none_iff.mp hfi e he
      rw [q1] at c
      cases c
    have hgw : ∀ (b : Bool) {s₁ : Shared} {Q' : Unit → Shared → Prop}, Q' () s₁ → wpAny (model P w) A (match b with | true => rule "set.scan.the-table-gave-way" | false => pure ()) Q' E s₁ :=
      fun b s₁ Q' q => by cases b <;> first | exact wpAny_pure q | exact wpAny_rule q
    have pm := layNew_perm t es (knd.hash k) x
    have hf1 := layNew_fits t es (knd.hash k) x
    have hr1 := L2.layNew_ris t es (knd.hash k) x hr
    have hl1 := L2.layNew_led t es (knd.hash k) x
    generalize layNew t es (knd.hash k) x = Z at pm hf1 hr1 hl1 ⊢
    obtain ⟨es1, t1, wasDummy, gave⟩ := Z
    dsimp only at pm hf1 hr1 hl1 ⊢
    rw [Array.toList_push] at pm
    have pc : es1.toList.Perm ((knd.hash k, x) :: es.toList) := pm.trans (List.perm_append_singleton _ _)
    obtain ⟨ks1, pk, g1⟩ := each_perm (EachIs.cons (show ElG knd (knd.hash k, x) k from ⟨hkey, rfl, hsc⟩) g) pc
    have nd1 : ks1.Nodup := pk.nodup_iff.mpr (List.nodup_cons.mpr ⟨hnk, nd⟩)
    have m1 : ∀ i, i ∈ ks1 ↔ i ∈ k :: ms := fun i => by
      rw [pk.mem_iff, List.mem_cons, List.mem_cons, hm i]
    have hsz : es1.size = n + 1 := by rw [← Array.length_toList, pc.length_eq, List.length_cons, Array.length_toList, hn]
    have hb1 : es1.size < scanBound := by rw [hsz]; exact room
    have hled : w.params.followText "set-order" = true ∨ t1.led = true := hl.imp id fun z => by rw [hl1]; exact z
    have fin : ∀ h', Heap.SameBut a s.heap h' → SetG knd h' a (k :: ms) es1.size → Q true { s with heap := h' } := fun h' sb r => hQ _ h' _ sb r (Nat.le_of_eq hsz)
    refine wpAny_bind (hgw _ ?_)
    split
    · refine wpAny_bind ?_
      rw [hashByValue_scannable 8 hsc]
      refine wpAny_pure ?_
      refine setG_add_tail ?_ ho hex hd g1 nd1 m1 hb1 ?_ ?_ ?_ ?_
      · intro b s₁ Q' q; cases b <;> first | exact wpAny_pure q | exact wpAny_rule q
      · first | (split <;> first | exact hf1 | exact SetTable.fits_plain_off hf1) | exact hf1
      · first | (split <;> exact hr1) | exact hr1
      · first | (split <;> exact hled) | exact hled
      · intro h' sb r; dsimp only; exact wpAny_pure (fin h' sb r)
    · refine wpAny_bind (wpAny_pure ?_)
      simp only [↓reduceIte]
      refine setG_add_tail ?_ ho hex hd g1 nd1 m1 hb1 hf1 hr1 hled ?_
      · intro b s₁ Q' q; cases b <;> first | exact wpAny_pure q | exact wpAny_rule q
      · intro h' sb r; dsimp only; exact wpAny_pure (fin h' sb r)
/-- a set that is new -/
theorem setG_fresh {h : Heap} {a : Addr} (ho : h.get? a = some { cls := .type "set", dict := none, data := .set #[] 0 (.fresh 0 0 (!w.params.followText "set-order")) }) : SetG knd h a ([] : List Ky) 0 :=
  ⟨_, #[], 0, _, [], ho, ⟨rfl, rfl, rfl⟩, rfl, .nil, List.nodup_nil, fun k => Iff.rfl, (by decide), (by rfl), rfl, List.Pairwise.nil, by
    show _ ∨ (!w.params.followText "set-order") = true
    cases w.params.followText "set-order"
    · exact .inr rfl
    · exact .inl rfl⟩
theorem set_updateG {I : Addr} {fp wr : List Addr} {G : Array GenState → Array GenState → Prop} {n : Nat} {Pv : Nat → Value → Prop} {St : Nat → Shared → Prop} {R : Result → Shared → Prop}
    (W : WalksS P w A.in1 I fp wr G n Pv St) (S : Addr) (hSf : S ∉ fp) (ns : List Ky) (hn : n = ns.length) (hb : ns.length + 1 < scanBound) (hval : ∀ i v, Pv i v → ∃ k, ns[i]? = some k ∧ knd.is k v = true ∧ v.scannable = true) :
    ∀ (k i : Nat) (s : Shared), n - i = k → i ≤ n → St i s → (∃ c, c ≤ i ∧ SetG knd s.heap S (ns.take i) c) →
      (∀ s' c, Moved (S :: wr) G s s' → c ≤ n → SetG knd s'.heap S ns c → R (.ok (.ret .none)) s') →
      codeAny (model P w) A (.builtin "set.update.loop" ⟨[.ref S, .ref I], []⟩) R s := by
  have hSw : S ∉ wr := fun h => hSf (W.sub _ h)
  have hsub : ∀ b ∈ wr, b ∈ S :: wr := fun b hb => List.mem_cons_of_mem _ hb
  intro k
  induction k with
  | zero =>
    intro i s hk' hi hst ⟨c, hc, hS⟩ hR
    have hin : i = n := by omega
    subst hin
    refine codeAny_builtin F.entry_set_update_loop ?_
    rw [Around.under_plainId F.plain_set_update_loop _]
    show wpAny _ A.in1 (pyNext (.ref I) >>= _) _ _ s
    refine wpAny_bind (W.done s _ _ hst fun s' hm => ?_)
    show wpAny _ A.in1 (ret Value.none) _ _ s'
    have e : ns.take i = ns := List.take_of_length_le (by omega)
    rw [e] at hS
    exact wpAny_pure (hR s' c (hm.mono hsub) hc (hS.at fun o e => hm.heap S o hSw e))
  | succ k ih =>
    intro i s hk' hi hst ⟨c, hc, hS⟩ hR
    have hlt : i < n := by omega
    refine codeAny_builtin F.entry_set_update_loop ?_
    rw [Around.under_plainId F.plain_set_update_loop _]
    show wpAny _ A.in1 (pyNext (.ref I) >>= _) _ _ s
    refine wpAny_bind (W.item i s _ _ hlt hst fun v s' hP hst' hm => ?_)
    obtain ⟨z, hz, hzv, hsc⟩ := hval i v hP
    have hS' : SetG knd s'.heap S (ns.take i) c := hS.at fun o e => hm.heap S o hSw e
    show wpAny _ A.in1 (holding [v] (setAdd S v) >>= _) _ _ s'
    refine wpAny_bind (wpAny_holding ?_)
    unfold setAdd
    refine wpAny_holding ?_
    refine wpAny_bind (knd.pyHash (k := z) hzv ?_)
    refine setG_add_hashed (s := { s' with toks := s'.toks + 1 }) hzv hsc hS' (by omega) fun b h' c2 hsb hS2 hc2 => ?_
    have hS3 : SetG knd h' S (ns.take (i + 1)) c2 := hS2.congr fun j => by
      rw [List.take_add_one, hz]
      simp [List.mem_append, or_comm]
    refine wpAny_pure ⟨plainId_quiet F.plain_set_update_loop _, ih (i + 1) _ (by omega) hlt (W.frame _ s' _ _ hst' (Nat.le_succ _) fun b hb o e => ?_) ⟨_, by omega, hS3⟩ fun s'' c2 hm'' hc'' hS'' => ?_⟩
    · rw [hsb.2 b (fun h : b = S => hSf (by rw [← h]; exact hb))]; exact e
    · refine hR s'' c2 (Moved.trans W.gtrans ((hm.mono hsub).then_heap (Nat.le_succ _) fun b o hb e => ?_) hm'') hc'' hS''
      rw [hsb.2 b (fun h : b = S => hb (by rw [h]; exact List.mem_cons_self))]; exact e

theorem call_set_listG {l : Addr} {items : Array Value} (ns : List Ky) {Q : Value → Shared → Prop} (hh : A.handled = none) (hl : s.heap.IsList l items) (hit : EachIs (fun v k => knd.is k v = true ∧ v.scannable = true) items.toList ns) (hb : ns.length + 1 < scanBound)
    (h : ∀ (h' : Heap) (tk c : Nat), SetG knd h' s.heap.objs.size ns c → c ≤ ns.length → (∀ b o, s.heap.get? b = some o → h'.get? b = some o) → Q (.ref s.heap.objs.size) { s with heap := h', toks := tk }) :
    wpAny (model P w) A (call (.type "set") [.ref l]) Q E s := by
  have hisz : items.size = ns.length := by
    have q := hit.length
    rw [Array.length_toList] at q
    exact q
  obtain ⟨c, tl, hmro⟩ := F.called_set.mro
  have hmade := F.called_set.made
  have hsub := F.called_set.sub
  refine wpAny_call (codeAny_of_tree ?_)
  show wpAny _ _ (callAny (.type "set") _) _ _ _
  refine wpAny_pure ⟨Code.quiet_builtin _ (by decide +kernel), codeAny_builtin F.entry_type_call ?_⟩
  rw [Around.under_plain (weight_type_call_type "set" [.ref l] []) rfl]
  have h1 := F.called_set.notType
  have h2 := F.called_set.canCreate
  have hct := F.typeCall_set_1 (.ref l)
  repeat (any_goals (first | assumption | wp_step))

  refine codeAny_mono (L2.code_set_led1 (.ref l) (E := E) (Q₁ := fun obj s₁ => obj = .ref s.heap.objs.size ∧ s₁ = { s with heap := s.heap.push { cls := .type "set", dict := none, data := .set #[] 0 (.fresh 0 0 (!w.params.followText "set-order")) } }) ⟨rfl, rfl⟩) fun r s₁ hr => ?_
  cases r with
  | error e => exact hr
  | ok fl =>
    cases fl with
    | ret obj =>
      obtain ⟨rfl, rfl⟩ := hr
      have hS : (s.heap.push { cls := .type "set", dict := none, data := .set #[] 0 (.fresh 0 0 (!w.params.followText "set-order")) }).get? s.heap.objs.size = some { cls := .type "set", dict := none, data := .set #[] 0 (.fresh 0 0 (!w.params.followText "set-order")) } := Heap.get?_push_size _ rfl
      have hT : Shared.TypeIs { s with heap := s.heap.push { cls := .type "set", dict := none, data := .set #[] 0 (.fresh 0 0 (!w.params.followText "set-order")) } } (.ref s.heap.objs.size) "set" := ⟨_, hS, rfl⟩
      have hli := F.called_set.init.lookup
      have hbi := F.called_set.init.bind (.ref s.heap.objs.size)
      repeat (any_goals (first | assumption | wp_step))

      refine codeAny_mono (codeAny_call_builtin (R := wants (fun r s₂ => r = .none ∧ ∃ h' tk c, s₂ = { s with heap := h', toks := tk } ∧ SetG knd h' s.heap.objs.size ns c ∧ c ≤ ns.length ∧
          (∀ b o, s.heap.get? b = some o → h'.get? b = some o)) E) F.called_set.init.plain F.entry_set_init (check_set_init_1 hT ?_)) fun r₂ s₂ hr₂ => ?_
      · obtain ⟨ol, hol, hcl, nl, hdl⟩ := hl
        obtain ⟨ocls, odict, odata, oslots⟩ := ol
        simp only at hcl hdl
        subst hcl; subst hdl
        have hol' : (s.heap.push { cls := .type "set", dict := none, data := .set #[] 0 (.fresh 0 0 (!w.params.followText "set-order")) }).get? l = some { cls := .type "list", dict := odict, data := .seq items nl, slots := oslots } := Heap.get?_push_of_some _ hol
        have hsls := F.sub_list_set
        have hslf := F.sub_list_frozenset
        have hne : (Value.type "list" == Value.type "dict") = false := by decide
        have hl1 : (s.heap.push { cls := .type "set", dict := none, data := .set #[] 0 (.fresh 0 0 (!w.params.followText "set-order")) }).IsList l items := ⟨_, hol', rfl, nl, rfl⟩
        unfold Builtin.«set.__init__» noKeywords Builtin.Frozenset.updateFrom
        generalize hPI : pyIter = PI
        wp_walk
        subst hPI

        refine wpAny_pyIter_list hl1 ?_
        refine wpAny_bind (wpAny_runValue ?_)
        have hlS : l < s.heap.objs.size := Heap.lt_size hol
        have hh3 : A.in1.in1.in1.handled = none := by simp [hh]
        have hz1 : (s.heap.push { cls := .type "set", dict := none, data := .set #[] 0 (.fresh 0 0 (!w.params.followText "set-order")) }).objs.size = s.heap.objs.size + 1 := Heap.size_push ..
        have hneI : l ≠ (s.heap.push { cls := .type "set", dict := none, data := .set #[] 0 (.fresh 0 0 (!w.params.followText "set-order")) }).objs.size := by
          rw [Heap.size_push]; exact Nat.ne_of_lt (Nat.lt_succ_of_lt hlS)
        have hSf : s.heap.objs.size ∉ [(s.heap.push { cls := .type "set", dict := none, data := .set #[] 0 (.fresh 0 0 (!w.params.followText "set-order")) }).objs.size, l] := by
          rw [Heap.size_push]; simp only [List.mem_cons, List.mem_singleton, List.not_mem_nil, or_false, not_or]
          exact ⟨Nat.ne_of_lt (Nat.lt_succ_self _), Nat.ne_of_gt hlS⟩
        have each_get : ∀ {vs : List Value} {ns : List Ky}, EachIs (fun v k => knd.is k v = true ∧ v.scannable = true) vs ns → ∀ (i : Nat) (v : Value), vs[i]? = some v → ∃ k, ns[i]? = some k ∧ knd.is k v = true ∧ v.scannable = true := by
          intro vs ns h
          induction h with
          | nil => intro i v e; simp at e
          | cons r t ih =>
            intro i v e
            cases i with
            | zero =>
              simp only [List.getElem?_cons_zero, Option.some.injEq] at e ⊢
              subst e
              exact ⟨_, rfl, r⟩
            | succ i =>
              simp only [List.getElem?_cons_succ] at e ⊢
              exact ih i v e
        have hval : ∀ (i : Nat) (v : Value), items[i]? = some v → ∃ k, ns[i]? = some k ∧ knd.is k v = true ∧ v.scannable = true := fun i v hv => each_get hit i v (by rw [Array.getElem?_toList]; exact hv)
        refine set_updateG ((Walks.list hh3 _ l hneI items).toS) s.heap.objs.size
          hSf ns hisz hb hval (items.size - 0) 0 _ (by omega) (Nat.zero_le _)
          ⟨⟨_, Heap.get?_push_size _ rfl, rfl, rfl⟩, (hl1.push _)⟩ ?hS0 ?hR
        case hS0 =>
          have hget : ((s.heap.push { cls := .type "set", dict := none, data := .set #[] 0 (.fresh 0 0 (!w.params.followText "set-order")) }).push { cls := .type "list_iterator", data := .fields #[.ref l, .int 0 0] }).get? s.heap.objs.size = some { cls := .type "set", dict := none, data := .set #[] 0 (.fresh 0 0 (!w.params.followText "set-order")) } := Heap.get?_push_of_some _ hS
          exact ⟨0, Nat.le_refl 0, setG_fresh hget⟩
        case hR =>
          intro s' c' hm hc' hS'
          obtain ⟨h', g2, d', tk', os'⟩ := s'
          have eg : g2 = s.gens := hm.gens
          have ed : d' = s.drawn := hm.drawn
          have eo : os' = s.os := hm.os
          subst eg; subst ed; subst eo
          show wpAny _ _ _ _ _ _
          refine wpAny_pure ?_
          show wpAny _ _ (ret Value.none) _ _ _
          rw [hisz] at hc'
          refine wpAny_pure ⟨rfl, h', tk', c', rfl, hS', hc', fun b o e => ?_⟩
          have hb0 : b < s.heap.objs.size := Heap.lt_size e
          have hb1 : b ≠ s.heap.objs.size := Nat.ne_of_lt hb0
          have hb2 : b ≠ (s.heap.push { cls := .type "set", dict := none, data := .set #[] 0 (.fresh 0 0 (!w.params.followText "set-order")) }).objs.size := by
            rw [Heap.size_push]; exact Nat.ne_of_lt (Nat.lt_succ_of_lt hb0)
          exact hm.heap b o (by simp only [List.mem_cons, List.mem_singleton, List.not_mem_nil, or_false, not_or]; exact ⟨hb1, hb2⟩) (Heap.get?_push_of_some _ (Heap.get?_push_of_some _ e))

      · cases r₂ with
        | error e => exact hr₂
        | ok fl₂ =>
          cases fl₂ with
          | ret r =>
            obtain ⟨rfl, h', tk, c', rfl, hS', hc', hk'⟩ := hr₂
            repeat (any_goals (first | assumption | wp_step))
            exact h _ _ _ hS' hc' hk'
          | _ => exact hr₂.elim
    | _ => exact hr.elim
end
end Z

set_option maxHeartbeats 200000
set_option maxRecDepth 512
set_option maxRecDepth 100000
set_option maxHeartbeats 4000000
/-! sorted(set(list)), len(set(list)) as rules. -/
namespace Z
open PySem PySem.Spec PyProof.Rows
open L2 (V HO Hp SqL SqT Rd upd upd_same upd_ne ne_of ne_of_none Cx PE PT PS PSs PA PG PI Inv VK TE TA TS TT RelV Vals Dp DpAll Ris SetAt mixKind)
open PySem.W (EachIs dataLe TotalLe AllAlike Sortable)

theorem sort_perm {α : Type} {le : α → α → Bool} (T : TotalLe le) (anti : ∀ a b, le a b = true → le b a = true → a = b) {l m : List α} (p : l.Perm m) : l.mergeSort le = m.mergeSort le :=
  PySem.W.sort_one T _ _ (PySem.W.sort_pairwise T l) (PySem.W.sort_pairwise T m) fun c => by
    rw [PySem.W.sort_stable T, PySem.W.sort_stable T]
    have e : ∀ q : List α, q.filter (PySem.W.sameRank le c) = List.replicate (q.filter (PySem.W.sameRank le c)).length c := fun q => by
      refine List.eq_replicate_iff.mpr ⟨rfl, fun x hx => ?_⟩
      have h := (List.mem_filter.mp hx).2
      unfold PySem.W.sameRank at h
      rw [Bool.and_eq_true] at h
      exact anti _ _ h.2 h.1
    rw [e l, e m, (p.filter _).length_eq]
def encK : L2.Key → PyData
  | .inl i => .int i
  | .inr x => .str x
theorem encK_total : TotalLe (dataLe false encK) := PySem.W.sortLe_total _ false _
theorem encK_anti (a b : L2.Key) (h1 : dataLe false encK a b = true) (h2 : dataLe false encK b a = true) : a = b := by
  have h1 : (!PyProof.Rows.lexLt PyProof.Rows.itemOrd (PySem.W.keyToks (encK b)) (PySem.W.keyToks (encK a))) = true := h1
  have h2 : (!PyProof.Rows.lexLt PyProof.Rows.itemOrd (PySem.W.keyToks (encK a)) (PySem.W.keyToks (encK b))) = true := h2
  have e := PyProof.Rows.lex_total (O := PyProof.Rows.itemOrd) _ _ (by simpa using h2) (by simpa using h1)
  cases a <;> cases b <;> simp [encK, PySem.W.keyToks] at e
  · exact congrArg Sum.inl e
  · exact congrArg Sum.inr (PySem.W.str_of_cps (congrArg Array.toList e))
section
variable {P : Program} {w : World} {A : Around} {E : Value → Shared → Prop} {s : Shared} {a : Addr} {n : Nat}
theorem is_rel {k : L2.Key} {v : Value} (h : (mixKind P w).is k v = true) : RelV (L2.kV k) v := by
  rcases L2.keyIs_shape h with ⟨i, t, rfl, rfl⟩ | ⟨x, t, rfl, rfl⟩
  · exact ⟨t, rfl⟩
  · exact ⟨t, rfl⟩
theorem is_reads {h : Heap} {k : L2.Key} {v : Value} (q : (mixKind P w).is k v = true) : Reads h v (encK k) [] := by
  rcases L2.keyIs_shape q with ⟨i, t, rfl, rfl⟩ | ⟨x, t, rfl, rfl⟩
  · exact Reads.int i t
  · exact Reads.str x t
/-- all whole numbers, or all texts -/
def AllOne (ks : List L2.Key) : Prop := (∀ k ∈ ks, ∃ i, k = .inl i) ∨ ∀ k ∈ ks, ∃ x, k = .inr x
theorem sorted_setG {ms : List L2.Key} {Q : Value → Shared → Prop} (R : SetG (mixKind P w) s.heap a ms n) (hh : A.handled = none) (hu : A.units + 70 < cLine) (ho : AllOne ms)
    (hQ : ∀ s' p (out : Array Value) (c : Nat) (ks : List L2.Key), (∀ b o, s.heap.get? b = some o → s'.heap.get? b = some o) → s'.gens = s.gens → s'.os = s.os → s.heap.objs.size ≤ p →
      s'.heap.get? p = some (seqObj "list" out c) → EachIs (fun v k => RelV (L2.kV k) v) out.toList (ks.mergeSort (dataLe false encK)) → ks.Nodup → (∀ k, k ∈ ks ↔ k ∈ ms) → ks.length < scanBound → Q (.ref p) s') :
    wpAny (model P w) A (call (.builtin "sorted") [.ref a]) Q E s := by
  obtain ⟨o, es, ep, t, ks, hoo, hex, hd, g, nd, hm, hb, hf, hn, hr, hl⟩ := R
  refine Calls.call_function_entry kind_sorted plain_sorted entry_sorted (args_sorted1 _) ?_
  unfold Builtin.«sorted»
  refine wpAny_bind (m := checkCount "sorted" 1 1 _) (wpAny_pure ?_)
  refine wpAny_bind (L2.collect_set (A := A.in1) hh ⟨o, hoo, hex.1, hd⟩ hf hb hr hl fun s1 vs k1 hz g1 o1 pm => ?_)
  have gv : EachIs (fun v k => (mixKind P w).is k v = true) (es.toList.map (·.2)) ks := by
    clear hm nd hb hf hn pm hd
    generalize es.toList = l at g
    induction g with
    | nil => exact .nil
    | cons r _ ih => exact .cons r.1 ih
  obtain ⟨ks', pk, gk⟩ := each_perm gv pm
  have hvl : vs.length = es.size := by rw [pm.length_eq, List.length_map, Array.length_toList]
  have hkl : ks'.length = es.size := by rw [← hvl]; exact gk.length.symm
  have hsl : vs.length ≤ PySem.sizeLine := by
    rw [hvl]
    unfold scanBound at hb
    rw [sizeLine_eq]
    omega
  refine wpAny_bind (wpAny_newList ?_ hsl)
  have hoL : (s1.heap.push (seqObj "list" vs.toArray 0)).get? s1.heap.objs.size = some (seqObj "list" vs.toArray 0) := Heap.get?_push_size _ rfl
  have one : AllOne ks' := ho.imp (fun h k hk => h k ((hm k).mp (pk.mem_iff.mp hk))) fun h k hk => h k ((hm k).mp (pk.mem_iff.mp hk))
  have hal : AllAlike (ks'.map encK) := fun d hd d' hd' => by
    obtain ⟨x, hx, rfl⟩ := List.mem_map.mp hd
    obtain ⟨y, hy, rfl⟩ := List.mem_map.mp hd'
    rcases one with one | one
    · obtain ⟨i, rfl⟩ := one x hx
      obtain ⟨j, rfl⟩ := one y hy
      simp [encK, PySem.W.alike]
    · obtain ⟨i, rfl⟩ := one x hx
      obtain ⟨j, rfl⟩ := one y hy
      simp [encK, PySem.W.alike]
  have hso : Sortable (ks'.map encK) := .inr fun d hd => by
    obtain ⟨x, hx, rfl⟩ := List.mem_map.mp hd
    cases x <;> simp [encK]
  refine wpAny_bind (wpAny_holding (PySem.W.list_sort_data (s := { s1 with heap := s1.heap.push (seqObj "list" vs.toArray 0) }) (R := fun v k => RelV (L2.kV k) v) (bs := ks') (enc := encK) hoL (gk.mono fun v k h => is_rel h) (gk.mono fun v k h => ⟨[], is_reads h, by simp⟩) hal hso (by rw [← gk.length]; exact hsl)
    (fun b hb => by
      have : (encK b).depth = 0 := by cases b <;> simp [encK, PyData.depth]
      rw [this]
      have : A.in1.units ≤ A.units + 1 := by simp [Around.in1, Around.units]
      omega) fun out hlen eo => ?_))
  obtain ⟨c, hc⟩ := sortedHeap_at (vs := vs) (out := out.toArray) hoL
  refine wpAny_pure ⟨_, rfl, hQ _ s1.heap.objs.size out.toArray c ks' (fun b u e => ?_) g1 o1 hz hc eo (pk.nodup_iff.mpr nd) (fun k => pk.mem_iff.trans (hm k)) (by rw [hkl]; exact hb)⟩
  have q := k1 b u e
  have hlt := Heap.lt_size q
  show (sortedHeap (s1.heap.push (seqObj "list" vs.toArray 0)) s1.heap.objs.size vs out.toArray).get? b = some u
  rw [sortedHeap_old (Nat.ne_of_lt hlt) (by rw [size_push']; exact Nat.lt_succ_of_lt hlt)]
  exact Heap.get?_push_of_some _ q
end

/-! ### as rules -/
def SetKO (P : Program) (w : World) (a : Addr) (ms : List L2.Key) (n : Nat) : HO := .ext fun h => SetG (mixKind P w) h a ms n
section
variable {X : Cx}
theorem setKO_new {w : World} {P : Program} {H : Hp} {h : Heap} {a : Addr} {ms : List L2.Key} {n : Nat} (R : SetG (mixKind P w) h a ms n) : L2.ObjOk P w H h a (SetKO P w a ms n) := by
  have ⟨o, _, _, _, _, ho, _⟩ := R
  exact ⟨R, ⟨o, ho⟩, fun h1 h2 p k => SetG.at p k⟩
theorem setKO_get {pins : List (Addr × Obj)} {σ : L2.St} {H : Hp} {s : Shared} {a : Addr} {ms : List L2.Key} {n : Nat} (I : Inv X pins σ H s) (ha : H a = some (SetKO X.prog X.w a ms n)) : SetG (mixKind X.prog X.w) s.heap a ms n := (I.hok a _ ha).1
/-- set(l) of a list of keys -/
def rSetOfK (K : PySem.W.Frag) (P : Program) (w : World) : RB := fun xs H Q => ∃ (l : Addr) (ks : List L2.Key), xs = [V.ref l] ∧ SqL K H l (ks.map L2.kV) ∧ ks.length ≤ 1000 ∧ ∀ a n, H a = none → (∀ ks' : List L2.Key, ks'.Nodup → (∀ k, k ∈ ks' ↔ k ∈ ks) → n = ks'.length) → Q (.ref a) (upd H a (SetKO P w a ks n))
theorem vals_kinds {P : Program} {w : World} : ∀ {ks : List L2.Key} {its : List Value}, Vals (ks.map L2.kV) its → EachIs (fun v k => (mixKind P w).is k v = true ∧ v.scannable = true) its ks
  | [], its, h => by cases h; exact .nil
  | k :: ks, its, h => by
    cases h with
    | cons h1 h2 => exact .cons ⟨L2.kV_is h1, L2.key_scan h1⟩ (vals_kinds h2)
theorem cr_setOfK (hc : X.calm = true) : L2.CallR X (.type "set") (rSetOfK X.K X.prog X.w) := by
  intro pins s σ H vs us Q I r h
  obtain ⟨l, ks, rfl, hs, hlen, q⟩ := h
  obtain ⟨its, rv, pl, hz⟩ := I.list hs
  rw [Vals.ref1 r]
  refine call_set_listG (P := X.prog) (w := X.w) (knd := mixKind X.prog X.w) ks (I.ok.hd hc) pl.isList (by simpa using vals_kinds rv) (by unfold scanBound; omega) fun h' tk c R hcn k => ?_
  refine ⟨.ref s.heap.objs.size, upd H s.heap.objs.size (SetKO X.prog X.w s.heap.objs.size ks c), I.laid k (Nat.le_refl _) (setKO_new R), rfl, q _ c (I.hok.fresh (Nat.le_refl _)) fun ks' nd' hm' => ?_⟩
  obtain ⟨o, es, ep, t, ks0, _, _, _, g, nd, hm, _, _, hn, _⟩ := R
  have pr : ks0.Perm ks' := (List.perm_ext_iff_of_nodup nd nd').mpr fun k => (hm k).trans (hm' k).symm
  rw [← pr.length_eq, ← g.length, Array.length_toList]
  exact hn.symm
def rLenK (P : Program) (w : World) : RB := fun vs H Q => ∃ (a : Addr) (ms : List L2.Key) (n : Nat), vs = [V.ref a] ∧ H a = some (SetKO P w a ms n) ∧ Q (.int n) H
theorem cr_lenK : L2.CallR X (.builtin "len") (rLenK X.prog X.w) := by
  intro pins s σ H vs us Q I r h
  obtain ⟨a, ms, n, rfl, ha, q⟩ := h
  obtain ⟨o, es, ep, t, ks0, ho, hex, hd, g, nd, hm, hb, hf, hn, _⟩ := setKO_get I ha
  rw [Vals.ref1 r]
  refine call_len_set ho hex hd hf (by unfold scanBound at hb; omega) ⟨.int n, H, I.tok _, ⟨_, by rw [hn]⟩, q⟩
/-- sorted(s) of a set of keys -/
def rSortedK (P : Program) (w : World) : RB := fun vs H Q => ∃ (a : Addr) (ms : List L2.Key) (n : Nat), vs = [V.ref a] ∧ H a = some (SetKO P w a ms n) ∧ AllOne ms ∧
  ∀ (ks : List L2.Key) (p : Addr), ks.Nodup → (∀ k, k ∈ ks ↔ k ∈ ms) → H p = none → Q (.ref p) (upd H p (.lst ((ks.mergeSort (dataLe false encK)).map L2.kV)))
theorem each_keys : ∀ {ks : List L2.Key} {its : List Value}, EachIs (fun v k => RelV (L2.kV k) v) its ks → Vals (ks.map L2.kV) its
  | [], its, h => by cases h; exact .nil
  | k :: ks, its, h => by
    cases h with
    | cons h1 h2 => exact .cons h1 (each_keys h2)
theorem cr_sortedK (hc : X.calm = true) (hu : X.A.units + 70 < cLine) : L2.CallR X (.builtin "sorted") (rSortedK X.prog X.w) := by
  intro pins s σ H vs us Q I r h
  obtain ⟨a, ms, n, rfl, ha, ho, q⟩ := h
  have R := setKO_get I ha
  rw [Vals.ref1 r]
  refine sorted_setG R (I.ok.hd hc) hu ho fun s' p out c ks k g o hp hg he nd hm hb => ?_
  have hlen : ((ks.mergeSort (dataLe false encK)).map L2.kV).length ≤ PySem.sizeLine := by
    rw [List.length_map, List.length_mergeSort, sizeLine_eq]
    unfold scanBound at hb
    omega
  have hn : H p = none := I.hok.fresh hp
  have J : Inv X pins σ (upd H p (.lst ((ks.mergeSort (dataLe false encK)).map L2.kV))) { s with heap := s'.heap, gens := s'.gens, drawn := s'.drawn, toks := s'.toks } :=
    I.call (ch := []) (L2.Un.laid k hp hn) (I.hok.laid k hp ⟨hlen, out.toList, c, each_keys he, hg⟩) (by rw [g]; exact I.bare) (fun _ z => nomatch z)
  have e : s' = { s with heap := s'.heap, gens := s'.gens, drawn := s'.drawn, toks := s'.toks } := by
    cases s'
    cases s
    cases o
    rfl
  rw [e]
  exact ⟨.ref p, _, J, rfl, q ks p nd hm hn⟩
end
end Z

set_option maxHeartbeats 200000
set_option maxRecDepth 512
set_option maxRecDepth 100000
set_option maxHeartbeats 4000000
/-! sorted(set(..)), len(set(..)) in the small language. -/
namespace Z
open PySem PySem.Spec PyProof.Rows
open L2 (V HO Hp SqL SqT Rd upd upd_same upd_ne ne_of ne_of_none Cx PE PT PS PSs PA PG PI Inv VK TE TA TS TT RelV Vals Dp DpAll)
open PySem.W (dataLe)

def keyP : PV → L2.Key
  | .int i => .inl i
  | .str s => .inr (toS s)
  | _ => .inl 0
section
variable {G : Ctx} {lo : Nat} {ms : List Addr} {st : Sto} {H : Hp}
theorem rep_atom {x : PV} {v : V} (h : atomP x = true) (r : Rep G ms st H x v) : v = L2.kV (keyP x) := by
  cases x <;> simp [atomP] at h <;> simp only [Rep] at r <;> rw [r] <;> rfl
theorem atom_rep {x : PV} (h : atomP x = true) : Rep G ms st H x (L2.kV (keyP x)) := by
  cases x <;> simp [atomP] at h <;> simp only [Rep] <;> rfl
theorem rep_atoms : ∀ {xs : List PV} {vs : List V}, xs.all atomP = true → RepL G ms st H xs vs → vs = (xs.map keyP).map L2.kV
  | [], vs, _, r => by simp only [RepL] at r; rw [r] <;> rfl
  | x :: xs, vs, h, r => by
    simp only [RepL] at r
    obtain ⟨v, r', rfl, h1, h2⟩ := r
    simp only [List.all_cons, Bool.and_eq_true] at h
    rw [rep_atom h.1 h1, rep_atoms h.2 h2] <;> rfl
theorem atoms_rep : ∀ {xs : List PV}, xs.all atomP = true → RepL G ms st H xs ((xs.map keyP).map L2.kV)
  | [], _ => by simp only [List.map_nil, RepL]
  | x :: xs, h => by
    simp only [List.all_cons, Bool.and_eq_true] at h
    simp only [List.map_cons, RepL]
    exact ⟨_, _, rfl, atom_rep h.1, atoms_rep h.2⟩
theorem keyP_inj {x y : PV} (hx : atomP x = true) (hy : atomP y = true) : eqv x y = true ↔ keyP x = keyP y := by
  cases x <;> simp [atomP] at hx <;> cases y <;> simp [atomP] at hy <;> simp [eqv, keyP]
  exact ⟨fun h => by rw [h], fun h => toS_inj h⟩
theorem once_mem {x : PV} : ∀ {xs : List PV}, x ∈ onceP xs → x ∈ xs
  | [], h => by simp [onceP] at h
  | y :: ys, h => by
    unfold onceP at h
    split at h
    · exact List.mem_cons_of_mem _ (once_mem h)
    · rcases List.mem_cons.mp h with rfl | h
      · exact List.mem_cons_self
      · exact List.mem_cons_of_mem _ (once_mem h)
theorem once_all {p : PV → Bool} {xs : List PV} (h : xs.all p = true) : (onceP xs).all p = true := List.all_eq_true.mpr fun x hx => List.all_eq_true.mp h x (once_mem hx)
theorem once_keys : ∀ {xs : List PV}, xs.all atomP = true → ((onceP xs).map keyP).Nodup ∧ ∀ k, k ∈ (onceP xs).map keyP ↔ k ∈ xs.map keyP
  | [], _ => ⟨List.nodup_nil, fun k => Iff.rfl⟩
  | x :: xs, h => by
    simp only [List.all_cons, Bool.and_eq_true] at h
    obtain ⟨i1, i2⟩ := once_keys h.2
    have ho : ∀ y ∈ onceP xs, atomP y = true := fun y hy => List.all_eq_true.mp h.2 y (once_mem hy)
    unfold onceP
    split
    · rename_i c
      obtain ⟨y, hy, e⟩ := List.any_eq_true.mp c
      have e' := (keyP_inj h.1 (ho y hy)).mp e
      refine ⟨i1, fun k => ?_⟩
      rw [i2, List.map_cons, List.mem_cons]
      refine ⟨.inr, fun z => z.elim (fun z => ?_) id⟩
      rw [z, e']
      exact (i2 _).mp (List.mem_map_of_mem hy)
    · rename_i c
      refine ⟨?_, fun k => ?_⟩
      · rw [List.map_cons, List.nodup_cons]
        refine ⟨fun hm => c ?_, i1⟩
        obtain ⟨y, hy, e⟩ := List.mem_map.mp hm
        exact List.any_eq_true.mpr ⟨y, hy, (keyP_inj h.1 (ho y hy)).mpr e.symm⟩
      · rw [List.map_cons, List.mem_cons, i2, List.map_cons, List.mem_cons]
theorem keyP_pd {x : PV} (h : atomP x = true) : toPD x = encK (keyP x) := by
  cases x <;> simp [atomP] at h <;> simp [toPD, encK, keyP]
theorem okSet_d {xs : List PV} (h : okSet xs = true) : xs.length ≤ 1000 ∧ (∀ x ∈ xs, ∀ y ∈ xs, likeP x y = true) ∧ xs.all atomP = true := by
  simp only [okSet, Bool.and_eq_true, decide_eq_true_eq, List.all_eq_true] at h
  exact ⟨h.1.1, h.1.2, List.all_eq_true.mpr h.2⟩
theorem okSet_one {xs : List PV} (h : okSet xs = true) : AllOne (xs.map keyP) := by
  obtain ⟨_, h1, h2⟩ := okSet_d h
  have h2 := List.all_eq_true.mp h2
  cases xs with
  | nil => exact .inl fun k hk => by simp at hk
  | cons x xs =>
    have hx := h2 x List.mem_cons_self
    have hl := h1 x List.mem_cons_self
    cases x <;> simp [atomP] at hx
    · refine .inl fun k hk => ?_
      obtain ⟨y, hy, rfl⟩ := List.mem_map.mp hk
      have := hl y hy
      cases y <;> simp [likeP] at this
      exact ⟨_, rfl⟩
    · refine .inr fun k hk => ?_
      obtain ⟨y, hy, rfl⟩ := List.mem_map.mp hk
      have := hl y hy
      cases y <;> simp [likeP] at this
      exact ⟨_, rfl⟩
theorem sort_keys {xs : List PV} (h : okSet xs = true) {ks : List L2.Key} (nd : ks.Nodup) (hm : ∀ k, k ∈ ks ↔ k ∈ xs.map keyP) : ks.mergeSort (dataLe false encK) = (sortP (onceP xs)).map keyP := by
  obtain ⟨_, h1, h2⟩ := okSet_d h
  obtain ⟨o1, o2⟩ := once_keys h2
  have p : ks.Perm ((onceP xs).map keyP) := by
    refine (List.perm_ext_iff_of_nodup nd o1).mpr fun k => (hm k).trans (o2 k).symm
  rw [sort_perm encK_total encK_anti p]
  refine (PySem.W.sort_maps keyP fun x hx y hy => ?_).symm
  have hx' := once_mem hx
  have hy' := once_mem hy
  have ax := List.all_eq_true.mp h2 x hx'
  have ay := List.all_eq_true.mp h2 y hy'
  have px : plain 0 x = true := by cases x <;> simp [atomP] at ax <;> rfl
  have py : plain 0 y = true := by cases y <;> simp [atomP] at ay <;> rfl
  have e := lt_pd 0 0 y x py px (h1 y hy' x hx')
  show leP x y = !PySem.W.dataLt (encK (keyP y)) (encK (keyP x))
  rw [← keyP_pd ay, ← keyP_pd ax, e]
  rfl
end
section
variable {X : Cx} {G : Ctx} {Γ : Gam} {C : CC} {lo : Nat} {W : L2.WX}
theorem t_sortedSet (L : Lk X G Γ C) {bx : Bool} {x y : Str} {e : Expr} {d : Env → Sto → R (List PV)} {p p2 pos pos2 : Pos} (hx : x = Str.ofString "sorted") (hs : sane x = true) (hg : isGl C.sc x = true) (hy : y = Str.ofString "set") (hsy : sane y = true) (hgy : isGl C.sc y = true)
    (ha : PA X [e] (tEs G lo W d)) (hst : ∀ y ∈ [e], isStar y = false) :
    PE X (.Call (.Name x p) [.Call (.Name y p2) [e] [] pos2] [] pos) (tE G lo W fun ρ st => (d ρ st).bind (bfn .sortedSet bx)) := by
  have hu := L.hu
  have h1 := L2.pe_callTy (p := p2) (pos := pos2) (cr_setOfK L.calm) (L.glo hgy) (bi_mem L hy (by decide)) (hy ▸ (by decide +kernel : bootBuiltins (Str.ofString "set") = some (.type "set"))) ha (sane_d hsy).2.2 (sane_d hsy).1 (star_cons (hst e List.mem_cons_self)) (star_any fun y hy => by simp at hy)
  refine (L2.pe_callB (cr_sortedK L.calm (by omega)) (L.glo hg) (bi_mem L hx (by decide)) (hx ▸ (by decide +kernel)) (L2.pa_cons h1 L2.pa_nil) (sane_d hs).2.2 (sane_d hs).1 (star_cons rfl) (star_any fun y hy => by simp at hy)).weak fun σ H Q ⟨ms, ρ, st, hl, S, E, q⟩ => ?_
  refine ⟨ms, ρ, st, hl, S, E, q.bind1 (rep := RepL G) fun xs st1 ms1 H1 us e1 S1 r1 q1 => ?_⟩
  have hl1 := e1.le S S1 hl
  unfold bfn at q1
  split at q1 <;> try (first | (rename_i e; cases e; done) | exact q1.elim)
  obtain ⟨v, rfl, rv⟩ := r1.one
  split at q1
  · rename_i ys hy
    split at q1
    · rename_i ho
      obtain ⟨a, ws, rfl, hs, rl⟩ := lstOf_ok S1 rv hy
      obtain ⟨o1, o2, o3⟩ := okSet_d ho
      have ew := rep_atoms o3 rl
      subst ew
      refine ⟨a, ys.map keyP, rfl, L.K ▸ .inl hs, by simpa using o1, fun b n hb _ => ?_⟩
      refine ⟨b, ys.map keyP, n, rfl, upd_same, okSet_one ho, fun ks p nd hm hp => ?_⟩
      rw [sort_keys ho nd hm]
      have g := upd_grow (o := SetKO X.prog X.w b (ys.map keyP) n) hb
      exact mkLst_ok (S1.grow g) hl1 (atoms_rep (List.all_eq_true.mpr fun x hx => List.all_eq_true.mp (once_all o3) x (List.mem_mergeSort.mp hx))) (q1.after (Ext.grow g)) p hp
    · exact q1.elim
  · exact q1.elim
theorem t_lenSet (L : Lk X G Γ C) {bx : Bool} {x y : Str} {e : Expr} {d : Env → Sto → R (List PV)} {p p2 pos pos2 : Pos} (hx : x = Str.ofString "len") (hs : sane x = true) (hg : isGl C.sc x = true) (hy : y = Str.ofString "set") (hsy : sane y = true) (hgy : isGl C.sc y = true)
    (ha : PA X [e] (tEs G lo W d)) (hst : ∀ y ∈ [e], isStar y = false) :
    PE X (.Call (.Name x p) [.Call (.Name y p2) [e] [] pos2] [] pos) (tE G lo W fun ρ st => (d ρ st).bind (bfn .lenSet bx)) := by
  have h1 := L2.pe_callTy (p := p2) (pos := pos2) (cr_setOfK L.calm) (L.glo hgy) (bi_mem L hy (by decide)) (hy ▸ (by decide +kernel : bootBuiltins (Str.ofString "set") = some (.type "set"))) ha (sane_d hsy).2.2 (sane_d hsy).1 (star_cons (hst e List.mem_cons_self)) (star_any fun y hy => by simp at hy)
  refine (L2.pe_callB cr_lenK (L.glo hg) (bi_mem L hx (by decide)) (hx ▸ PySem.boot_len) (L2.pa_cons h1 L2.pa_nil) (sane_d hs).2.2 (sane_d hs).1 (star_cons rfl) (star_any fun y hy => by simp at hy)).weak fun σ H Q ⟨ms, ρ, st, hl, S, E, q⟩ => ?_
  refine ⟨ms, ρ, st, hl, S, E, q.bind1 (rep := RepL G) fun xs st1 ms1 H1 us e1 S1 r1 q1 => ?_⟩
  unfold bfn at q1
  split at q1 <;> try (first | (rename_i e; cases e; done) | exact q1.elim)
  obtain ⟨v, rfl, rv⟩ := r1.one
  split at q1
  · rename_i ys hy
    split at q1
    · rename_i ho
      obtain ⟨a, ws, rfl, hs, rl⟩ := lstOf_ok S1 rv hy
      obtain ⟨o1, o2, o3⟩ := okSet_d ho
      have ew := rep_atoms o3 rl
      subst ew
      refine ⟨a, ys.map keyP, rfl, L.K ▸ .inl hs, by simpa using o1, fun b n hb hn => ?_⟩
      refine ⟨b, ys.map keyP, n, rfl, upd_same, ?_⟩
      have g := upd_grow (o := SetKO X.prog X.w b (ys.map keyP) n) hb
      have e : n = (onceP ys).length := by
        obtain ⟨k1, k2⟩ := once_keys o3
        have := hn _ k1 k2
        simpa using this
      subst e
      exact (q1.after (Ext.grow g)).done (S1.grow g) (by simp only [Rep])
    · exact q1.elim
  · exact q1.elim
end
end Z

set_option maxHeartbeats 200000
set_option maxRecDepth 512
set_option maxRecDepth 100000
set_option maxHeartbeats 4000000
/-! sorted(d.items()). -/
namespace Z
open PySem PySem.Spec PyProof.Rows
open L2 (V HO Hp SqL SqT Rd upd upd_same upd_ne ne_of ne_of_none Cx PE PT PS PSs PA PG PI Inv VK TE TA TS TT RelV Vals Dp DpAll mixKind kV Key KV relV_key keyIs Un)
open PySem.W (EachIs dataLe AllAlike Sortable)
open LiI (putT putT_off putT_at paired_ix paired_get)

def rSortIts (K : PySem.W.Frag) : V → Hp → VK → Prop := fun x H Q => ∃ (d : Addr) (l : List (Key × V)), x = .ref d ∧ Rd H d (.dK l) ∧ ∀ (H' : Hp) (as : List Addr), (∀ b, H b ≠ none → H' b = H b) → Paired (fun (t : Addr) (q : Key × V) => H' t = some (.tup [kV q.1, q.2])) as l →
  ∃ bs : List (V × PV), bs.map (·.1) = as.map V.ref ∧ (∀ b ∈ bs, Dp K H' b.1 (toPD b.2)) ∧ okSort (bs.map (·.2)) = true ∧
    ∀ p, H' p = none → Q (.ref p) (upd H' p (.lst ((bs.mergeSort fun p q => leP p.2 q.2).map (·.1))))
mutual
theorem reads_nil {h : Heap} : ∀ (x : PV) (v : Value) (as : List Addr), likeP x x = true → Reads h v (toPD x) as → as = []
  | .int i, v, as, _, r => by
    simp only [toPD] at r
    cases r
    rfl
  | .str i, v, as, _, r => by
    simp only [toPD] at r
    cases r
    rfl
  | .tup xs, v, as, l, r => by
    simp only [toPD] at r
    simp only [likeP] at l
    cases r with
    | tuple h1 h2 h3 h4 => exact readsAll_nil xs _ _ l h4
  | .none, v, as, l, r => by simp [likeP] at l
  | .bool _, v, as, l, r => by simp [likeP] at l
  | .lst _, v, as, l, r => by simp [likeP] at l
  | .dct _ _, v, as, l, r => by simp [likeP] at l
  | .box _, v, as, l, r => by simp [likeP] at l
  | .exc _, v, as, l, r => by simp [likeP] at l
  | .kls _, v, as, l, r => by simp [likeP] at l
theorem readsAll_nil {h : Heap} : ∀ (xs : List PV) (vs : List Value) (as : List Addr), likePs xs xs = true → ReadsAll h vs (toPDs xs) as → as = []
  | [], vs, as, _, r => by
    simp only [toPDs] at r
    cases r
    rfl
  | x :: xs, vs, as, l, r => by
    simp only [toPDs] at r
    simp only [likePs, Bool.and_eq_true] at l
    cases r with
    | cons h1 h2 =>
      rw [reads_nil x _ _ l.1 h1, readsAll_nil xs _ _ l.2 h2]
      rfl
end
theorem each_valsP {R : Value → V × PV → Prop} : ∀ {bs : List (V × PV)} {its : List Value}, Vals (bs.map (·.1)) its → (∀ b ∈ bs, ∀ u, RelV b.1 u → R u b) → EachIs R its bs
  | [], its, h, _ => by cases h; exact .nil
  | b :: bs, its, h, k => by
    cases h with
    | cons h1 h2 => exact .cons (k b List.mem_cons_self _ h1) (each_valsP h2 fun b' hb => k b' (List.mem_cons_of_mem _ hb))
theorem vals_eachP : ∀ {bs : List (V × PV)} {its : List Value}, EachIs (fun u b => RelV b.1 u) its bs → Vals (bs.map (·.1)) its
  | [], its, h => by cases h; exact .nil
  | b :: bs, its, h => by
    cases h with
    | cons h1 h2 => exact .cons h1 (vals_eachP h2)
theorem sort_le_pd {α : Type} {f : α → PV} {l : List α} (h : okSort (l.map f) = true) : l.mergeSort (dataLe false fun b => toPD (f b)) = l.mergeSort fun p q => leP (f p) (f q) := by
  obtain ⟨o1, o2, _⟩ := okSort_d h
  refine PySem.W.sort_congr fun p hp q hq => ?_
  have mp := List.mem_map_of_mem (f := f) hp
  have mq := List.mem_map_of_mem (f := f) hq
  have e := lt_pd 50 50 (f q) (f p) (plainL_mem o1 _ mq) (plainL_mem o1 _ mp) (o2 _ mq _ mp)
  show (!PySem.W.dataLt (toPD (f q)) (toPD (f p))) = leP (f p) (f q)
  rw [e]
  rfl
theorem okSort_pd {α : Type} {f : α → PV} {l : List α} (h : okSort (l.map f) = true) : AllAlike (l.map fun b => toPD (f b)) ∧ Sortable (l.map fun b => toPD (f b)) := by
  obtain ⟨o1, o2, o3⟩ := okSort_d h
  refine ⟨fun d hd d' hd' => ?_, ?_⟩
  · obtain ⟨x, hx, rfl⟩ := List.mem_map.mp hd
    obtain ⟨y, hy, rfl⟩ := List.mem_map.mp hd'
    exact like_pd _ _ (o2 _ (List.mem_map_of_mem hx) _ (List.mem_map_of_mem hy))
  · rcases o3 with o3 | o3
    · refine .inl fun d hd => ?_
      obtain ⟨x, hx, rfl⟩ := List.mem_map.mp hd
      have := o3 _ (List.mem_map_of_mem (f := f) hx)
      match f x, this with
      | .tup (y :: ys), _ => exact ⟨toPD y, toPDs ys, by simp [toPD, toPDs]⟩
    · refine .inr fun d hd => ?_
      obtain ⟨x, hx, rfl⟩ := List.mem_map.mp hd
      have := o3 _ (List.mem_map_of_mem (f := f) hx)
      generalize f x = y at this
      cases y <;> simp [atomP] at this <;> simp [toPD]
section
variable {X : Cx} {e : Expr} {te : TE} {p apos cpos pos : Pos}
theorem items_in {pins : List (Addr × Obj)} {σ : L2.St} {H : Hp} {s : Shared} {h' : Heap} {tk : Nat} {kvs : List (Key × V)} {vs : List (Key × Value)} {as : List Addr} (I : Inv X pins σ H s) (kv : KV kvs vs)
    (hk : ∀ b o, s.heap.get? b = some o → h'.get? b = some o) (hl : as.length = vs.length) (hG : PySem.W.KdxG (mixKind X.prog X.w) vs s.heap.objs.size h' as) :
    ∃ H' : Hp, (∀ b, H b ≠ none → H' b = H b) ∧ Paired (fun (t : Addr) (q : Key × V) => H' t = some (.tup [kV q.1, q.2])) as kvs ∧ Inv X pins σ H' { s with heap := h', toks := tk } := by
  have lk : kvs.length = vs.length := Paired.length kv
  have nd : as.Nodup := List.Pairwise.imp (fun {a b} (h : a < b) => Nat.ne_of_lt h) hG.rise
  have new : ∀ t ∈ as, H t = none := fun t ht => I.hok.fresh (Nat.le_of_lt (hG.above t ht))
  have atP := putT_at as kvs H (by omega) nd
  have off : ∀ b, b ∉ as → putT H as kvs b = H b := fun b h1 => putT_off as kvs _ h1
  have low : ∀ b o, s.heap.get? b = some o → b ∉ as := fun b o e => fun z => absurd (Heap.lt_size e) (Nat.not_lt.mpr (Nat.le_of_lt (hG.above b z)))
  have kp : ∀ b u, H b = some u → (putT H as kvs) b = some u := fun b u e => by
    rw [off b (fun z => by rw [new b z] at e; cases e)]
    exact e
  refine ⟨putT H as kvs, fun b hb => off b fun z => hb (new b z), atP, ?_⟩
  refine I.call' (ch := []) rfl ⟨fun b o q _ _ _ => hk b o q, fun b o q _ _ _ => ⟨o.slots, hk b o q⟩, fun b o q n _ => ?_, fun b o q _ => ⟨o, hk b o q⟩, fun b xs q => kp b _ q, fun b o u q => kp b _ q, fun b ps q => ⟨#[], by rw [kp b _ q]; simp⟩⟩ (fun b u q => ?_) I.bare fun b z => by simp at z
  · rw [off b (low b o q)]
    exact n
  · by_cases hb : b ∈ as
    · obtain ⟨j, pk, e1, e2, e3⟩ := paired_ix atP hb
      rw [e3] at q
      cases q
      obtain ⟨key, k, x, f1, f2, f3⟩ := hG.pairs j b e1
      obtain ⟨qv, g1, g2, g3⟩ := paired_get kv e2
      rw [f1] at g1
      cases g1
      have rk : RelV (kV pk.1) key := by
        rw [g2]
        exact relV_key (show keyIs k key = true from f2)
      exact ⟨by show 2 ≤ PySem.sizeLine; decide, [key, x], .cons rk (.cons g3 .nil), ⟨_, f3, rfl, _, rfl⟩⟩
    · rw [off b hb] at q
      exact (I.hok b u q).stay (fun d v _ y => hk d v y) (fun d y => kp d _ y) fun d xs y => kp d _ y
theorem pe_sortedItems (hc : X.calm = true) (hu : X.A.units + 70 < cLine) (he : PE X e te) (hg : L2.Gl X "sorted") (hm : X.mg "sorted" = none) (hbase : attributeBase e "items" X.env (PySem.eval e X.env) = PySem.eval e X.env) (hline : (apos.endLine == cpos.line) = true)
    (hs : starEach [.Call (.Attribute e "items" apos) [] [] cpos] X.env = (false, PySem.eval (.Call (.Attribute e "items" apos) [] [] cpos) X.env) :: starEach [] X.env := by rfl) :
    PE X (.Call (.Name "sorted" p) [.Call (.Attribute e "items" apos) [] [] cpos] [] pos) (fun σ H Q => te σ H fun x H1 => rSortIts X.K x H1 Q) := by
  refine ⟨fun pins s σ H Q I hq => ?_⟩
  refine wpAny_Call_Name_kw (L2.ld_blt I hg hm (by decide +kernel : bootBuiltins "sorted" = some (.builtin "sorted")) ?_)
  refine PyProof.Rows.callWith_builtin1 ?_ hs rfl
  rw [hs]
  show wpAny _ _ (spliced ((false, PySem.eval (.Call (.Attribute e "items" apos) [] [] cpos) X.env) :: backTo pos (starEach [] X.env))) _ _ s
  refine Calls.spliced_cons ?_
  refine wpAny_Call_method (T := "dict") (id := "dict.items") hbase rfl hline F.plainAttrs_dict F.slot_dict_items F.type_dict_items (L2.thn (he.run pins s σ H _ I hq) fun u s1 ⟨x, H1, I1, rx, d, kvs, ex, hd, q⟩ => ?_)
  subst ex
  obtain rfl : u = Value.ref d := rx
  obtain ⟨hz, hs0, vs, kv, hdo⟩ := (show L2.ObjOk X.prog X.w H1 s1.heap d (.dK kvs) from hd.ok I1.hok)
  obtain ⟨ep, hat⟩ := hdo.dictAt
  have lk : kvs.length = vs.length := Paired.length kv
  have I2 : Inv X pins σ H1 { s1 with heap := s1.heap.push { cls := .type "dict_items", data := .fields #[.ref d] } } := I1.kept (t' := s1.toks) fun b ob q => Heap.get?_push_of_some _ q
  refine ⟨hdo.typeIs, hdo.mapOf.noDict, ?_⟩
  show wpAny _ _ (callWith cpos (.builtin "dict.items") [.ref d] [] []) _ X.xe s1
  refine method_meetsIn F.slot_dict_items F.entry_dict_items rfl (PySem.evalArgs_none ⟨rfl, hdo.typeIs, F.args_dict_items_1 _, _, meets_dict_items (mixKind X.prog X.w) d hs0, ⟨vs, hdo⟩, ?_⟩)
  refine Calls.spliced_nil ?_
  refine Calls.call_function_entry kind_sorted plain_sorted entry_sorted (args_sorted1 _) ?_
  unfold Builtin.«sorted»
  refine wpAny_bind (m := checkCount "sorted" 1 1 _) (wpAny_pure ?_)
  refine wpAny_bind (PySem.W.kdx_collect (knd := mixKind X.prog X.w) (kvs := vs) (ep := ep) (I1.ok.hd hc) ⟨_, Heap.get?_push_size _ rfl, rfl, rfl⟩ (hat.push _) (by omega) fun h' tk as hk hl hG => ?_)
  obtain ⟨H', k1, k2, J⟩ := items_in (tk := tk) I2 kv hk hl hG
  obtain ⟨bs, b1, b2, b3, b6⟩ := q H' as k1 k2
  have hbl : bs.length = as.length := by
    have := congrArg List.length b1
    simpa using this
  have hsl : (as.map Value.ref).length ≤ PySem.sizeLine := by
    rw [List.length_map, hl]
    omega
  refine wpAny_bind (wpAny_newList ?_ hsl)
  have hoL : (h'.push (seqObj "list" (as.map Value.ref).toArray 0)).get? h'.objs.size = some (seqObj "list" (as.map Value.ref).toArray 0) := Heap.get?_push_size _ rfl
  have vr : Vals (bs.map (·.1)) (as.map Value.ref) := by
    rw [b1]
    exact LiI.vals_refs as
  obtain ⟨o1, o2, _⟩ := okSort_d b3
  obtain ⟨hal, hso⟩ := okSort_pd b3
  have rd : EachIs (fun v (b : V × PV) => ∃ as2, Reads (h'.push (seqObj "list" (as.map Value.ref).toArray 0)) v (toPD b.2) as2 ∧ h'.objs.size ∉ as2) (as.map Value.ref) bs := each_valsP vr fun b hb u hr => by
    obtain ⟨as', r⟩ := Dp.reads J (toPD b.2) b.1 u (b2 b hb) hr
    have mb := List.mem_map_of_mem (f := (·.2)) hb
    have e := reads_nil b.2 u as' (o2 _ mb _ mb) r
    subst e
    exact ⟨[], PyProof.Rows.Reads.keeps (fun _ _ e => Heap.get?_push_of_some _ e) r, by simp⟩
  refine wpAny_bind (wpAny_holding (PySem.W.list_sort_data (s := { heap := h'.push (seqObj "list" (as.map Value.ref).toArray 0), gens := s1.gens, drawn := s1.drawn, toks := tk, os := s1.os }) (R := fun v (b : V × PV) => RelV b.1 v) (bs := bs) (enc := fun b => toPD b.2) hoL (each_valsP vr fun b hb u hr => hr) rd hal hso (by rw [hbl, hl]; omega)
    (fun b hb => by
      have := depth_pd 50 b.2 (plainL_mem o1 _ (List.mem_map_of_mem (f := (·.2)) hb))
      have : X.A.in1.units ≤ X.A.units + 1 := by simp [Around.in1, Around.units]
      omega) fun out hlen eo => ?_))
  rw [sort_le_pd (f := fun b : V × PV => b.2) b3] at eo
  obtain ⟨c, hc⟩ := sortedHeap_at (vs := as.map Value.ref) (out := out.toArray) hoL
  have kp : ∀ b u, h'.get? b = some u → (sortedHeap (h'.push (seqObj "list" (as.map Value.ref).toArray 0)) h'.objs.size (as.map Value.ref) out.toArray).get? b = some u := fun b u q => by
    have hlt := Heap.lt_size q
    rw [sortedHeap_old (Nat.ne_of_lt hlt) (by rw [size_push']; exact Nat.lt_succ_of_lt hlt)]
    exact Heap.get?_push_of_some _ q
  have hn : H' h'.objs.size = none := J.hok.fresh (Nat.le_refl _)
  refine wpAny_pure ⟨_, rfl, .ref h'.objs.size, upd H' h'.objs.size (.lst ((bs.mergeSort fun p q => leP p.2 q.2).map (·.1))), J.laid kp (Nat.le_refl _) ⟨?_, out, c, vals_eachP eo, hc⟩, rfl, b6 _ hn⟩
  rw [List.length_map, List.length_mergeSort, hbl, hl]
  omega
end
section
variable {X : Cx} {G : Ctx} {Γ : Gam} {C : CC} {lo : Nat} {W : L2.WX}
theorem items_reps {ms : List Addr} {st : Sto} {H' : Hp} (S : SOk G ms st H') : ∀ (kvs : List (DK × PV)) (l : List (Key × V)) (as : List Addr), RepK G ms st H' kvs l → Paired (fun (t : Addr) (q : Key × V) => H' t = some (.tup [kV q.1, q.2])) as l → RepL G ms st H' (pairsP kvs) (as.map V.ref)
  | [], l, as, r, p => by
    simp only [RepK] at r
    subst r
    cases p
    simp only [pairsP, List.map_nil, RepL]
  | (k, d) :: kvs, l, as, r, p => by
    simp only [RepK] at r
    obtain ⟨ka, v, l', rfl, rfl, h1, h2⟩ := r
    cases p with
    | cons p1 p2 =>
      simp only [pairsP, List.map_cons, RepL]
      refine ⟨_, _, rfl, ?_, items_reps S kvs l' _ h2 p2⟩
      simp only [Rep]
      refine ⟨_, _, rfl, p1, ?_⟩
      simp only [RepL]
      exact ⟨_, _, rfl, rep_ka ka, _, _, rfl, h1, rfl⟩
theorem t_sortedItems (L : Lk X G Γ C) {bx : Bool} {x n : Str} {e : Expr} {m : ME} {p ap cp pos : Pos} (hx : x = Str.ofString "sorted") (hs : sane x = true) (hg : isGl C.sc x = true) (hn : n = Str.ofString "items") (hsup : notSuper e = true) (hline : (ap.endLine == cp.line) = true)
    (ha : PE X e (tE G lo W (Z.eval Γ lo m))) (hbase : attributeBase e n X.env (PySem.eval e X.env) = PySem.eval e X.env) :
    PE X (.Call (.Name x p) [.Call (.Attribute e n ap) [] [] cp] [] pos) (tE G lo W fun ρ st => (Z.evals Γ lo (.cons m .nil) ρ st).bind (bfn .sortedItems bx)) := by
  have hu := L.hu
  subst hx; subst hn
  refine (pe_sortedItems L.calm (by omega) ha (L.glo hg) (bi_mem L rfl (by decide)) hbase hline (star_cons rfl)).weak fun σ H Q ⟨ms, ρ, st, hl, S, E, q⟩ => ?_
  simp only [Z.evals] at q
  rw [show (((Z.eval Γ lo m ρ st).bind fun x st1 => (R.ok ([] : List PV) st1).bind fun xs st2 => R.ok (x :: xs) st2).bind (bfn .sortedItems bx)) = (Z.eval Γ lo m ρ st).bind fun x st1 => bfn .sortedItems bx [x] st1 by cases Z.eval Γ lo m ρ st <;> rfl] at q
  refine ⟨ms, ρ, st, hl, S, E, q.bind1 (rep := Rep G) fun x st1 ms1 H1 u e1 S1 r1 q1 => ?_⟩
  have hl1 := e1.le S S1 hl
  replace q1 : Res G (Rep G) lo ms1 st1 H1 (match dctOf st1 x with | some (false, kvs) => if okSort (pairsP kvs) then mkLst bx (sortP (pairsP kvs)) st1 else .bad | _ => .bad) Q (fun c H' => W (.ref (G.ca c)) none σ H') := q1
  split at q1
  · rename_i kvs hd
    split at q1
    · rename_i ho
      obtain ⟨a, rfl, l, d1, d2⟩ := dctOf_ok S1 r1 hd
      refine ⟨a, l, rfl, d1, fun H' as hk hp => ?_⟩
      have S2 := S1.grow hk
      have r2 := items_reps S2 kvs l as (RepK.ext (Ext.grow (lo := 0) hk) _ _ d2) hp
      obtain ⟨z1, z2, z3⟩ := r2.zip
      refine ⟨((pairsP kvs).zip (as.map V.ref)).map fun p => (p.2, p.1), ?_, fun b hb => ?_, ?_, fun p hp => ?_⟩
      · rw [List.map_map]
        exact z3
      · obtain ⟨p, hp, rfl⟩ := List.mem_map.mp hb
        have hm : p.1 ∈ pairsP kvs := by
          have := List.mem_map_of_mem (f := (·.1)) hp
          rw [z2] at this
          exact this
        exact L.K ▸ dp_of S2 50 p.1 p.2 (plainL_mem (okSort_d ho).1 _ hm) (z1 p hp)
      · rw [List.map_map]
        have e : List.map ((fun x : V × PV => x.2) ∘ fun p => (p.2, p.1)) ((pairsP kvs).zip (as.map V.ref)) = pairsP kvs := z2
        rw [e]
        exact ho
      · have e1 : (((pairsP kvs).zip (as.map V.ref)).map fun p => (p.2, p.1)).mergeSort (fun p q : V × PV => leP p.2 q.2) = (((pairsP kvs).zip (as.map V.ref)).mergeSort fun p q => leP p.1 q.1).map fun p => (p.2, p.1) :=
          (PySem.W.sort_maps (r := fun p q : PV × V => leP p.1 q.1) (s := fun p q : V × PV => leP p.2 q.2) (fun p : PV × V => (p.2, p.1)) fun p _ q _ => rfl).symm
        have e2 : (((pairsP kvs).zip (as.map V.ref)).mergeSort fun p q => leP p.1 q.1).map (·.1) = sortP (pairsP kvs) := by
          rw [PySem.W.sort_maps (s := leP) _ fun p _ q _ => rfl, z2]
          rfl
        rw [e1, List.map_map]
        have rr : RepL G ms1 st1 H' (sortP (pairsP kvs)) ((((pairsP kvs).zip (as.map V.ref)).mergeSort fun p q => leP p.1 q.1).map (·.2)) := by
          rw [← e2]
          exact RepL.unzip fun p hp => z1 p (List.mem_mergeSort.mp hp)
        exact mkLst_ok S2 hl1 rr (q1.after (Ext.grow hk)) p hp
    · exact q1.elim
  · exact q1.elim
end
end Z

set_option maxHeartbeats 200000
set_option maxRecDepth 512
set_option maxHeartbeats 1000000
/-! Comprehensions. -/
namespace Z
open PySem PySem.Spec PyProof.Rows
open L2 (V HO Hp SqL SqT Rd upd upd_same upd_ne ne_of ne_of_none Cx PE PT PS PSs PA PG PGs PI PW Inv VK TE TA TS TT TG TGs RelV Vals Dp DpAll)

section
variable {X : Cx} {G : Ctx} {Γ : Gam} {C : CC} {lo : Nat} {W : L2.WX}

/-- with one thing more that is being made -/
abbrev Ctx.plus (G : Ctx) (D : Addr) : Ctx := ⟨G.K, G.ca, D :: G.rsv⟩
theorem Free.less {ms : List Addr} {st : Sto} {a D : Addr} (h : Free (G.plus D).rsv ms st a) : Free G.rsv ms st a := ⟨fun q => h.1 (List.mem_cons_of_mem _ q), h.2⟩
mutual
theorem Rep.less {D : Addr} {ms : List Addr} {st : Sto} {H : Hp} : ∀ (d : PV) (v : V), Rep (G.plus D) ms st H d v → Rep G ms st H d v
  | .none, v, h => by simpa only [Rep] using h
  | .bool b, v, h => by simpa only [Rep] using h
  | .int i, v, h => by simpa only [Rep] using h
  | .str s, v, h => by simpa only [Rep] using h
  | .tup ds, v, h => by
    simp only [Rep] at h ⊢
    obtain ⟨a, vs, e1, e2, e3⟩ := h
    exact ⟨a, vs, e1, e2, RepL.less ds vs e3⟩
  | .lst ds, v, h => by
    simp only [Rep] at h ⊢
    obtain ⟨a, vs, e1, e2, e3⟩ := h
    exact ⟨a, vs, e1, ⟨e2.1, Free.less e2.2⟩, RepL.less ds vs e3⟩
  | .dct false kvs, v, h => by
    simp only [Rep] at h ⊢
    obtain ⟨a, l, e1, f, r, h⟩ := h
    exact ⟨a, l, e1, Free.less f, r, RepK.less kvs l h⟩
  | .dct true kvs, v, h => by
    simp only [Rep] at h ⊢
    obtain ⟨a, l, e1, f, r, h⟩ := h
    exact ⟨a, l, e1, Free.less f, r, RepT.less kvs l h⟩
  | .box i, v, h => by simpa only [Rep] using h
  | .exc c, v, h => by
    simp only [Rep] at h ⊢
    obtain ⟨a, e1, e2, f⟩ := h
    exact ⟨a, e1, e2, Free.less f⟩
  | .kls ns, v, h => by
    simp only [Rep] at h ⊢
    obtain ⟨a, e1, e2⟩ := h
    exact ⟨a, e1, e2.imp (fun e2 => ⟨e2.1, Free.less e2.2⟩) id⟩
theorem RepL.less {D : Addr} {ms : List Addr} {st : Sto} {H : Hp} : ∀ (ds : List PV) (vs : List V), RepL (G.plus D) ms st H ds vs → RepL G ms st H ds vs
  | [], vs, h => by simpa only [RepL] using h
  | d :: ds, vs, h => by
    simp only [RepL] at h ⊢
    obtain ⟨v, r, e1, e2, e3⟩ := h
    exact ⟨v, r, e1, Rep.less d v e2, RepL.less ds r e3⟩
theorem RepK.less {D : Addr} {ms : List Addr} {st : Sto} {H : Hp} : ∀ (ds : List (DK × PV)) (vs : List (L2.Key × V)), RepK (G.plus D) ms st H ds vs → RepK G ms st H ds vs
  | [], vs, h => by simpa only [RepK] using h
  | (k, d) :: ds, vs, h => by
    simp only [RepK] at h ⊢
    obtain ⟨ka, v, l', e1, e2, e3, e4⟩ := h
    exact ⟨ka, v, l', e1, e2, Rep.less d v e3, RepK.less ds l' e4⟩
theorem RepT.less {D : Addr} {ms : List Addr} {st : Sto} {H : Hp} : ∀ (ds : List (DK × PV)) (vs : List (List L2.Key × V)), RepT (G.plus D) ms st H ds vs → RepT G ms st H ds vs
  | [], vs, h => by simpa only [RepT] using h
  | (k, d) :: ds, vs, h => by
    simp only [RepT] at h ⊢
    obtain ⟨ka, v, l', e1, e2, e3, e4⟩ := h
    exact ⟨ka, v, l', e1, e2, Rep.less d v e3, RepT.less ds l' e4⟩
end
theorem RepF.less {D : Addr} {ms : List Addr} {st : Sto} {H : Hp} : ∀ (ds : List (String × PV)) (vs : List (Str × V)), RepF (G.plus D) ms st H ds vs → RepF G ms st H ds vs
  | [], vs, h => by simpa only [RepF] using h
  | (k, d) :: ds, vs, h => by
    simp only [RepF] at h ⊢
    obtain ⟨v, l', e2, e3, e4⟩ := h
    exact ⟨v, l', e2, Rep.less d v e3, RepF.less ds l' e4⟩
theorem ObjR.less {D : Addr} {ms : List Addr} {st : Sto} {H : Hp} {o : PO} {a : Addr} (h : ObjR (G.plus D) ms st H o a) : ObjR G ms st H o a := by
  cases o with
  | dead => trivial
  | lst xs => obtain ⟨vs, h1, h2⟩ := h; exact ⟨vs, h1, RepL.less _ _ h2⟩
  | dct t kvs => cases t <;> (obtain ⟨vs, h1, h2⟩ := h; first | exact ⟨vs, h1, RepK.less _ _ h2⟩ | exact ⟨vs, h1, RepT.less _ _ h2⟩)
  | inst c fs => obtain ⟨dx, vs, h1, h2⟩ := h; exact ⟨dx, vs, h1, RepF.less _ _ h2⟩
theorem SOk.less {D : Addr} {ms : List Addr} {st : Sto} {H : Hp} (S : SOk (G.plus D) ms st H) : SOk G ms st H :=
  ⟨S.len, S.inj, fun i o a h1 h2 => (S.obj i o a h1 h2).less, fun i a h1 h2 h3 => S.out i a h1 h2 (List.mem_cons_of_mem _ h3), fun a h => S.rsv a (List.mem_cons_of_mem _ h)⟩
/-- a step that leaves the thing that is made alone, seen from outside -/
theorem Ext.less {D : Addr} {ms ms1 : List Addr} {st st1 : Sto} {H H1 : Hp} {o : HO} (e : Ext (G.plus D).rsv lo ms st (upd H D o) ms1 st1 H1) (hD : H D = none) (hr : ∀ a ∈ G.rsv, H a ≠ none) : Ext G.rsv lo ms st H ms1 st1 H1 where
  pre := e.pre
  keep := fun a u r f => by
    have ne : a ≠ D := fun z => by subst z; exact Rd.ne_none r hD
    refine e.keep a u ?_ ⟨fun q => (List.mem_cons.mp q).elim ne f.1, f.2⟩
    rcases r with r | ⟨o', r⟩
    · exact .inl (by rw [upd_ne ne]; exact r)
    · exact .inr ⟨o', by rw [upd_ne ne]; exact r⟩
  tup := fun a vs h => e.tup a vs (by rw [upd_ne (ne_of_none h hD)]; exact h)
  dom := fun a h => e.dom a (by rw [upd_ne (fun z => by subst z; exact h hD)]; exact h)
  alv := e.alv
  new := fun i a h q => by
    have := e.new i a h q
    by_cases z : a = D
    · subst z; exact hD
    · rw [upd_ne z] at this; exact this
  low := e.low
  rsv := fun a ha h => by
    have ne : a ≠ D := fun z => by subst z; exact h hD
    rw [e.rsv a (List.mem_cons_of_mem _ ha) (by rw [upd_ne ne]; exact h), upd_ne ne]
section
variable {D : Addr} {ms : List Addr} {st : Sto} {H : Hp} {o : HO}
theorem rd_more (hD : H D = none) {a : Addr} {u : HO} (r : Rd H a u) : Rd (upd H D o) a u := by
  have ne : a ≠ D := fun z => by subst z; exact Rd.ne_none r hD
  rcases r with r | ⟨o', r⟩
  · exact .inl (by rw [upd_ne ne]; exact r)
  · exact .inr ⟨o', by rw [upd_ne ne]; exact r⟩
theorem free_more (hD : H D = none) {a : Addr} {u : HO} (r : Rd H a u) (f : Free G.rsv ms st a) : Free (G.plus D).rsv ms st a :=
  ⟨fun q => (List.mem_cons.mp q).elim (fun z => by subst z; exact Rd.ne_none r hD) f.1, f.2⟩
mutual
theorem Rep.more (hD : H D = none) : ∀ (d : PV) (v : V), Rep G ms st H d v → Rep (G.plus D) ms st (upd H D o) d v
  | .none, v, h => by simpa only [Rep] using h
  | .bool b, v, h => by simpa only [Rep] using h
  | .int i, v, h => by simpa only [Rep] using h
  | .str s, v, h => by simpa only [Rep] using h
  | .tup ds, v, h => by
    simp only [Rep] at h ⊢
    obtain ⟨a, vs, e1, e2, e3⟩ := h
    exact ⟨a, vs, e1, (upd_ne (ne_of_none e2 hD)).trans e2, RepL.more hD ds vs e3⟩
  | .lst ds, v, h => by
    simp only [Rep] at h ⊢
    obtain ⟨a, vs, e1, e2, e3⟩ := h
    exact ⟨a, vs, e1, ⟨rd_more hD e2.1, free_more hD e2.1 e2.2⟩, RepL.more hD ds vs e3⟩
  | .dct false kvs, v, h => by
    simp only [Rep] at h ⊢
    obtain ⟨a, l, e1, f, r, h⟩ := h
    exact ⟨a, l, e1, free_more hD r f, rd_more hD r, RepK.more hD kvs l h⟩
  | .dct true kvs, v, h => by
    simp only [Rep] at h ⊢
    obtain ⟨a, l, e1, f, r, h⟩ := h
    exact ⟨a, l, e1, free_more hD r f, rd_more hD r, RepT.more hD kvs l h⟩
  | .box i, v, h => by simpa only [Rep] using h
  | .exc c, v, h => by
    simp only [Rep] at h ⊢
    obtain ⟨a, e1, e2, f⟩ := h
    exact ⟨a, e1, rd_more hD e2, free_more hD e2 f⟩
  | .kls ns, v, h => by
    simp only [Rep] at h ⊢
    obtain ⟨a, e1, e2⟩ := h
    exact ⟨a, e1, e2.imp (fun e2 => ⟨rd_more hD e2.1, free_more hD e2.1 e2.2⟩) id⟩
theorem RepL.more (hD : H D = none) : ∀ (ds : List PV) (vs : List V), RepL G ms st H ds vs → RepL (G.plus D) ms st (upd H D o) ds vs
  | [], vs, h => by simpa only [RepL] using h
  | d :: ds, vs, h => by
    simp only [RepL] at h ⊢
    obtain ⟨v, r, e1, e2, e3⟩ := h
    exact ⟨v, r, e1, Rep.more hD d v e2, RepL.more hD ds r e3⟩
theorem RepK.more (hD : H D = none) : ∀ (ds : List (DK × PV)) (vs : List (L2.Key × V)), RepK G ms st H ds vs → RepK (G.plus D) ms st (upd H D o) ds vs
  | [], vs, h => by simpa only [RepK] using h
  | (k, d) :: ds, vs, h => by
    simp only [RepK] at h ⊢
    obtain ⟨ka, v, l', e1, e2, e3, e4⟩ := h
    exact ⟨ka, v, l', e1, e2, Rep.more hD d v e3, RepK.more hD ds l' e4⟩
theorem RepT.more (hD : H D = none) : ∀ (ds : List (DK × PV)) (vs : List (List L2.Key × V)), RepT G ms st H ds vs → RepT (G.plus D) ms st (upd H D o) ds vs
  | [], vs, h => by simpa only [RepT] using h
  | (k, d) :: ds, vs, h => by
    simp only [RepT] at h ⊢
    obtain ⟨ka, v, l', e1, e2, e3, e4⟩ := h
    exact ⟨ka, v, l', e1, e2, Rep.more hD d v e3, RepT.more hD ds l' e4⟩
end
theorem RepF.more (hD : H D = none) : ∀ (ds : List (String × PV)) (vs : List (Str × V)), RepF G ms st H ds vs → RepF (G.plus D) ms st (upd H D o) ds vs
  | [], vs, h => by simpa only [RepF] using h
  | (k, d) :: ds, vs, h => by
    simp only [RepF] at h ⊢
    obtain ⟨v, l', e2, e3, e4⟩ := h
    exact ⟨v, l', e2, Rep.more hD d v e3, RepF.more hD ds l' e4⟩
theorem EOk.more (hD : H D = none) : ∀ (ρ : Env) (σ : L2.St), EOk G ms st H ρ σ → EOk (G.plus D) ms st (upd H D o) ρ σ
  | [], σ, h => by simpa only [EOk] using h
  | p :: ρ, σ, h => by
    simp only [EOk] at h ⊢
    obtain ⟨v, σ', e1, e2, e3⟩ := h
    exact ⟨v, σ', e1, fun d hd => let ⟨u, q, r⟩ := e2 d hd; ⟨u, q, Rep.more hD d u r⟩, EOk.more hD ρ σ' e3⟩
/-- in a state with the new list at D: all that was there, is there -/
theorem SOk.more (S : SOk G ms st H) (hD : H D = none) : SOk (G.plus D) ms st (upd H D o) := by
  refine ⟨S.len, S.inj, fun i q a h1 h2 => ?_, fun i a h1 h2 h3 => ?_, fun a ha => ?_⟩
  · have x := S.obj i q a h1 h2
    have ne : ∀ u, H a = some u → upd H D o a = some u := fun u e => (upd_ne (ne_of_none e hD)).trans e
    cases q with
    | dead => trivial
    | lst xs => obtain ⟨vs, h1, h2⟩ := x; exact ⟨vs, ne _ h1, RepL.more hD _ _ h2⟩
    | dct t kvs => cases t <;> (obtain ⟨vs, h1, h2⟩ := x; first | exact ⟨vs, ne _ h1, RepK.more hD _ _ h2⟩ | exact ⟨vs, ne _ h1, RepT.more hD _ _ h2⟩)
    | inst c fs => obtain ⟨dx, vs, h1, h2⟩ := x; exact ⟨dx, vs, ne _ h1, RepF.more hD _ _ h2⟩
  · rcases List.mem_cons.mp h3 with z | z
    · subst z
      obtain ⟨q, e1, e2⟩ := h1
      exact (S.obj i q a e1 h2).there e2 hD
    · exact S.out i a h1 h2 z
  · rcases List.mem_cons.mp ha with z | z
    · subst z; rw [upd_same]; simp
    · rw [upd_ne (fun q => by subst q; exact S.rsv a z hD)]
      exact S.rsv a z
end

/-- the thing that was made goes into the store -/
theorem adopt_carry {D : Addr} {ms : List Addr} {st : Sto} {H : Hp} {o : PO} (S : SOk (G.plus D) ms st H) : Carry (G.plus D) G ms st H (ms ++ [D]) (st ++ [o]) H where
  K := rfl
  ca := rfl
  rd := fun a u r f => ⟨r, fun h => f.1 (List.mem_cons_of_mem _ h), fun i al e => by
    by_cases hi : i < st.length
    · rw [List.getElem?_append_left (by rw [S.len]; exact hi)] at e
      exact f.2 i (alive_append al hi) e
    · have h2 := (List.getElem?_eq_some_iff.mp e).1
      rw [List.length_append, List.length_singleton, S.len] at h2
      obtain rfl : i = st.length := by omega
      rw [← S.len, List.getElem?_append_right (Nat.le_refl _), Nat.sub_self] at e
      obtain rfl : D = a := by simpa using e
      exact f.1 List.mem_cons_self⟩
  tp := fun _ _ h => h
  bx := fun i a h => by rw [List.getElem?_append_left (List.getElem?_eq_some_iff.mp h).1]; exact h
theorem SOk.adopt {D : Addr} {ms : List Addr} {st : Sto} {H : Hp} {xs : List PV} {vs : List V} (S : SOk (G.plus D) ms st H) (hD : H D = some (.lst vs)) (r : RepL (G.plus D) ms st H xs vs) (nd : D ∉ G.rsv) :
    SOk G (ms ++ [D]) (st ++ [.lst xs]) H := by
  have c := adopt_carry (o := .lst xs) S
  have old : ∀ {i : Nat} {a : Addr}, i < st.length → (ms ++ [D])[i]? = some a → ms[i]? = some a := fun hi h => by
    rw [List.getElem?_append_left (by rw [S.len]; exact hi)] at h
    exact h
  have last : ∀ {i : Nat} {a : Addr}, ¬ i < st.length → (ms ++ [D])[i]? = some a → i = st.length ∧ a = D := fun {i a} hi h => by
    have h2 := (List.getElem?_eq_some_iff.mp h).1
    rw [List.length_append, List.length_singleton, S.len] at h2
    obtain rfl : i = st.length := by omega
    rw [← S.len, List.getElem?_append_right (Nat.le_refl _), Nat.sub_self] at h
    exact ⟨rfl, by simpa using h.symm⟩
  have ne : ∀ {i : Nat}, alive st i → ms[i]? ≠ some D := fun al e => S.out _ D al e List.mem_cons_self
  refine ⟨by simp [S.len], fun i j a ai aj hi hj => ?_, fun i q a h1 h2 => ?_, fun i a ai hi => ?_, fun a ha => S.rsv a (List.mem_cons_of_mem _ ha)⟩
  · by_cases ci : i < st.length
    · by_cases cj : j < st.length
      · exact S.inj i j a (alive_append ai ci) (alive_append aj cj) (old ci hi) (old cj hj)
      · obtain ⟨rfl, rfl⟩ := last cj hj
        exact absurd (old ci hi) (ne (alive_append ai ci))
    · obtain ⟨rfl, rfl⟩ := last ci hi
      by_cases cj : j < st.length
      · exact absurd (old cj hj) (ne (alive_append aj cj))
      · exact (last cj hj).1.symm
  · by_cases ci : i < st.length
    · rw [List.getElem?_append_left ci] at h1
      exact (S.obj i q a h1 (old ci h2)).carry c fun _ e => e
    · obtain ⟨rfl, rfl⟩ := last ci h2
      rw [List.getElem?_append_right (Nat.le_refl _), Nat.sub_self] at h1
      obtain rfl : PO.lst xs = q := by simpa using h1
      exact ⟨vs, hD, RepL.carry c _ _ r⟩
  · by_cases ci : i < st.length
    · exact fun h => S.out i a (alive_append ai ci) (old ci hi) (List.mem_cons_of_mem _ h)
    · obtain ⟨rfl, rfl⟩ := last ci hi
      exact nd

/-! ### where a block stands -/
theorem relS_eq (scope : Scope) (env : PySem.Env) : PySem.relabel scope env = L2.relS scope env.scope := rfl
theorem Lk.blk (L : Lk X G Γ C) {s : Shared} {H : Hp} {scope : Scope} {cl : List (Str × Addr)} {D A : Addr} {fp : List Addr} :
    Lk (X.blk s H scope (compEnvC scope cl A X.env) fp) (G.plus D) Γ { C with sc := L2.relS scope C.sc, fnc := fun x => scope.names.lookup x == some .cell } where
  K := L.K
  N := L.N
  nd := L.nd
  sc := by show PySem.relabel scope X.env = _; rw [relS_eq, L.sc]
  calm := L.calm
  loc := fun x h => by
    have e : (compEnvC scope cl A X.env).scope = L2.relS scope C.sc := by show PySem.relabel scope X.env = _; rw [relS_eq, L.sc]
    show (scope.names.lookup x == some .cell) = true ∨ (compEnvC scope cl A X.env).scope.names.lookup x = some .local
    rw [e]
    unfold canStore at h
    split at h
    · rename_i q
      exact .inr q
    · exact .inl h
    · cases h
  room := L.room
  fn := L.fn
  bi := L.bi
  exc := L.exc
  gl := L.gl
end
end Z

set_option maxHeartbeats 200000
set_option maxRecDepth 512
set_option maxHeartbeats 2000000
/-! Comprehensions: the rule. -/
namespace Z
open PySem PySem.Spec PyProof.Rows
open L2 (V HO Hp SqL SqT Rd upd upd_same upd_ne ne_of ne_of_none Cx PE PT PS PSs PA PG PGs PI PW Inv VK TE TA TS TT TG TGs RelV Vals Dp DpAll)

section
variable {X : Cx} {G : Ctx} {Γ : Gam} {C : CC} {lo : Nat} {W : L2.WX}

theorem pe_ex {ι : Type} {e : Expr} {t : ι → TE} (h : ∀ i, PE X e (t i)) : PE X e (fun σ H Q => ∃ i, t i σ H Q) := ⟨fun pins s σ H Q I ⟨i, q⟩ => (h i).run pins s σ H Q I q⟩
theorem pts_ex {ι : Type} {es : List Expr} {t : ι → TT} (h : ∀ i, L2.PTs X es (t i)) : L2.PTs X es (fun σ H Q => ∃ i, t i σ H Q) := ⟨fun pins s σ H Q I ⟨i, q⟩ => (h i).run pins s σ H Q I q⟩

abbrev WF : L2.WX := fun _ _ _ _ => False
theorem takesF {X : Cx} : L2.Takes X WF := fun u s' ⟨_, _, _, _, _, _, _, _, _, _, _, _, _, _, _, _, w⟩ => w.elim

theorem Ext.drop {rs : List Addr} {D : Addr} {ms ms1 : List Addr} {st st1 : Sto} {H H1 : Hp} (e : Ext (D :: rs) lo ms st H ms1 st1 H1) (hD : H D ≠ none) : Ext rs lo ms st H ms1 st1 H1 where
  pre := e.pre
  keep := fun a u r f => by
    by_cases h : a = D
    · subst h
      have q := e.rsv a List.mem_cons_self hD
      rcases r with r | ⟨o, r⟩
      · exact .inl (q.trans r)
      · exact .inr ⟨o, q.trans r⟩
    · exact e.keep a u r ⟨fun q => (List.mem_cons.mp q).elim h f.1, f.2⟩
  tup := e.tup
  dom := e.dom
  alv := e.alv
  new := e.new
  low := e.low
  rsv := fun a ha => e.rsv a (List.mem_cons_of_mem _ ha)
theorem Ext.updNone {rs : List Addr} {D : Addr} {ms ms1 : List Addr} {st st1 : Sto} {H H1 : Hp} {o : HO} (e : Ext rs lo ms1 st1 H1 ms st H) (hD : H1 D = none) : Ext rs lo ms1 st1 H1 ms st (upd H D o) where
  pre := e.pre
  keep := fun a u r f => by
    have ne : a ≠ D := fun z => by subst z; exact Rd.ne_none r hD
    rcases e.keep a u r f with r | ⟨o', r⟩
    · exact .inl (by rw [upd_ne ne]; exact r)
    · exact .inr ⟨o', by rw [upd_ne ne]; exact r⟩
  tup := fun a vs h => by rw [upd_ne (ne_of_none h hD)]; exact e.tup a vs h
  dom := fun a h => by rw [upd_ne (fun z => by subst z; exact h hD)]; exact e.dom a h
  alv := e.alv
  new := e.new
  low := e.low
  rsv := fun a ha h => by rw [upd_ne (fun z => by subst z; exact h hD)]; exact e.rsv a ha h
theorem updD_carry {D : Addr} {ms : List Addr} {st : Sto} {H : Hp} {o : HO} {acc : List V} (hD : H D = some (.lst acc)) : Carry (G.plus D) (G.plus D) ms st H ms st (upd H D o) where
  K := rfl
  ca := rfl
  rd := fun a u r f => by
    have ne : a ≠ D := fun z => f.1 (by rw [z]; exact List.mem_cons_self)
    refine ⟨?_, f⟩
    rcases r with r | ⟨o', r⟩
    · exact .inl (by rw [upd_ne ne]; exact r)
    · exact .inr ⟨o', by rw [upd_ne ne]; exact r⟩
  tp := fun a vs h => by
    have ne : a ≠ D := fun z => by subst z; rw [hD] at h; cases h
    rw [upd_ne ne]
    exact h
  bx := fun _ _ h => h
theorem SOk.updD {D : Addr} {ms : List Addr} {st : Sto} {H : Hp} {o : HO} {acc : List V} (S : SOk (G.plus D) ms st H) (hD : H D = some (.lst acc)) : SOk (G.plus D) ms st (upd H D o) := by
  refine ⟨S.len, S.inj, fun i q a h1 h2 => ?_, S.out, fun a ha => ?_⟩
  · by_cases hq : q = .dead
    · subst hq; trivial
    · have ne : a ≠ D := fun z => S.out i a ⟨q, h1, hq⟩ h2 (by rw [z]; exact List.mem_cons_self)
      exact (S.obj i q a h1 h2).carry (updD_carry hD) fun u e => (upd_ne ne).trans e
  · by_cases z : a = D
    · subst z; rw [upd_same]; simp
    · rw [upd_ne z]; exact S.rsv a ha
theorem EOk.carry {G' : Ctx} {ms ms' : List Addr} {st st' : Sto} {H H' : Hp} (c : Carry G G' ms st H ms' st' H') : ∀ (ρ : Env) (σ : L2.St), EOk G ms st H ρ σ → EOk G' ms' st' H' ρ σ
  | [], σ, h => by simpa only [EOk] using h
  | p :: ρ, σ, h => by
    simp only [EOk] at h ⊢
    obtain ⟨v, σ', e1, e2, e3⟩ := h
    exact ⟨v, σ', e1, fun d hd => let ⟨u, q, r⟩ := e2 d hd; ⟨u, q, Rep.carry c d u r⟩, EOk.carry c ρ σ' e3⟩

/-! ### slots -/
theorem EOk.wipe {ms : List Addr} {st : Sto} {H : Hp} {ρ : Env} {σ : L2.St} (E : EOk G ms st H ρ σ) : ∀ vs : List Nat, EOk G ms st H (Z.wipe ρ vs) (L2.wipe σ vs)
  | [] => E
  | i :: r => by
    show EOk G ms st H ((Z.wipe ρ r).set i none) ((L2.wipe σ r).set i none)
    exact EOk.unset (EOk.wipe E r)
theorem zwipe_len (ρ : Env) : ∀ vs : List Nat, (Z.wipe ρ vs).length = ρ.length
  | [] => rfl
  | i :: r => by show ((Z.wipe ρ r).set i none).length = _; rw [List.length_set, zwipe_len ρ r]
theorem wipe_in {σ : L2.St} : ∀ {vs : List Nat} {i : Nat}, i ∈ vs → i < σ.length → (L2.wipe σ vs)[i]? = some none
  | v :: vs, i, h, hi => by
    show ((L2.wipe σ vs).set v none)[i]? = _
    by_cases e : v = i
    · subst e
      rw [List.getElem?_set_self (by rw [L2.wipe_length]; exact hi)]
    · rw [List.getElem?_set_ne e]
      exact wipe_in ((List.mem_cons.mp h).resolve_left fun z => e z.symm) hi
theorem wipe_back {σ σ2 : L2.St} {vs : List Nat} (hl : σ2.length = σ.length) (h : ∀ i, i ∉ vs → σ2[i]? = (L2.wipe σ vs)[i]?) : L2.wipe σ2 vs = L2.wipe σ vs := by
  apply List.ext_getElem?
  intro i
  by_cases hi : i ∈ vs
  · by_cases hz : i < σ.length
    · rw [wipe_in hi (by omega), wipe_in hi hz]
    · rw [List.getElem?_eq_none (by rw [L2.wipe_length]; omega), List.getElem?_eq_none (by rw [L2.wipe_length]; omega)]
  · rw [L2.wipe_out hi, h i hi]
mutual
theorem assign_length : ∀ (t : Tg) (d : PV) (ρ ρ' : Env), assign t d ρ = some ρ' → ρ'.length = ρ.length
  | .name i, d, ρ, ρ', h => by
    simp only [assign, Option.some.injEq] at h
    subst h
    simp
  | .tup l, d, ρ, ρ', h => by
    cases d with
    | tup xs => simp only [assign] at h; exact assigns_length l xs ρ ρ' h
    | lst xs => simp only [assign] at h; exact assigns_length l xs ρ ρ' h
    | _ => simp [assign] at h
theorem assigns_length : ∀ (l : List Tg) (ds : List PV) (ρ ρ' : Env), assign.go l ds ρ = some ρ' → ρ'.length = ρ.length
  | [], ds, ρ, ρ', h => by
    cases ds with
    | nil => simp only [assign.go, Option.some.injEq] at h; subst h; rfl
    | cons _ _ => simp [assign.go] at h
  | t :: l, ds, ρ, ρ', h => by
    cases ds with
    | nil => simp [assign.go] at h
    | cons d ds =>
      simp only [assign.go] at h
      obtain ⟨ρ1, h1, h2⟩ := Option.bind_eq_some_iff.mp h
      rw [assigns_length l ds ρ1 ρ' h2, assign_length t d ρ ρ1 h1]
end

/-- from what is wanted at the whole's start to a part in the block -/
theorem Res.inner {α β : Type} {G' : Ctx} {rep' : List Addr → Sto → Hp → α → β → Prop} {r : R PV} {k : PV → Sto → R α} {ms ms1 : List Addr} {st st1 : Sto} {H H1 : Hp} {Q : β → Hp → Prop} {E E1 : Nat → Hp → Prop} {Q1 : V → Hp → Prop}
    (h : Res G rep' lo ms1 st1 H1 (r.calm.bind k) Q E)
    (q : ∀ v st' ms' H' u, Ext G'.rsv lo ms st H ms' st' H' → SOk G' ms' st' H' → Rep G' ms' st' H' v u → Res G rep' lo ms1 st1 H1 (k v st') Q E → Q1 u H') : Res G' (Rep G') lo ms st H r Q1 E1 := by
  cases r with
  | ok v st' => exact fun ms' H' u e o r => q v st' ms' H' u e o r h
  | exc c st' => exact h.elim
  | bad => exact h.elim

/-- one turn's element, where its test lets it -/
def elF (tg : Tg) (vs : List Nat) (dc : Option (Env → Sto → R PV)) (de : Env → Sto → R PV) (ρ : Env) : PV → Sto → R (Option PV) := fun x st2 => match assign tg x (wipe ρ vs) with
  | some ρ' => (match dc with
    | some c => (c ρ' st2).calm.bind fun b st3 => match b with
      | .bool true => (de ρ' st3).calm.bind fun y st4 => .ok (some y) st4
      | .bool false => .ok none st3
      | _ => .bad
    | none => (de ρ' st2).calm.bind fun y st4 => .ok (some y) st4)
  | none => .bad
def lcFin (bx : Bool) (zs : List PV) (st : Sto) : R PV := if zs.length ≤ sizeLine then mkLst bx zs st else .bad

/-- where a comprehension's loop stands: the new list at D holds acc; ms1, st1, H1: behind the source -/
structure LcAt (G : Ctx) (lo : Nat) (ms1 : List Addr) (st1 : Sto) (H1 : Hp) (ρ : Env) (σ : L2.St) (D : Addr) (ms : List Addr) (st : Sto) (H : Hp) (accP : List PV) (acc : List V) : Prop where
  hl : lo ≤ st.length
  e : Ext G.rsv lo ms1 st1 H1 ms st H
  S : SOk (G.plus D) ms st H
  E : EOk (G.plus D) ms st H ρ σ
  c : Carry G (G.plus D) ms1 st1 H1 ms st H
  hD : H D = some (.lst acc)
  r : RepL (G.plus D) ms st H accP acc

theorem LcAt.stop {ms1 : List Addr} {st1 : Sto} {H1 : Hp} {ρ : Env} {σ : L2.St} {D : Addr} {ms : List Addr} {st : Sto} {H : Hp} {accP : List PV} {acc : List V} {bx : Bool} {Q : VK} {E : Nat → Hp → Prop}
    (A : LcAt G lo ms1 st1 H1 ρ σ D ms st H accP acc) (S1 : SOk G ms1 st1 H1) (hD1 : H1 D = none) (h : Res G (Rep G) lo ms1 st1 H1 (lcFin bx accP st) Q E) : Q (.ref D) H := by
  have nr : D ∉ G.rsv := fun z => S1.rsv D z hD1
  unfold lcFin at h
  split at h
  · cases bx with
    | false =>
      refine h ms H (.ref D) A.e A.S.less ?_
      simp only [Rep]
      exact ⟨D, acc, rfl, ⟨.inl A.hD, nr, fun i al e => A.S.out i D al e List.mem_cons_self⟩, RepL.less _ _ A.r⟩
    | true =>
      have hlen := A.S.len
      refine h (ms ++ [D]) H (.ref D) ⟨A.e.pre.trans (List.prefix_append _ _), A.e.keep, A.e.tup, A.e.dom, fun i hi al => A.e.alv i hi (alive_append al (by have := A.e.pre.length_le; omega)), fun i a hi q => ?_, fun i hi => ?_, A.e.rsv⟩ (A.S.adopt A.hD A.r nr) ?_
      · by_cases c : i < ms.length
        · rw [List.getElem?_append_left c] at q
          exact A.e.new i a hi q
        · have h2 := (List.getElem?_eq_some_iff.mp q).1
          rw [List.length_append, List.length_singleton] at h2
          obtain rfl : i = ms.length := by omega
          rw [List.getElem?_append_right (Nat.le_refl _), Nat.sub_self] at q
          obtain rfl : D = a := by simpa using q
          exact hD1
      · have := A.hl
        rw [List.getElem?_append_left (by omega)]
        exact A.e.low i hi
      · simp only [Rep]
        exact ⟨D, rfl, by rw [← hlen]; simp⟩
  · exact h.elim
end
end Z

set_option maxHeartbeats 200000
set_option maxRecDepth 512
set_option maxHeartbeats 2000000
/-! Comprehensions: turns. -/
namespace Z
open PySem PySem.Spec PyProof.Rows
open L2 (V HO Hp SqL SqT Rd upd upd_same upd_ne ne_of ne_of_none Cx PE PT PS PSs PA PG PGs PI PW Inv VK TE TA TS TT TG TGs RelV Vals Dp DpAll)

section
variable {X : Cx} {G : Ctx} {Γ : Gam} {C : CC} {lo : Nat} {W : L2.WX}

abbrev teX (G : Ctx) (lo : Nat) (de : Env → Sto → R PV) : TE := fun σ H Q => ∃ D, tE (G.plus D) lo WF de σ H Q
abbrev ttX (G : Ctx) (lo : Nat) : Option (Env → Sto → R PV) → TT
  | none => L2.tYes
  | some dc => fun σ H Q => ∃ D, tB (tE (G.plus D) lo WF dc) σ H Q

/-- one turn: the target's store, the test, the element -/
theorem LcAt.turn {ms1 : List Addr} {st1 : Sto} {H1 : Hp} {ρ : Env} {σ : L2.St} {D : Addr} {ms : List Addr} {st : Sto} {H : Hp} {accP : List PV} {acc : List V} {Q : VK} {E : Nat → Hp → Prop}
    {tg : Tg} {vs : List Nat} {dc : Option (Env → Sto → R PV)} {de : Env → Sto → R PV} {x : PV} {u : V} {bx : Bool} {K : PySem.W.Frag} {rest : Sto → R (List PV)} {Nx : Hp → Prop} (hK : K = G.K) (hv : ∀ i ∈ tgVars tg, i ∈ vs) (hre : ∀ st c st', rest st ≠ .exc c st')
    (A : LcAt G lo ms1 st1 H1 ρ σ D ms st H accP acc) (S1 : SOk G ms1 st1 H1) (hD1 : H1 D = none) (rx : Rep (G.plus D) ms st H x u)
    (h : Res G (Rep G) lo ms1 st1 H1 (((elF tg vs dc de ρ x st).bind fun o st2 => (rest st2).bind fun ys st3 => .ok (match o with | some y => y :: ys | none => ys) st3).bind fun ys st3 => lcFin bx (accP ++ ys) st3) Q E)
    (hn : ∀ ms' st' H' accP' acc', LcAt G lo ms1 st1 H1 ρ σ D ms' st' H' accP' acc' → Res G (Rep G) lo ms1 st1 H1 ((rest st').bind fun ys st3 => lcFin bx (accP' ++ ys) st3) Q E → Nx H') :
    gOf K tg u (L2.wipe σ vs) H fun σ2 H2 => L2.wipe σ2 vs = L2.wipe σ vs ∧ ttX G lo dc σ2 H2 fun b H3 => if b = true then teX G lo de σ2 H3 fun y H4 => ∃ acc, H4 D = some (.lst acc) ∧ acc.length < PySem.sizeLine ∧ Nx (upd H4 D (.lst (acc ++ [y]))) else Nx H3 := by
  have nD : H D ≠ none := by rw [A.hD]; simp
  unfold elF at h
  cases ha : assign tg x (wipe ρ vs) with
  | none => simp only [ha] at h; exact h.elim
  | some ρ' =>
    simp only [ha] at h
    refine assign_ok (G := G.plus D) hK tg x u _ ρ' _ _ rx (EOk.wipe A.E vs) ha fun σ2 E2 k2 => ?_
    have hlen : σ2.length = σ.length := by rw [E2.len, assign_length _ _ _ _ ha, zwipe_len, A.E.len]
    refine ⟨wipe_back hlen fun i hi => k2 i fun z => hi (hv i z), ?_⟩
    -- the element, from any state behind the test
    have elem : ∀ ms' st' H', Ext (G.plus D).rsv lo ms st H ms' st' H' → SOk (G.plus D) ms' st' H' →
        Res G (Rep G) lo ms1 st1 H1 (((((de ρ' st').calm.bind fun y st4 => R.ok (some y) st4) : R (Option PV)).bind fun o st2 => (rest st2).bind fun ys st3 => .ok (match o with | some y => y :: ys | none => ys) st3).bind fun ys st3 => lcFin bx (accP ++ ys) st3) Q E →
        teX G lo de σ2 H' fun y H4 => ∃ acc, H4 D = some (.lst acc) ∧ acc.length < PySem.sizeLine ∧ Nx (upd H4 D (.lst (acc ++ [y]))) := fun ms' st' H' e' S' h' => by
      refine ⟨D, ms', ρ', st', e'.le A.S S' A.hl, S', E2.ext e', ?_⟩
      cases hr : de ρ' st' with
      | bad => rw [hr] at h'; exact h'.elim
      | exc c st4 => rw [hr] at h'; exact h'.elim
      | ok y st4 =>
        rw [hr] at h'
        simp only [R.calm_ok, R.bind_ok] at h'
        intro ms4 H4 uy e4 S4 r4
        have eA := e'.trans e4
        have hD4 : H4 D = some (.lst acc) := (eA.rsv D List.mem_cons_self nD).trans A.hD
        have cr := updD_carry (G := G) (ms := ms4) (st := st4) (o := .lst (acc ++ [uy])) hD4
        have e5 : Ext G.rsv lo ms st H ms4 st4 H4 := eA.drop nD
        have hex : ∃ ys st5, rest st4 = .ok ys st5 ∨ ∃ c, rest st4 = .exc c st5 := by
          cases hq : rest st4 with
          | ok ys st5 => exact ⟨ys, st5, .inl rfl⟩
          | exc c st5 => exact ⟨[], st5, .inr ⟨c, rfl⟩⟩
          | bad => rw [hq] at h'; exact h'.elim
        have h2 : Res G (Rep G) lo ms1 st1 H1 ((rest st4).bind fun ys st3 => lcFin bx ((accP ++ [y]) ++ ys) st3) Q E := by
          cases hq : rest st4 with
          | ok ys st5 => rw [hq] at h'; simpa only [R.bind_ok, List.append_assoc, List.singleton_append] using h'
          | exc c st5 => rw [hq] at h'; exact h'
          | bad => rw [hq] at h'; exact h'
        refine ⟨acc, hD4, ?_, ?_⟩
        · have hy : ∃ ys st5, rest st4 = .ok ys st5 := by
            obtain ⟨ys, st5, q | ⟨c, q⟩⟩ := hex
            · exact ⟨ys, st5, q⟩
            · exact absurd q (hre _ _ _)
          obtain ⟨ys, st5, q⟩ := hy
          rw [q, R.bind_ok] at h2
          unfold lcFin at h2
          split at h2
          · rename_i hz
            have := RepL.length _ _ A.r
            simp only [List.length_append, List.length_singleton] at hz
            rw [← line_eq]
            omega
          · exact h2.elim
        · refine hn ms4 st4 _ (accP ++ [y]) (acc ++ [uy]) ⟨eA.le A.S S4 A.hl, (A.e.trans e5).updNone hD1, S4.updD hD4, (A.E.ext eA).carry cr, (A.c.trans eA.carry).trans cr, upd_same, ?_⟩ h2
          · refine RepL.append _ _ _ _ (RepL.carry cr _ _ (RepL.ext eA _ _ A.r)) ?_
            simp only [RepL]
            exact ⟨uy, [], rfl, Rep.carry cr _ _ r4, rfl⟩
    cases dc with
    | none =>
      show (if true = true then teX G lo de σ2 H (fun y H4 => ∃ acc, H4 D = some (.lst acc) ∧ acc.length < PySem.sizeLine ∧ Nx (upd H4 D (.lst (acc ++ [y])))) else Nx H)
      rw [if_pos rfl]
      exact elem ms st H Ext.refl A.S h
    | some c =>
      simp only at h
      show ∃ D', tB (tE (G.plus D') lo WF c) σ2 H _
      refine ⟨D, ms, ρ', st, A.hl, A.S, E2, ?_⟩
      cases hr : c ρ' st with
      | bad => rw [hr] at h; exact h.elim
      | exc k st4 => rw [hr] at h; exact h.elim
      | ok b st4 =>
        rw [hr] at h
        simp only [R.calm_ok, R.bind_ok] at h
        intro ms4 H4 ub e4 S4 r4
        split at h
        · refine ⟨true, rep_bool r4, ?_⟩
          refine L2.iteT ?_
          exact elem ms4 st4 H4 e4 S4 h
        · refine ⟨false, rep_bool r4, ?_⟩
          refine L2.iteF ?_
          refine hn ms4 st4 H4 accP acc ⟨e4.le A.S S4 A.hl, A.e.trans (e4.drop nD), S4, A.E.ext e4, A.c.trans e4.carry, (e4.rsv D List.mem_cons_self nD).trans A.hD, RepL.ext e4 _ _ A.r⟩ ?_
          simp only [R.bind_ok] at h
          cases hq : rest st4 with
          | ok ys st5 => rw [hq] at h; exact h
          | exc c st5 => rw [hq] at h; exact h
          | bad => rw [hq] at h; exact h
        · exact h.elim

theorem elF_calm {tg : Tg} {vs : List Nat} {dc : Option (Env → Sto → R PV)} {de : Env → Sto → R PV} {ρ : Env} {x : PV} {st : Sto} {c : Nat} {st' : Sto} : elF tg vs dc de ρ x st ≠ .exc c st' := by
  have calm : ∀ {α β : Type} (r : R α) (f : α → Sto → R β), (∀ a s, f a s ≠ .exc c st') → r.calm.bind f ≠ .exc c st' := fun r f h => by
    cases r with
    | ok a s => exact h a s
    | exc c s => exact fun q => nomatch q
    | bad => exact fun q => nomatch q
  unfold elF
  split
  · split
    · refine calm _ _ fun b s => ?_
      split
      · exact calm _ _ fun _ _ q => nomatch q
      · exact fun q => nomatch q
      · exact fun q => nomatch q
    · exact calm _ _ fun _ _ q => nomatch q
  · exact fun q => nomatch q
theorem bind_calm {α β : Type} {r : R α} {f : α → Sto → R β} {c : Nat} {st' : Sto} (h1 : ∀ c' s, r ≠ .exc c' s) (h2 : ∀ a s, f a s ≠ .exc c st') : r.bind f ≠ .exc c st' := by
  cases r with
  | ok a s => exact h2 a s
  | exc c s => exact absurd rfl (h1 c s)
  | bad => exact fun q => nomatch q
theorem compFix_calm {f : PV → Sto → R (Option PV)} (hf : ∀ x st c st', f x st ≠ .exc c st') : ∀ (xs : List PV) (st : Sto) (c : Nat) (st' : Sto), compFix f xs st ≠ .exc c st'
  | [], st, c, st' => fun q => nomatch q
  | x :: r, st, c, st' => bind_calm (fun c' s => hf x st c' s) fun o s => bind_calm (fun c' s' => compFix_calm hf r s c' s') fun ys s' q => nomatch q
theorem compLive_calm {i : Nat} {f : PV → Sto → R (Option PV)} (hf : ∀ x st c st', f x st ≠ .exc c st') : ∀ (n k : Nat) (st : Sto) (c : Nat) (st' : Sto), compLive i f n k st ≠ .exc c st'
  | 0, k, st, c, st' => fun q => nomatch q
  | n + 1, k, st, c, st' => by
    unfold compLive
    split
    · split
      · exact bind_calm (fun c' s => hf _ st c' s) fun o s => bind_calm (fun c' s' => compLive_calm hf n (k + 1) s c' s') fun ys s' q => nomatch q
      · exact fun q => nomatch q
    · exact fun q => nomatch q

theorem more_carry {D : Addr} {ms : List Addr} {st : Sto} {H : Hp} {o : HO} (hD : H D = none) : Carry G (G.plus D) ms st H ms st (upd H D o) :=
  ⟨rfl, rfl, fun a u r f => ⟨rd_more hD r, free_more hD r f⟩, fun a vs h => (upd_ne (ne_of_none h hD)).trans h, fun _ _ h => h⟩
/-- the start: the new list is laid -/
theorem LcAt.start {ms1 : List Addr} {st1 : Sto} {H1 : Hp} {ρ : Env} {σ : L2.St} {D : Addr} (hl : lo ≤ st1.length) (S1 : SOk G ms1 st1 H1) (E1 : EOk G ms1 st1 H1 ρ σ) (hD : H1 D = none) : LcAt G lo ms1 st1 H1 ρ σ D ms1 st1 (upd H1 D (.lst [])) [] [] :=
  ⟨hl, Ext.refl.updNone hD, S1.more hD, E1.more hD _ _, more_carry hD, upd_same, by simp only [RepL]⟩

/-- the loop over what stays -/
theorem lc_fix {ms1 : List Addr} {st1 : Sto} {H1 : Hp} {ρ : Env} {σ : L2.St} {D : Addr} {Q : VK} {E : Nat → Hp → Prop} {tg : Tg} {vs : List Nat} {dc : Option (Env → Sto → R PV)} {de : Env → Sto → R PV} {bx : Bool} {K : PySem.W.Frag} {xs : List PV} {J : L2.It} (hK : K = G.K) (hv : ∀ i ∈ tgVars tg, i ∈ vs)
    (hl : lo ≤ st1.length) (S1 : SOk G ms1 st1 H1) (E1 : EOk G ms1 st1 H1 ρ σ) (hJ : SrcOk G lo ms1 st1 H1 (.fix xs) J) (hD : H1 D = none)
    (h : Res G (Rep G) lo ms1 st1 H1 ((compFix (elF tg vs dc de ρ) xs st1).bind fun ys st2 => lcFin bx ys st2) Q E) :
    ∃ W : Nat → Nat → Hp → Prop, (∃ m, W 0 m (upd H1 D (.lst []))) ∧ ∀ i m H, W i m H →
      (J.stop i H ∧ Q (.ref D) H) ∨ (J.go i H ∧ ∃ Nx : Hp → Prop, (∀ H', Nx H' → ∃ m', m' < m ∧ W (i + 1) m' H') ∧ ∀ x H', J.yld i H x H' → gOf K tg x (L2.wipe σ vs) H' fun σ2 H2 => L2.wipe σ2 vs = L2.wipe σ vs ∧ ttX G lo dc σ2 H2 fun b H3 =>
        if b = true then teX G lo de σ2 H3 fun y H4 => ∃ acc, H4 D = some (.lst acc) ∧ acc.length < PySem.sizeLine ∧ Nx (upd H4 D (.lst (acc ++ [y]))) else Nx H3) := by
  refine ⟨fun i m H => m = xs.length - i ∧ i ≤ xs.length ∧ ∃ ms st accP acc, LcAt G lo ms1 st1 H1 ρ σ D ms st H accP acc ∧ Res G (Rep G) lo ms1 st1 H1 ((compFix (elF tg vs dc de ρ) (xs.drop i) st).bind fun ys st2 => lcFin bx (accP ++ ys) st2) Q E,
    ⟨xs.length, by simp, Nat.zero_le _, ms1, st1, [], [], LcAt.start hl S1 E1 hD, by simpa using h⟩, ?_⟩
  rintro i m H ⟨rfl, hi, ms, st, accP, acc, A, hr⟩
  have hJ' := hJ (G.plus D) ms st H A.c
  by_cases hlt : i < xs.length
  · rw [List.drop_eq_getElem_cons hlt] at hr
    simp only [compFix] at hr
    obtain ⟨hg, hy⟩ := hJ'.2 i xs[i] (by simp [hlt])
    refine .inr ⟨hg, fun H' => i + 1 ≤ xs.length ∧ ∃ ms st accP acc, LcAt G lo ms1 st1 H1 ρ σ D ms st H' accP acc ∧ Res G (Rep G) lo ms1 st1 H1 ((compFix (elF tg vs dc de ρ) (xs.drop (i + 1)) st).bind fun ys st2 => lcFin bx (accP ++ ys) st2) Q E,
      fun H' ⟨h1, h2⟩ => ⟨xs.length - (i + 1), by omega, rfl, h1, h2⟩, fun x H' yl => ?_⟩
    obtain ⟨gr, rx⟩ := hy x H' yl
    have nD : H D ≠ none := by rw [A.hD]; simp
    have e0 : Ext (G.plus D).rsv lo ms st H ms st H' := Ext.grow gr
    have S' := A.S.grow gr
    have A' : LcAt G lo ms1 st1 H1 ρ σ D ms st H' accP acc := ⟨A.hl, A.e.trans (e0.drop nD), S', A.E.ext e0, A.c.trans e0.carry, (gr D nD).trans A.hD, RepL.ext e0 _ _ A.r⟩
    exact A'.turn hK hv (compFix_calm (fun _ _ _ _ => elF_calm) _) S1 hD rx hr fun ms' st' H'' accP' acc' A'' hr' => ⟨hlt, ms', st', accP', acc', A'', hr'⟩
  · obtain rfl : i = xs.length := by omega
    rw [List.drop_length] at hr
    simp only [compFix, R.bind_ok, List.append_nil] at hr
    exact .inl ⟨hJ'.1 _ (Nat.le_refl _), A.stop S1 hD hr⟩
end
end Z

set_option maxHeartbeats 200000
set_option maxRecDepth 512
set_option maxHeartbeats 2000000
/-! Comprehensions: the rule; expressions as a whole. -/
namespace Z
open PySem PySem.Spec PyProof.Rows
open L2 (V HO Hp SqL SqT Rd upd upd_same upd_ne ne_of ne_of_none Cx PE PT PS PSs PA PG PGs PI PW Inv VK TE TA TS TT TG TGs RelV Vals Dp DpAll)

section
variable {X : Cx} {G : Ctx} {Γ : Gam} {C : CC} {lo : Nat} {W : L2.WX}

/-- the loop over a list of the store -/
theorem lc_live {ms1 : List Addr} {st1 : Sto} {H1 : Hp} {ρ : Env} {σ : L2.St} {D : Addr} {Q : VK} {E : Nat → Hp → Prop} {tg : Tg} {vs : List Nat} {dc : Option (Env → Sto → R PV)} {de : Env → Sto → R PV} {bx : Bool} {K : PySem.W.Frag} {j n : Nat} {J : L2.It} (hK : K = G.K) (hv : ∀ i ∈ tgVars tg, i ∈ vs)
    (hl : lo ≤ st1.length) (S1 : SOk G ms1 st1 H1) (E1 : EOk G ms1 st1 H1 ρ σ) (hJ : SrcOk G lo ms1 st1 H1 (.live j) J) (hD : H1 D = none)
    (h : Res G (Rep G) lo ms1 st1 H1 ((compLive j (elF tg vs dc de ρ) n 0 st1).bind fun ys st2 => lcFin bx ys st2) Q E) :
    ∃ W : Nat → Nat → Hp → Prop, (∃ m, W 0 m (upd H1 D (.lst []))) ∧ ∀ i m H, W i m H →
      (J.stop i H ∧ Q (.ref D) H) ∨ (J.go i H ∧ ∃ Nx : Hp → Prop, (∀ H', Nx H' → ∃ m', m' < m ∧ W (i + 1) m' H') ∧ ∀ x H', J.yld i H x H' → gOf K tg x (L2.wipe σ vs) H' fun σ2 H2 => L2.wipe σ2 vs = L2.wipe σ vs ∧ ttX G lo dc σ2 H2 fun b H3 =>
        if b = true then teX G lo de σ2 H3 fun y H4 => ∃ acc, H4 D = some (.lst acc) ∧ acc.length < PySem.sizeLine ∧ Nx (upd H4 D (.lst (acc ++ [y]))) else Nx H3) := by
  obtain ⟨a, ha, rfl⟩ := hJ
  refine ⟨fun i m H => ∃ ms st accP acc, LcAt G lo ms1 st1 H1 ρ σ D ms st H accP acc ∧ Res G (Rep G) lo ms1 st1 H1 ((compLive j (elF tg vs dc de ρ) m i st).bind fun ys st2 => lcFin bx (accP ++ ys) st2) Q E,
    ⟨n, ms1, st1, [], [], LcAt.start hl S1 E1 hD, by simpa using h⟩, ?_⟩
  rintro i m H ⟨ms, st, accP, acc, A, hr⟩
  cases m with
  | zero => exact hr.elim
  | succ m =>
    unfold compLive at hr
    split at hr
    · rename_i xs hst
      have hma : ms[j]? = some a := pre_get A.e.pre ha
      obtain ⟨vs', hv', rl⟩ := A.S.obj j _ a hst hma
      have sq : SqL G.K H a vs' := .of hv'
      have hlen := RepL.length _ _ rl
      split at hr
      · rename_i x hx
        obtain ⟨v, ev, rx⟩ := RepL.get _ _ i x rl hx
        refine .inr ⟨⟨vs', v, sq, ev⟩, fun H' => ∃ ms st accP acc, LcAt G lo ms1 st1 H1 ρ σ D ms st H' accP acc ∧ Res G (Rep G) lo ms1 st1 H1 ((compLive j (elF tg vs dc de ρ) m (i + 1) st).bind fun ys st2 => lcFin bx (accP ++ ys) st2) Q E,
          fun H' h' => ⟨m, Nat.lt_succ_self _, h'⟩, fun x' H' ⟨eH, yl⟩ => ?_⟩
        subst eH
        have := yl vs' sq
        rw [ev] at this
        cases this
        exact A.turn hK hv (fun s c s' => compLive_calm (fun _ _ _ _ => elF_calm) _ _ s c s') S1 hD rx hr fun ms' st' H'' accP' acc' A'' hr' => ⟨ms', st', accP', acc', A'', hr'⟩
      · rename_i hx
        refine .inl ⟨⟨vs', sq, by rw [hlen]; exact List.getElem?_eq_none_iff.mp hx⟩, ?_⟩
        simp only [R.bind_ok, List.append_nil] at hr
        exact A.stop S1 hD hr
    · exact hr.elim

abbrev compD (bx : Bool) (tg : Tg) (vs : List Nat) (ds : Env → Sto → R Src) (dc : Option (Env → Sto → R PV)) (de : Env → Sto → R PV) : Env → Sto → R PV := fun ρ st => (ds ρ st).bind fun s st1 =>
  (match s with
    | .fix xs => compFix (elF tg vs dc de ρ) xs st1
    | .live i => compLive i (elF tg vs dc de ρ) (match st1[i]? with | some (.lst xs) => xs.length + 1 | _ => 0) 0 st1
    | .liveE _ => .bad).bind fun ys st2 => if ys.length ≤ sizeLine then mkLst bx ys st2 else .bad

theorem foldS {e : Expr} {env : PySem.Env} (h : isSet e = false) : ∀ x, foldedSetIterable e env x = pure x := by
  intro x
  cases e <;> first | rfl | (simp [isSet] at h)

/-- what the rule of comprehensions asks -/
theorem comp_asks (L : Lk X G Γ C) {bx : Bool} {tg : Tg} {vs : List Nat} {ds : Env → Sto → R Src} {dc : Option (Env → Sto → R PV)} {de : Env → Sto → R PV} (hv : ∀ i ∈ tgVars tg, i ∈ vs) (σ : L2.St) (H : Hp) (Q : VK)
    (h : tE G lo W (compD bx tg vs ds dc de) σ H Q) : L2.tLc (tI G lo W ds) (gOf X.K tg) (ttX G lo dc) (teX G lo de) vs σ H Q := by
  obtain ⟨ms, ρ, st, hl, S, E, q⟩ := h
  refine ⟨ms, ρ, st, hl, S, E, q.bind1 (rep := SrcOk G lo) fun s st1 ms1 H1 J e1 S1 r1 q1 => ?_⟩
  intro D hD
  cases s with
  | fix xs => exact lc_fix L.K hv (e1.le S S1 hl) S1 (E.ext e1) r1 hD q1
  | live i => exact lc_live L.K hv (e1.le S S1 hl) S1 (E.ext e1) r1 hD q1
  | liveE i => exact q1.elim
end
end Z

set_option maxHeartbeats 200000
set_option maxRecDepth 512
set_option maxHeartbeats 2000000
/-! Changes of things of the store; methods of lists, dicts, texts. -/
namespace Z
open PySem PySem.Spec PyProof.Rows
open L2 (V HO Hp SqL SqT Rd upd upd_same upd_ne ne_of ne_of_none Cx PE PT PS PSs PA PG PGs PI PW Inv VK TE TA TS TT TG TGs RelV Vals Dp DpAll)

section
variable {X : Cx} {G : Ctx} {Γ : Gam} {C : CC} {lo : Nat} {W : L2.WX}

/-! ### a thing of the store is changed -/
section
variable {ms : List Addr} {st : Sto} {H : Hp} {i : Nat} {a : Addr} {o o' : PO} {w : HO}
theorem alive_set {j : Nat} (h : alive (st.set i o') j) (al : alive st i) : alive st j := by
  by_cases e : i = j
  · subst e; exact al
  · obtain ⟨q, h1, h2⟩ := h
    rw [List.getElem?_set_ne e] at h1
    exact ⟨q, h1, h2⟩
theorem put_ne (S : SOk G ms st H) (al : alive st i) (ha : ms[i]? = some a) {b : Addr} (f : Free G.rsv ms st b) : b ≠ a := fun z => f.2 i al (by rw [z]; exact ha)
theorem put_tup (S : SOk G ms st H) (hi : st[i]? = some o) (no : o ≠ .dead) (ha : ms[i]? = some a) {b : Addr} {vs : List V} (h : H b = some (.tup vs)) : b ≠ a := fun z => by
  subst z
  have := S.obj i o b hi ha
  cases o with
  | dead => exact no rfl
  | lst xs => obtain ⟨ws, e, _⟩ := this; rw [h] at e; cases e
  | dct t kvs => cases t <;> (obtain ⟨ws, e, _⟩ := this; rw [h] at e; cases e)
  | inst c fs => obtain ⟨dx, ws, e, _⟩ := this; rw [h] at e; cases e
theorem put_carry (S : SOk G ms st H) (hi : st[i]? = some o) (no : o ≠ .dead) (ha : ms[i]? = some a) : Carry G G ms st H ms (st.set i o') (upd H a w) :=
  ⟨rfl, rfl, fun b u r f => by
    have ne := put_ne S ⟨o, hi, no⟩ ha f
    refine ⟨?_, f.1, fun j al e => f.2 j (alive_set al ⟨o, hi, no⟩) e⟩
    rcases r with r | ⟨q, r⟩
    · exact .inl ((upd_ne ne).trans r)
    · exact .inr ⟨q, (upd_ne ne).trans r⟩,
   fun b vs h => (upd_ne (put_tup S hi no ha h)).trans h, fun _ _ h => h⟩
theorem put_ext (S : SOk G ms st H) (hi : st[i]? = some o) (no : o ≠ .dead) (ha : ms[i]? = some a) (hlo : lo ≤ i) : Ext G.rsv lo ms st H ms (st.set i o') (upd H a w) where
  pre := List.prefix_refl _
  keep := fun b u r f => ((put_carry (o' := o') (w := w) S hi no ha).rd b u r f).1
  tup := fun b vs h => (upd_ne (put_tup S hi no ha h)).trans h
  dom := fun b h => by
    by_cases e : b = a
    · subst e; rw [upd_same]; simp
    · rw [upd_ne e]; exact h
  alv := fun j _ al => alive_set al ⟨o, hi, no⟩
  new := fun j b h e => by
    have := (List.getElem?_eq_some_iff.mp e).1
    omega
  low := fun j hj => by rw [List.getElem?_set_ne (by omega)]
  rsv := fun b hb _ => upd_ne fun z => by subst z; exact S.out i b ⟨o, hi, no⟩ ha hb
theorem SOk.put (S : SOk G ms st H) (hi : st[i]? = some o) (no : o ≠ .dead) (ha : ms[i]? = some a) (ho : ObjR G ms (st.set i o') (upd H a w) o' a) : SOk G ms (st.set i o') (upd H a w) := by
  have c := put_carry (o' := o') (w := w) S hi no ha
  have al0 : alive st i := ⟨o, hi, no⟩
  refine ⟨by rw [List.length_set]; exact S.len, fun j k b aj ak hj hk => S.inj j k b (alive_set aj al0) (alive_set ak al0) hj hk, fun j q b hj hb => ?_, fun j b aj hb => S.out j b (alive_set aj al0) hb, fun b hb => ?_⟩
  · by_cases e : i = j
    · subst e
      rw [List.getElem?_set_self (List.getElem?_eq_some_iff.mp hi).1] at hj
      cases hj
      rw [ha] at hb
      cases hb
      exact ho
    · rw [List.getElem?_set_ne e] at hj
      by_cases hq : q = .dead
      · subst hq; trivial
      · refine (S.obj j q b hj hb).carry c fun u h => (upd_ne fun z => ?_).trans h
        subst z
        exact e (S.inj i j b al0 ⟨q, hj, hq⟩ ha hb)
  · rw [upd_ne fun z => by subst z; exact S.out i b al0 ha hb]
    exact S.rsv b hb
end
theorem wr_lst {ms : List Addr} {st : Sto} {H : Hp} {i : Nat} {a : Addr} {ys zs : List PV} {vs : List V} {r : PV} {u : V} {Q : VK} {E : Nat → Hp → Prop} (S : SOk G ms st H) (hi : st[i]? = some (.lst ys)) (ha : ms[i]? = some a) (rz : RepL G ms st H zs vs) (rr : Rep G ms st H r u)
    (h : Res G (Rep G) lo ms st H (wr lo i (.lst zs) r st) Q E) : Q u (upd H a (.lst vs)) := by
  unfold wr at h
  split at h
  · rename_i hlo
    have c := put_carry (o' := .lst zs) (w := .lst vs) S hi (by simp) ha
    exact h ms _ u (put_ext S hi (by simp) ha hlo) (S.put hi (by simp) ha ⟨vs, upd_same, RepL.carry c _ _ rz⟩) (Rep.carry c _ _ rr)
  · exact h.elim

/-! ### methods -/
theorem notSuper_base {o : Expr} {n : Str} {env : PySem.Env} {w : Sem Value} (h : notSuper o = true) : attributeBase o n env w = w := by
  unfold attributeBase
  split
  · simp [notSuper] at h
  · rfl
theorem few_of {pos : Pos} {env : PySem.Env} {es : List Expr} (h : ∀ e ∈ es, isStar e = false) (hl : es.length < 20) : ((backTo pos (starEach es env)).all (fun x => !x.1) && (backToKw pos (keywordEach [] env)).all (fun x => x.1.isSome)
      && decide (es.length + ([] : List Keyword).length + (if ([] : List Keyword).isEmpty then 0 else 1) < 30)) = true := by
  have h1 : (backTo pos (starEach es env)).all (fun x => !x.1) = true := by
    have := star_any (pos := pos) (env := env) h
    rw [List.any_eq_false] at this
    exact List.all_eq_true.mpr fun x hx => by simpa using this x hx
  rw [h1]
  show (true && true && decide (es.length + 0 + 0 < 30)) = true
  simp
  omega
theorem lst_ty {ms : List Addr} {st : Sto} {H : Hp} {x : PV} {u : V} (S : SOk G ms st H) (r : Rep G ms st H x u) (h : (lstOf st x).isSome = true) : L2.tyV G.K "list" u H := by
  obtain ⟨xs, e⟩ := Option.isSome_iff_exists.mp h
  obtain ⟨a, vs, rfl, h1, _⟩ := lstOf_ok S r e
  exact .inl ⟨rfl, vs, .inl h1⟩

def MdF (G : Ctx) (lo : Nat) (f : PV → List PV → Sto → R PV) (r : V → List V → Hp → VK → Prop) : Prop := ∀ (ms : List Addr) (st : Sto) (H : Hp) (x : PV) (u : V) (xs : List PV) (vs : List V) (Q : VK) (E : Nat → Hp → Prop),
  lo ≤ st.length → SOk G ms st H → Rep G ms st H x u → RepL G ms st H xs vs → Res G (Rep G) lo ms st H (f x xs st) Q E → r u vs H Q

theorem t_bmL (L : Lk X G Γ C) {m : Bm} {T id : String} {name : Str} {r : V → List V → Hp → VK → Prop} {o e : Expr} {es : List Expr} {mo : ME} {da : Env → Sto → R (List PV)} {ap cp : Pos} (pa : PlainAttrs T) (slot : Slot T name id) (hty : typeOf (.builtin id) = pure (.type "method_descriptor"))
    (hm : L2.MtR X id r) (hf : MdF G lo (bmf m lo) r) (hT : ∀ ms st H x u, SOk G ms st H → Rep G ms st H x u → bmTy m st x = true → L2.tyV G.K T u H) (ho : PE X o (tE G lo W (Z.eval Γ lo mo))) (ha : PA X (e :: es) (tEs G lo W da))
    (hs : notSuper o = true) (hl : (ap.endLine == cp.line) = true) (hst : ∀ y ∈ e :: es, isStar y = false) (hlen : (e :: es).length < 20) :
    PE X (.Call (.Attribute o name ap) (e :: es) [] cp) (tE G lo W fun ρ st => (Z.eval Γ lo mo ρ st).bind fun x st1 => if bmTy m st1 x then (da ρ st1).bind fun xs st2 => bmf m lo x xs st2 else .bad) :=
  (L2.pe_bm pa slot hty hm ho ha (notSuper_base hs) (few_of hst hlen) hl (star_cons (hst e List.mem_cons_self)) (star_any fun y hy => hst y (List.mem_cons_of_mem _ hy))).weak fun σ H Q ⟨ms, ρ, st, hlo, S, E, q⟩ => by
    refine ⟨ms, ρ, st, hlo, S, E, q.bind1 (rep := Rep G) fun x st1 ms1 H1 u e1 S1 r1 q1 => ?_⟩
    split at q1
    · rename_i ht
      refine ⟨L.K ▸ hT ms1 st1 H1 x u S1 r1 ht, ms1, ρ, st1, e1.le S S1 hlo, S1, E.ext e1, q1.bind1 (rep := RepL G) fun xs st2 ms2 H2 us e2 S2 r2 q2 => ?_⟩
      exact hf ms2 st2 H2 x u xs us Q _ (e2.le S1 S2 (e1.le S S1 hlo)) S2 (Rep.ext e2 _ _ r1) r2 q2
    · exact q1.elim
theorem t_bm0 (L : Lk X G Γ C) {m : Bm} {T id : String} {name : Str} {r : V → List V → Hp → VK → Prop} {o : Expr} {mo : ME} {ap cp : Pos} (pa : PlainAttrs T) (slot : Slot T name id) (hty : typeOf (.builtin id) = pure (.type "method_descriptor"))
    (hm : L2.MtR X id r) (hf : MdF G lo (bmf m lo) r) (hT : ∀ ms st H x u, SOk G ms st H → Rep G ms st H x u → bmTy m st x = true → L2.tyV G.K T u H) (ho : PE X o (tE G lo W (Z.eval Γ lo mo)))
    (hs : notSuper o = true) (hl : (ap.endLine == cp.line) = true)  :
    PE X (.Call (.Attribute o name ap) [] [] cp) (tE G lo W fun ρ st => (Z.eval Γ lo mo ρ st).bind fun x st1 => if bmTy m st1 x then (Z.evals Γ lo .nil ρ st1).bind fun xs st2 => bmf m lo x xs st2 else .bad) :=
  (L2.pe_bm0 pa slot hty hm ho (notSuper_base hs) hl).weak fun σ H Q ⟨ms, ρ, st, hlo, S, E, q⟩ => by
    refine ⟨ms, ρ, st, hlo, S, E, q.bind1 (rep := Rep G) fun x st1 ms1 H1 u e1 S1 r1 q1 => ?_⟩
    split at q1
    · rename_i ht
      simp only [Z.evals, R.bind_ok] at q1
      exact ⟨L.K ▸ hT ms1 st1 H1 x u S1 r1 ht, hf ms1 st1 H1 x u [] [] Q _ (e1.le S S1 hlo) S1 r1 (by simp only [RepL]) q1⟩
    · exact q1.elim

theorem append_ok : MdF G lo (bmf .append lo) L2.rAppend := by
  intro ms st H x u xs vs Q E hlo S rx rs h
  simp only [bmf] at h
  unfold fAppend at h
  split at h <;> try (exact h.elim)
  obtain ⟨v, rfl, rv⟩ := rs.one
  simp only [Rep] at rx
  obtain ⟨a, rfl, ha⟩ := rx
  split at h
  · rename_i ys hi
    split at h
    · rename_i hz
      obtain ⟨ws, h1, h2⟩ := S.obj _ _ a hi ha
      refine ⟨a, ws, v, rfl, rfl, h1, by rw [RepL.length _ _ h2, ← line_eq]; exact hz, ?_⟩
      exact wr_lst S hi ha (RepL.append _ _ _ _ h2 (by simp only [RepL]; exact ⟨v, [], rfl, rv, rfl⟩)) (by simp only [Rep]) h
    · exact h.elim
  · exact h.elim
def rExtendR : V → List V → Hp → VK → Prop := fun x vs H Q => ∃ l b xs zs, x = .ref l ∧ vs = [.ref b] ∧ H l = some (.lst xs) ∧ Rd H b (.lst zs) ∧ xs.length + zs.length ≤ PySem.sizeLine ∧ Q .non (upd H l (.lst (xs ++ zs)))
open L2 in
theorem mt_extendR : L2.MtR X "list.extend" rExtendR := by
  intro pins s σ H x vs v us Q I rx rv h
  obtain ⟨l, b, xs, zs, rfl, rfl, hH, hB, hz, q⟩ := h
  cases rx
  obtain ⟨u, rfl, ru⟩ := rv.one
  cases ru
  obtain ⟨z, its, n, r, hl, e⟩ := I.lstM hH
  obtain ⟨z2, its2, n2, r2, hl2, e2⟩ := lstRd I hB
  have hsz : its.toArray.size + its2.toArray.size ≤ PySem.sizeLine := by rw [List.size_toArray, List.size_toArray]; omega
  have hlong : ¬ (!its.toArray.isEmpty && Builtin.List.listTooLong (its.toArray.size + its2.toArray.size)) = true := by
    rw [notLongL hsz, Bool.and_false]
    exact Bool.false_ne_true
  refine call_meets F.slot_list_extend ⟨_, e, rfl⟩ F.entry_list_extend (F.args_list_extend_2 _ _)
    (AutoSeq1.list_extend_list_list_0 l its.toArray n b its2.toArray n2 hlong (by rw [List.size_toArray]; omega) (by omega)) ⟨e, e2, ?_⟩
  refine ⟨.non, _, I.lset (its' := its ++ its2) hH e (by simp) (r.append r2) ?_, rfl, q⟩
  rw [List.length_append]
  omega
theorem extend_ok : MdF G lo (bmf .extend lo) rExtendR := by
  intro ms st H x u xs vs Q E hlo S rx rs h
  simp only [bmf] at h
  unfold fExtend at h
  split at h <;> try (exact h.elim)
  obtain ⟨v, rfl, rv⟩ := rs.one
  simp only [Rep] at rx
  obtain ⟨a, rfl, ha⟩ := rx
  split at h
  · rename_i ys hi
    split at h
    · rename_i zs hz'
      obtain ⟨b, us, rfl, hb, lb⟩ := lstOf_ok S rv hz'
      split at h
      · rename_i hz
        obtain ⟨ws, h1, h2⟩ := S.obj _ _ a hi ha
        refine ⟨a, b, ws, us, rfl, rfl, h1, hb, by rw [RepL.length _ _ h2, RepL.length _ _ lb, ← line_eq]; exact hz, ?_⟩
        exact wr_lst S hi ha (RepL.append _ _ _ _ h2 lb) (by simp only [Rep]) h
      · exact h.elim
    · exact h.elim
  · exact h.elim
theorem insert_ok : MdF G lo (bmf .insert lo) (fun x vs H Q => ∃ (l : Addr) (xs : List V) (i : Int) (y : V), x = .ref l ∧ vs = [.int i, y] ∧ H l = some (.lst xs) ∧ xs.length < PySem.sizeLine ∧ 0 ≤ i ∧ i < 2 ^ 63 ∧
    Q .non (upd H l (.lst (xs.take i.toNat ++ [y] ++ xs.drop i.toNat)))) := by
  intro ms st H x u xs vs Q E hlo S rx rs h
  simp only [bmf] at h
  unfold fInsert at h
  split at h <;> try (exact h.elim)
  obtain ⟨k', v, rfl, rk, rv⟩ := rs.two
  simp only [Rep] at rx rk
  subst rk
  obtain ⟨a, rfl, ha⟩ := rx
  split at h
  · rename_i ys hi
    split at h
    · rename_i hz
      obtain ⟨ws, h1, h2⟩ := S.obj _ _ a hi ha
      have hl := RepL.length _ _ h2
      refine ⟨a, ws, _, v, rfl, rfl, h1, by rw [hl, ← line_eq]; exact hz.2.2, hz.1, by have := hz.2.1; have := hz.2.2; have : (sizeLine : Nat) = 16777216 := rfl; omega, ?_⟩
      refine wr_lst S hi ha ?_ (by simp only [Rep]) h
      rw [List.append_assoc]
      refine RepL.append _ _ _ _ (RepL.take _ _ _ h2) ?_
      simp only [RepL, List.singleton_append, List.cons_append]
      exact ⟨v, _, rfl, rv, RepL.drop _ _ _ h2⟩
    · exact h.elim
  · exact h.elim
theorem RepL.dropLast {ms : List Addr} {st : Sto} {H : Hp} {xs : List PV} {vs : List V} (h : RepL G ms st H xs vs) : RepL G ms st H xs.dropLast vs.dropLast := by
  rw [List.dropLast_eq_take, List.dropLast_eq_take, RepL.length _ _ h]
  exact RepL.take _ _ _ h
theorem pop_ok : MdF G lo (bmf .pop lo) L2.rPop := by
  intro ms st H x u xs vs Q E hlo S rx rs h
  simp only [bmf] at h
  unfold fPop at h
  split at h <;> try (exact h.elim)
  simp only [RepL] at rs
  subst rs
  simp only [Rep] at rx
  obtain ⟨a, rfl, ha⟩ := rx
  split at h
  · rename_i ys hi
    split at h
    · rename_i y hy
      obtain ⟨ws, h1, h2⟩ := S.obj _ _ a hi ha
      rw [List.getLast?_eq_getElem?] at hy
      obtain ⟨v, hv, rv⟩ := RepL.get _ _ _ y h2 hy
      refine ⟨a, ws, v, rfl, rfl, h1, by rw [RepL.length _ _ h2]; exact hv, ?_⟩
      exact wr_lst S hi ha h2.dropLast rv h
    · exact h.elim
  · exact h.elim

/-! ### d.get -/
theorem dct_isD {ms : List Addr} {st : Sto} {H : Hp} {x : PV} {u : V} (S : SOk G ms st H) (r : Rep G ms st H x u) (h : (dctOf st x).isSome = true) : ∃ a, u = .ref a ∧ L2.IsD H a := by
  obtain ⟨⟨t, kvs⟩, e⟩ := Option.isSome_iff_exists.mp h
  obtain ⟨a, rfl, D⟩ := dctOf_ok S r e
  cases t with
  | false => obtain ⟨l, h1, _⟩ := D; exact ⟨a, rfl, .inl ⟨l, h1⟩⟩
  | true => obtain ⟨l, h1, _⟩ := D; exact ⟨a, rfl, .inr ⟨l, h1⟩⟩
theorem RelP.getD {ms : List Addr} {st : Sto} {H : Hp} {o : Option PV} {v : Option V} {d : PV} {u : V} (h : RelP G ms st H o v) (r : Rep G ms st H d u) : Rep G ms st H (o.getD d) (v.getD u) := by
  cases o <;> cases v <;> simp_all [RelP]
theorem t_get (L : Lk X G Γ C) {o e : Expr} {mo me : ME} {ap cp : Pos} (ho : PE X o (tE G lo W (Z.eval Γ lo mo))) (he : PE X e (tE G lo W (Z.eval Γ lo me)))
    (hs : notSuper o = true) (hl : (ap.endLine == cp.line) = true) (hst : isStar e = false) :
    PE X (.Call (.Attribute o "get" ap) [e] [] cp) (tE G lo W (Z.eval Γ lo (.bm .get mo (.cons me .nil)))) := by
  refine (L2.pe_dget1 (by have := L.hu; omega) ho he ⟨notSuper_base hs, few_of (by simpa using hst) (by simp), hl, by rw [star_cons hst] <;> rfl⟩).weak fun σ H Q ⟨ms, ρ, st, hlo, S, E, q⟩ => ?_
  simp only [Z.eval] at q
  refine ⟨ms, ρ, st, hlo, S, E, q.bind1 (rep := Rep G) fun x st1 ms1 H1 u e1 S1 r1 q1 => ?_⟩
  split at q1
  · rename_i ht
    obtain ⟨a, rfl, hd⟩ := dct_isD S1 r1 ht
    refine ⟨a, rfl, hd, ms1, ρ, st1, e1.le S S1 hlo, S1, E.ext e1, ?_⟩
    simp only [Z.evals] at q1
    have q1' : Res G (Rep G) lo ms1 st1 H1 ((Z.eval Γ lo me ρ st1).bind fun y st2 => bmf .get lo x [y] st2) Q (fun c H' => W (.ref (G.ca c)) none σ H') := by
      cases hq : Z.eval Γ lo me ρ st1 with
      | ok y st2 => rw [hq] at q1; exact q1
      | exc c st2 => rw [hq] at q1; exact q1
      | bad => rw [hq] at q1; exact q1
    refine q1'.bind1 (rep := Rep G) fun y st2 ms2 H2 w e2 S2 r2 q2 => ?_
    simp only [bmf] at q2
    unfold fGet at q2
    simp only at q2
    split at q2
    · rename_i kvs hk
      obtain ⟨t, kvs⟩ := kvs
      split at q2
      · rename_i k hk'
        split at q2
        · rename_i hkt
          obtain ⟨a', ea, D⟩ := dctOf_ok S2 (Rep.ext e2 _ _ r1) hk
          cases ea
          obtain ⟨ov, g, ro⟩ := dget_ok S2 D r2 hk' hkt
          exact ⟨ov, g, q2.done S2 (ro.getD (by simp only [Rep]))⟩
        · exact q2.elim
      · exact q2.elim
    · exact q2.elim
  · exact q1.elim
theorem t_get2 (L : Lk X G Γ C) {o e f : Expr} {mo me mf : ME} {ap cp : Pos} (ho : PE X o (tE G lo W (Z.eval Γ lo mo))) (he : PE X e (tE G lo W (Z.eval Γ lo me))) (hf : PE X f (tE G lo W (Z.eval Γ lo mf)))
    (hs : notSuper o = true) (hl : (ap.endLine == cp.line) = true) (hst : isStar e = false) (hst' : isStar f = false) :
    PE X (.Call (.Attribute o "get" ap) [e, f] [] cp) (tE G lo W (Z.eval Γ lo (.bm .get2 mo (.cons me (.cons mf .nil))))) := by
  refine (L2.pe_dget2 (by have := L.hu; omega) ho he hf ⟨notSuper_base hs, few_of (by simp [hst, hst']) (by simp), hl, by rw [star_cons hst, star_cons hst'] <;> rfl⟩).weak fun σ H Q ⟨ms, ρ, st, hlo, S, E, q⟩ => ?_
  simp only [Z.eval] at q
  refine ⟨ms, ρ, st, hlo, S, E, q.bind1 (rep := Rep G) fun x st1 ms1 H1 u e1 S1 r1 q1 => ?_⟩
  split at q1
  · rename_i ht
    obtain ⟨a, rfl, hd⟩ := dct_isD S1 r1 ht
    refine ⟨a, rfl, hd, ms1, ρ, st1, e1.le S S1 hlo, S1, E.ext e1, ?_⟩
    simp only [Z.evals] at q1
    have q1' : Res G (Rep G) lo ms1 st1 H1 ((Z.eval Γ lo me ρ st1).bind fun y st2 => (Z.eval Γ lo mf ρ st2).bind fun z st3 => bmf .get2 lo x [y, z] st3) Q (fun c H' => W (.ref (G.ca c)) none σ H') := by
      cases hq : Z.eval Γ lo me ρ st1 with
      | ok y st2 =>
        rw [hq] at q1
        simp only [R.bind_ok] at q1 ⊢
        cases hq2 : Z.eval Γ lo mf ρ st2 with
        | ok z st3 => rw [hq2] at q1; exact q1
        | exc c st3 => rw [hq2] at q1; exact q1
        | bad => rw [hq2] at q1; exact q1
      | exc c st2 => rw [hq] at q1; exact q1
      | bad => rw [hq] at q1; exact q1
    refine q1'.bind1 (rep := Rep G) fun y st2 ms2 H2 w e2 S2 r2 q2 => ?_
    refine ⟨ms2, ρ, st2, e2.le S1 S2 (e1.le S S1 hlo), S2, (E.ext e1).ext e2, q2.bind1 (rep := Rep G) fun z st3 ms3 H3 w3 e3 S3 r3 q3 => ?_⟩
    simp only [bmf] at q3
    unfold fGet2 at q3
    simp only at q3
    split at q3
    · rename_i kvs hk
      obtain ⟨t, kvs⟩ := kvs
      split at q3
      · rename_i k hk'
        split at q3
        · rename_i hkt
          obtain ⟨a', ea, D⟩ := dctOf_ok S3 (Rep.ext e3 _ _ (Rep.ext e2 _ _ r1)) hk
          cases ea
          obtain ⟨ov, g, ro⟩ := dget_ok S3 D (Rep.ext e3 _ _ r2) hk' hkt
          exact ⟨ov, g, q3.done S3 (ro.getD r3)⟩
        · exact q3.elim
      · exact q3.elim
    · exact q3.elim
  · exact q1.elim

/-! ### upper -/
theorem upper_one : ∀ c : Nat, 97 ≤ c → c ≤ 122 → Unicode.upperOf c = [c - 32] := by
  have h : ∀ c ∈ List.range' 97 26, Unicode.upperOf c = [c - 32] := by decide +kernel
  intro c h1 h2
  exact h c (List.mem_range'.mpr ⟨c - 97, by omega, by omega⟩)

theorem upper_char {c : Char} (h1 : 97 ≤ c.toNat) (h2 : c.toNat ≤ 122) : (Char.toUpper c).toNat = c.toNat - 32 := by
  have hc : c = Char.ofNat c.toNat := (Char.ofNat_toNat c).symm
  have h : ∀ n ∈ List.range' 97 26, (Char.toUpper (Char.ofNat n)).toNat = n - 32 := by decide +kernel
  rw [hc, h c.toNat (List.mem_range'.mpr ⟨c.toNat - 97, by omega, by omega⟩), ← hc]
theorem upper_toS (s : Tx) (h : ∀ c ∈ s, 97 ≤ c.toNat ∧ c.toNat ≤ 122) : Txt.upper (toS s) = toS (s.map Char.toUpper) := by
  apply Str.ext'
  show placed (toS s) _ = _
  unfold placed toS
  apply Array.toList_inj.mp
  simp only [List.mapIdx_toArray, List.map_map]
  have : ∀ l : Tx, (∀ c ∈ l, 97 ≤ c.toNat ∧ c.toNat ≤ 122) → (l.map Char.toNat).map (fun c => (Unicode.upperOf c).toArray) = l.map fun c => #[(Char.toUpper c).toNat] := by
    intro l hl
    rw [List.map_map]
    refine List.map_congr_left fun c hc => ?_
    have := hl c hc
    simp only [Function.comp]
    rw [upper_one _ this.1 this.2, upper_char this.1 this.2]
  have e2 : (List.mapIdx (fun i c => (Unicode.upperOf c).toArray) (List.map Char.toNat s)) = (s.map Char.toNat).map (fun c => (Unicode.upperOf c).toArray) := by
    rw [List.mapIdx_eq_iff]
    intro i
    simp
  rw [e2, this s h]
  simp [List.map_map, Function.comp_def]
  clear this e2 h
  induction s with
  | nil => rfl
  | cons a r ih => simp [ih]
theorem upper_ok : MdF G lo (bmf .upper lo) (fun x xs H Q => ∃ a, x = .str a ∧ xs = [] ∧ a.length ≤ 5592405 ∧ Q (.str (Txt.upper a)) H) := by
  intro ms st H x u xs vs Q E hlo S rx rs h
  simp only [bmf] at h
  unfold fUpper at h
  split at h <;> try (exact h.elim)
  simp only [RepL] at rs
  subst rs
  simp only [Rep] at rx
  subst rx
  split at h
  · rename_i s hz
    refine ⟨_, rfl, rfl, by rw [toS_len]; omega, ?_⟩
    rw [upper_toS s fun c hc => by have := List.all_eq_true.mp hz.1 c hc; simpa using this]
    exact h.done S (by simp only [Rep])
  · exact h.elim
end
end Z

set_option maxHeartbeats 200000
set_option maxRecDepth 512
set_option maxHeartbeats 4000000
/-! Expressions as a whole. -/
namespace Z
open PySem PySem.Spec PyProof.Rows
open L2 (V HO Hp SqL SqT Rd upd upd_same upd_ne ne_of ne_of_none Cx PE PT PS PSs PA PG PGs PI PW Inv VK TE TA TS TT TG TGs RelV Vals Dp DpAll)

theorem chk_star {C : CC} {m : ME} {e : Expr} (h : chk C m e = true) : isStar e = false := by
  cases e with
  | Starred a p =>
    cases m with
    | const d => cases d <;> simp [chk] at h
    | _ => simp [chk] at h
  | _ => rfl
theorem chks_star {C : CC} : ∀ {m : MEs} {es : List Expr}, chks C m es = true → ∀ y ∈ es, isStar y = false
  | .nil, [], h, y, hy => by simp at hy
  | .nil, _ :: _, h, y, hy => by simp [chks] at h
  | .cons a r, [], h, y, hy => by simp at hy
  | .cons a r, e :: es, h, y, hy => by
    simp only [chks, Bool.and_eq_true] at h
    rcases List.mem_cons.mp hy with rfl | hy
    · exact chk_star h.1
    · exact chks_star h.2 y hy
theorem noMark {op : CmpOp} {e : Expr} (h : isSet e = false) : behindInMarks op e = false := by
  cases e <;> first | rfl | (simp [isSet] at h)
def opK : COp → CmpOp
  | .eq => .Eq | .ne => .NotEq | .lt => .Lt | .le => .LtE | .gt => .Gt | .ge => .GtE | .isIn => .In | .notIn => .NotIn | .is => .Is | .isNot => .IsNot
theorem opC_eq {o : COp} {p : CmpOp} (h : opC o p = true) : p = opK o := by
  cases o <;> cases p <;> first | rfl | (simp [opC] at h)

section
variable {Γ : Gam}

/-- a comparison's rule, by its operator -/
theorem cmp_rule {X : Cx} {G : Ctx} {C : CC} (L : Lk X G Γ C) {o : COp} {p : CmpOp} (h : opC o p = true) : ∃ r, L2.OpR X (compareOp p) r ∧ CmF G (cmpV o) r := by
  have hu := L.hu
  have e := opC_eq h
  subst e
  cases o with
  | eq => exact ⟨_, L2.op_eqD (by omega), L.K ▸ eq_okc⟩
  | ne => exact ⟨_, L2.op_neD (by omega), L.K ▸ ne_okc⟩
  | lt => exact ⟨_, L2.op_lt, lt_okc⟩
  | le => exact ⟨_, L2.op_le, le_okc⟩
  | gt => exact ⟨_, L2.op_gt, gt_okc⟩
  | ge => exact ⟨_, L2.op_ge, ge_okc⟩
  | isIn => exact ⟨_, op_in (by omega), L.K ▸ in_okc⟩
  | notIn => exact ⟨_, op_notIn (by omega), L.K ▸ notIn_okc⟩
  | is => exact ⟨_, op_is, is_okc⟩
  | isNot => exact ⟨_, op_isNot, isNot_okc⟩

/-- an expression and the same as a test -/
structure Both (X : Cx) (ex : Expr) (tt : TE) : Prop where
  e : PE X ex tt
  t : PT X ex (tB tt)
theorem Both.val {X : Cx} {e : Expr} {t : TE} (h : PE X e t) (he : ∀ whole, isTrue e X.env whole = (do let v ← whole; standAt e.pos; holding [v] (truthy v)) := by intro _; rfl) : Both X e t := ⟨h, L2.pt_val h he⟩
theorem pt_ifExp {X : Cx} {c a b : Expr} {pos : Pos} {tc ta tb : TT} (hc : PT X c tc) (ha : PT X a ta) (hb : PT X b tb) : PT X (.IfExp c a b pos) (fun σ H Q => tc σ H fun d H1 => if d = true then ta σ H1 Q else tb σ H1 Q) := by
  refine ⟨fun pins s σ H Q I h => ?_⟩
  show wpAny (model X.prog X.w) X.A (do if ← isTrue c X.env (PySem.eval c X.env) then isTrue a X.env (PySem.eval a X.env) else isTrue b X.env (PySem.eval b X.env)) _ _ s
  refine wpAny_bind (L2.thn (hc.run pins s σ H _ I h) fun d s1 ⟨H1, I1, q1⟩ => ?_)
  cases d with
  | true => exact ha.run pins s1 σ H1 Q I1 q1
  | false => exact hb.run pins s1 σ H1 Q I1 q1

theorem bm_get_chk {n : Str} {s : String} (h : n = Str.ofString s) : n = Str.ofString s := h

theorem eval_comp {Γ : Gam} {lo : Nat} {bx : Bool} {tg : Tg} {vs : List Nat} {it : MI} {cond : Option ME} {elt : ME} {ρ : Env} {st : Sto} : Z.eval Γ lo (.comp bx tg vs it cond elt) ρ st = compD bx tg vs (source Γ lo it) (cond.map (Z.eval Γ lo)) (Z.eval Γ lo elt) ρ st := by
  rw [Z.eval.eq_def]
  cases cond <;> rfl

theorem bmAr_le {m : Bm} {n : Nat} (h : bmAr m n = true) : n ≤ 2 := by
  unfold bmAr at h
  split at h <;> first | omega | (exact absurd h (by simp))

mutual
theorem sndE (m : ME) (e : Expr) (X : Cx) (G : Ctx) (C : CC) (lo : Nat) (W : L2.WX) (L : Lk X G Γ C) (tk : L2.Takes X W) (h : chk C m e = true) : Both X e (tE G lo W (Z.eval Γ lo m)) := by
  match m with
  | .const d =>
    cases e with
    | Constant c j pos =>
      cases d with
      | int i =>
        cases c with
        | int k => simp only [chk, decide_eq_true_eq] at h; subst h; exact .val (t_const L2.pe_int fun _ _ _ => by simp only [Rep])
        | _ => simp [chk] at h
      | str s =>
        cases c with
        | str k => simp only [chk, decide_eq_true_eq] at h; subst h; exact .val (t_const L2.pe_str fun _ _ _ => by simp only [Rep])
        | _ => simp [chk] at h
      | bool s =>
        cases c with
        | bool k => simp only [chk, beq_iff_eq] at h; subst h; exact .val (t_const L2.pe_bl fun _ _ _ => by simp only [Rep])
        | _ => simp [chk] at h
      | none =>
        cases c with
        | none => exact .val (t_const L2.pe_non fun _ _ _ => by simp only [Rep])
        | _ => simp [chk] at h
      | _ => simp [chk] at h
    | _ => cases d <;> simp [chk] at h
  | .var i =>
    cases e with
    | Name x pos =>
      simp only [chk, Bool.and_eq_true] at h
      have hn := nameAt_d h.1
      exact .val (t_var (L2.pe_var (by rw [L.N]; exact hn.1) (L.vis h.2) (sane_d hn.2).1 (sane_d hn.2).2.1))
    | _ => simp [chk] at h
  | .glob n d =>
    cases e with
    | Name x pos =>
      simp only [chk, Bool.and_eq_true, decide_eq_true_eq] at h
      obtain ⟨⟨⟨rfl, hs⟩, hg⟩, hd⟩ := h
      split at hd
      · rename_i i j hgl
        obtain ⟨u, v, h1, h2, h3⟩ := L.gl n _ hgl
        have : i = j := of_decide_eq_true hd
        subst this
        simp only at h3
        subst h3
        refine .val ((L2.pe_glob (L.glo hg) h1 h2 (sane_d hs).1).weak fun σ H Q ⟨ms, ρ, st, hl, S, E, q⟩ => ?_)
        simp only [Z.eval] at q
        exact q.done S (by simp only [Rep])
      · rename_i i j hgl
        obtain ⟨u, v, h1, h2, h3⟩ := L.gl n _ hgl
        have : i = j := of_decide_eq_true hd
        subst this
        simp only at h3
        subst h3
        refine .val ((L2.pe_glob (L.glo hg) h1 h2 (sane_d hs).1).weak fun σ H Q ⟨ms, ρ, st, hl, S, E, q⟩ => ?_)
        simp only [Z.eval] at q
        exact q.done S (by simp only [Rep])
      · cases hd
    | _ => simp [chk] at h
  | .bin op bx a b =>
    cases e with
    | BinOp l o r pos =>
      simp only [chk, Bool.and_eq_true] at h
      have ha := (sndE a l X G C lo W L tk h.1.2).e
      have hb := (sndE b r X G C lo W L tk h.2).e
      have ho := h.1.1
      refine .val ?_
      cases op with
      | add => cases o <;> first | (simp [opB] at ho; done) | exact t_bin op_add (L.K ▸ add_ok) ha hb
      | sub => cases o <;> first | (simp [opB] at ho; done) | exact t_bin L2.op_sub sub_ok ha hb
      | mul => cases o <;> first | (simp [opB] at ho; done) | exact t_bin op_mul (L.K ▸ mul_ok) ha hb
      | mod => cases o <;> first | (simp [opB] at ho; done) | exact t_bin L2.op_mod mod_ok ha hb
      | fdiv => cases o <;> first | (simp [opB] at ho; done) | exact t_bin L2.op_fdiv div_ok ha hb
      | pow => cases o <;> first | (simp [opB] at ho; done) | exact t_bin L2.op_pow pow_ok ha hb
    | _ => simp [chk] at h
  | .neg a =>
    cases e with
    | UnaryOp o x pos =>
      cases o <;> first | (simp [chk] at h; done) | skip
      simp only [chk] at h
      exact .val (t_neg (sndE a x X G C lo W L tk h).e)
    | _ => simp [chk] at h
  | .nt a =>
    cases e with
    | UnaryOp o x pos =>
      cases o <;> first | (simp [chk] at h; done) | skip
      simp only [chk] at h
      have ha := sndE a x X G C lo W L tk h
      exact ⟨t_not ha.e, t_notT ha.t⟩
    | _ => simp [chk] at h
  | .and a b =>
    cases e with
    | BoolOp o es pos =>
      cases o with
      | Or => simp [chk] at h
      | And =>
        match es, h with
        | [], h => simp [chk] at h
        | [_], h => simp [chk] at h
        | [x, y], h =>
          simp only [chk, Bool.and_eq_true] at h
          have ha := sndE a x X G C lo W L tk h.1
          have hb := sndE b y X G C lo W L tk h.2
          exact ⟨t_and ha.e (L2.pe_one hb.e), (t_andT ha.t (L2.pw_and1 hb.t)).pt⟩
        | x :: y :: z :: r, h =>
          simp only [chk, Bool.and_eq_true] at h
          have ha := sndE a x X G C lo W L tk h.1
          have hb := sndE b (.BoolOp .And (y :: z :: r) pos) X G C lo W L tk h.2
          exact ⟨t_and ha.e hb.e, (t_andT ha.t ⟨fun wh => hb.t.run⟩).pt⟩
    | _ => simp [chk] at h
  | .or a b =>
    cases e with
    | BoolOp o es pos =>
      cases o with
      | And => simp [chk] at h
      | Or =>
        match es, h with
        | [], h => simp [chk] at h
        | [_], h => simp [chk] at h
        | [x, y], h =>
          simp only [chk, Bool.and_eq_true] at h
          have ha := sndE a x X G C lo W L tk h.1
          have hb := sndE b y X G C lo W L tk h.2
          exact ⟨t_or ha.e (L2.pe_one hb.e), (t_orT ha.t (L2.pw_or1 hb.t)).pt⟩
        | x :: y :: z :: r, h =>
          simp only [chk, Bool.and_eq_true] at h
          have ha := sndE a x X G C lo W L tk h.1
          have hb := sndE b (.BoolOp .Or (y :: z :: r) pos) X G C lo W L tk h.2
          exact ⟨t_or ha.e hb.e, (t_orT ha.t ⟨fun wh => hb.t.run⟩).pt⟩
    | _ => simp [chk] at h
  | .cmp op a b =>
    cases e with
    | Compare l os rs pos =>
      match os, rs, h with
      | [o], [r], h =>
        simp only [chk, Bool.and_eq_true, Bool.not_eq_true'] at h
        have ha := (sndE a l X G C lo W L tk h.1.1.2).e
        have hb := (sndE b r X G C lo W L tk h.1.2).e
        obtain ⟨rr, h1, h2⟩ := cmp_rule L h.1.1.1
        exact ⟨t_cmp h1 h2 (noMark h.2) ha hb, t_cmpT h1 h2 (noMark h.2) ha hb⟩
      | [], _, h => simp [chk] at h
      | _ :: _ :: _, _, h => simp [chk] at h
      | [_], [], h => simp [chk] at h
      | [_], _ :: _ :: _, h => simp [chk] at h
    | _ => simp [chk] at h
  | .chain op op' a b c =>
    cases e with
    | Compare l os rs pos =>
      match os, rs, h with
      | [o, o'], [r, r'], h =>
        simp only [chk, Bool.and_eq_true, Bool.not_eq_true'] at h
        obtain ⟨⟨⟨⟨⟨⟨h1, h2⟩, h3⟩, h4⟩, h5⟩, h6⟩, h7⟩ := h
        have ha := (sndE a l X G C lo W L tk h3).e
        have hb := (sndE b r X G C lo W L tk h4).e
        have hc := (sndE c r' X G C lo W L tk h5).e
        obtain ⟨rr, g1, g2⟩ := cmp_rule L h1
        obtain ⟨rr', g3, g4⟩ := cmp_rule L h2
        have hm : lastMarks [o, o'] [r, r'] = false := noMark h7
        exact ⟨(L2.pe_chain g1 g3 ha hb hc hm).weak fun σ H Q q => chain_asks g2 g4 σ H Q q, (L2.pt_chain g1 g3 ha hb hc hm).weak fun σ H Q q => chain_asks g2 g4 σ H _ q⟩
      | [], _, h => simp [chk] at h
      | [_], _, h => simp [chk] at h
      | _ :: _ :: _ :: _, _, h => simp [chk] at h
      | [_, _], [], h => simp [chk] at h
      | [_, _], [_], h => simp [chk] at h
      | [_, _], _ :: _ :: _ :: _, h => simp [chk] at h
    | _ => simp [chk] at h
  | .ite c a b =>
    cases e with
    | IfExp t x y pos =>
      simp only [chk, Bool.and_eq_true] at h
      have hc := sndE c t X G C lo W L tk h.1.1
      have ha := sndE a x X G C lo W L tk h.1.2
      have hb := sndE b y X G C lo W L tk h.2
      refine ⟨t_ite hc.t ha.e hb.e, (pt_ifExp hc.t ha.t hb.t).weak fun σ H Q ⟨ms, ρ, st, hl, S, E, q⟩ => ?_⟩
      simp only [Z.eval] at q
      refine ⟨ms, ρ, st, hl, S, E, q.bind1 (rep := Rep G) fun x st1 ms1 H1 u e1 S1 r1 q1 => ?_⟩
      split at q1
      · refine ⟨true, rep_bool r1, L2.iteT ?_⟩
        exact ⟨ms1, ρ, st1, e1.le S S1 hl, S1, E.ext e1, q1⟩
      · refine ⟨false, rep_bool r1, L2.iteF ?_⟩
        exact ⟨ms1, ρ, st1, e1.le S S1 hl, S1, E.ext e1, q1⟩
      · exact q1.elim
    | _ => simp [chk] at h
  | .tup es =>
    cases e with
    | Tuple xs k pos => simp only [chk] at h; exact .val (t_tup (sndEs es xs X G C lo W L tk h))
    | _ => simp [chk] at h
  | .lst bx es =>
    cases e with
    | List xs pos => simp only [chk] at h; exact .val (t_lst (sndEs es xs X G C lo W L tk h))
    | _ => simp [chk] at h
  | .dict0 t =>
    cases e with
    | Dict ks vs pos =>
      match ks, vs, h with
      | [], [], h => exact .val t_dict0
      | _ :: _, _, h => simp [chk] at h
      | [], _ :: _, h => simp [chk] at h
    | _ => simp [chk] at h
  | .call f es =>
    cases e with
    | Call fe as ks pos =>
      cases fe with
      | Name x p =>
        cases as with
        | nil => simp [chk] at h
        | cons a r =>
          cases ks with
          | cons _ _ => simp [chk] at h
          | nil =>
            simp only [chk, Bool.and_eq_true] at h
            obtain ⟨⟨⟨h1, h2⟩, h3⟩, h4⟩ := h
            split at h3
            · rename_i n hn
              exact .val (t_call L tk hn (of_decide_eq_true h3) h1 h2 (sndEs es (a :: r) X G C lo W L tk h4) (chks_star h4))
            · cases h3
      | _ => simp [chk] at h
    | _ => simp [chk] at h
  | .make c es => cases e <;> simp [chk] at h
  | .meth o m' es => cases e <;> simp [chk] at h
  | .attr o f => cases e <;> simp [chk] at h
  | .bi b bx es =>
    cases e with
    | Call fe as ks pos =>
      cases fe with
      | Name x p =>
        cases as with
        | nil => simp [chk] at h
        | cons a r =>
          cases ks with
          | cons _ _ => simp [chk] at h
          | nil =>
            unfold chk at h
            simp only [Bool.and_eq_true, decide_eq_true_eq] at h
            obtain ⟨⟨⟨h1, h2⟩, h3⟩, h4⟩ := h
            have gen : plainBi b = true → chks C es (a :: r) = true → Both X (.Call (.Name x p) (a :: r) [] pos) (tE G lo W (Z.eval Γ lo (.bi b bx es))) := fun hp h4 => .val (t_bi L b bx hp h3 h1 h2 (sndEs es (a :: r) X G C lo W L tk h4) (chks_star h4))
            cases b with
            | sortedSet =>
              dsimp only at h4
              split at h4
              · rename_i y p2 e2 pos2
                simp only [Bool.and_eq_true, decide_eq_true_eq] at h4
                obtain ⟨⟨⟨g1, g2⟩, g3⟩, g4⟩ := h4
                exact .val (t_sortedSet L h3 h1 h2 g3 g1 g2 (sndEs es [e2] X G C lo W L tk g4) (chks_star g4))
              · cases h4
            | lenSet =>
              dsimp only at h4
              split at h4
              · rename_i y p2 e2 pos2
                simp only [Bool.and_eq_true, decide_eq_true_eq] at h4
                obtain ⟨⟨⟨g1, g2⟩, g3⟩, g4⟩ := h4
                exact .val (t_lenSet L h3 h1 h2 g3 g1 g2 (sndEs es [e2] X G C lo W L tk g4) (chks_star g4))
              · cases h4
            | sortedItems =>
              dsimp only at h4
              cases es with
              | nil => cases h4
              | cons m es' =>
                cases es' with
                | cons _ _ => cases h4
                | nil =>
                  dsimp only at h4
                  split at h4
                  · rename_i e2 n ap cp
                    simp only [Bool.and_eq_true, decide_eq_true_eq] at h4
                    obtain ⟨⟨⟨g1, g2⟩, g3⟩, g4⟩ := h4
                    exact .val (t_sortedItems L h3 h1 h2 g2 g1 g3 (sndE m e2 X G C lo W L tk g4).e (notSuper_base g1))
                  · cases h4
            | sortedBy => cases h4
            | len => exact gen rfl h4
            | listOf => exact gen rfl h4
            | tupleOf => exact gen rfl h4
            | sum => exact gen rfl h4
            | all => exact gen rfl h4
            | max1 => exact gen rfl h4
            | min1 => exact gen rfl h4
            | max2 => exact gen rfl h4
            | min2 => exact gen rfl h4
            | abs => exact gen rfl h4
            | int => exact gen rfl h4
            | str => exact gen rfl h4
            | dictOf => exact gen rfl h4
            | sorted => exact gen rfl h4
      | _ => simp [chk] at h
    | _ => simp [chk] at h
  | .isinst a t =>
    cases e with
    | Call fe as ks pos =>
      cases fe with
      | Name x p =>
        cases as with
        | nil => simp [chk] at h
        | cons y r =>
          cases r with
          | nil => simp [chk] at h
          | cons z r =>
            cases r with
            | cons _ _ => simp [chk] at h
            | nil =>
              cases ks with
              | cons _ _ => cases z <;> simp [chk] at h
              | nil =>
                cases z with
                | Name z p2 =>
                  simp only [chk, Bool.and_eq_true, decide_eq_true_eq] at h
                  obtain ⟨⟨⟨⟨⟨⟨⟨h1, h2⟩, h3⟩, h4⟩, h5⟩, h6⟩, h7⟩, h8⟩ := h
                  exact .val (t_isinst L h5 h1 h2 h6 h3 h4 h7 (sndE a y X G C lo W L tk h8).e (chk_star h8))
                | _ => simp [chk] at h
      | _ => simp [chk] at h
    | _ => simp [chk] at h
  | .bm m' o es =>
    cases e with
    | Call fe as ks cp =>
      cases fe with
      | Attribute ob n ap =>
        cases ks with
        | cons _ _ => simp [chk] at h
        | nil =>
          simp only [chk, Bool.and_eq_true, decide_eq_true_eq] at h
          obtain ⟨⟨⟨⟨⟨h1, h2⟩, h3⟩, h4⟩, h5⟩, h6⟩ := h
          have ho := (sndE o ob X G C lo W L tk h5).e
          have hst := chks_star h6
          subst h2
          have lstT : ∀ (ms : List Addr) (st : Sto) (H : Hp) (x : PV) (u : V), SOk G ms st H → Rep G ms st H x u → bmTy m' st x = true → (m' = .append ∨ m' = .extend ∨ m' = .insert ∨ m' = .pop) → L2.tyV G.K "list" u H := fun ms st H x u S r hb hm => by
            refine lst_ty S r ?_
            rcases hm with rfl | rfl | rfl | rfl <;> (cases x <;> simp [bmTy] at hb ⊢ <;> exact hb)
          have hes := sndEs es as X G C lo W L tk h6
          cases as with
          | nil =>
            cases es with
            | cons _ _ => simp [chks] at h6
            | nil =>
              cases m' with
              | pop => exact .val (t_bm0 L PySem.F.plainAttrs_list PySem.F.slot_list_pop PySem.F.type_list_pop L2.mt_pop pop_ok (fun ms st H x u S r hb => lstT ms st H x u S r hb (by simp)) ho h1 h3)
              | upper => exact .val (t_bm0 L PySem.F.plainAttrs_str PySem.F.slot_str_upper PySem.F.type_str_upper L2.mt_upper upper_ok (fun ms st H x u S r hb => by
                  cases x <;> simp [bmTy] at hb
                  simp only [Rep] at r
                  subst r
                  rfl) ho h1 h3)
              | _ => simp [bmAr] at h4
          | cons a r =>
            have h20 : (a :: r).length < 20 := by
              have : (a :: r).length ≤ 2 := by
                exact bmAr_le h4
              omega
            cases m' with
            | append => exact .val (t_bmL L PySem.F.plainAttrs_list PySem.F.slot_list_append PySem.F.type_list_append L2.mt_append append_ok (fun ms st H x u S r hb => lstT ms st H x u S r hb (by simp)) ho hes h1 h3 hst h20)
            | extend => exact .val (t_bmL L PySem.F.plainAttrs_list PySem.F.slot_list_extend PySem.F.type_list_extend mt_extendR extend_ok (fun ms st H x u S r hb => lstT ms st H x u S r hb (by simp)) ho hes h1 h3 hst h20)
            | insert => exact .val (t_bmL L PySem.F.plainAttrs_list PySem.F.slot_list_insert PySem.F.type_list_insert L2.mt_insert insert_ok (fun ms st H x u S r hb => lstT ms st H x u S r hb (by simp)) ho hes h1 h3 hst h20)
            | get =>
              cases r with
              | cons _ _ => simp [bmAr] at h4
              | nil =>
                cases es with
                | nil => simp [chks] at h6
                | cons me es =>
                  cases es with
                  | cons _ _ => simp [chks] at h6
                  | nil =>
                    simp only [chks, Bool.and_eq_true] at h6
                    exact .val (t_get L ho (sndE me a X G C lo W L tk h6.1).e h1 h3 (chk_star h6.1))
            | get2 =>
              cases r with
              | nil => simp [bmAr] at h4
              | cons b r =>
                cases r with
                | cons _ _ => simp [bmAr] at h4
                | nil =>
                  cases es with
                  | nil => simp [chks] at h6
                  | cons me es =>
                    cases es with
                    | nil => simp [chks] at h6
                    | cons mf es =>
                      cases es with
                      | cons _ _ => simp [chks] at h6
                      | nil =>
                        simp only [chks, Bool.and_eq_true] at h6
                        exact .val (t_get2 L ho (sndE me a X G C lo W L tk h6.1).e (sndE mf b X G C lo W L tk h6.2.1).e h1 h3 (chk_star h6.1) (chk_star h6.2.1))
            | _ => cases r <;> simp [bmAr] at h4
      | _ => simp [chk] at h
    | _ => simp [chk] at h
  | .idx a i =>
    cases e with
    | Subscript x y pos =>
      simp only [chk, Bool.and_eq_true, Bool.not_eq_true'] at h
      exact .val (t_idx L h.1.1 (sndE a x X G C lo W L tk h.1.2).e (sndE i y X G C lo W L tk h.2).e)
    | _ => simp [chk] at h
  | .slice bx a l u =>
    cases e with
    | Subscript x y pos =>
      cases y with
      | Slice l' u' s' p2 =>
        cases s' with
        | some _ => simp [chk] at h
        | none =>
          simp only [chk, Bool.and_eq_true] at h
          exact .val (t_slice L (sndE a x X G C lo W L tk h.1.1).e (sndO l l' X G C lo W L tk h.1.2) (sndO u u' X G C lo W L tk h.2))
      | _ => simp [chk] at h
    | _ => simp [chk] at h
  | .comp bx tg vs it cond elt =>
    cases e with
    | ListComp ex gens scope pos =>
      match gens, h with
      | [⟨t, ie, ifs, a⟩], h =>
        simp only [chk, Bool.and_eq_true, decide_eq_true_eq] at h
        obtain ⟨⟨⟨⟨⟨⟨⟨h1, h2⟩, h3⟩, h4⟩, h5⟩, h6⟩, h7⟩, h8⟩ := h
        subst h8
        have hi := sndI it t ie X G C lo W L tk h2
        have ok : L2.BlkOk X.N X.env.scope scope (vs.map fun i => (C.N.getD i Str.empty, i)) := L2.blkOk_by (by rw [L.N, L.sc]; exact h1)
        have ev : (vs.map fun i => (C.N.getD i Str.empty, i)).map (·.2) = vs := by
          rw [List.map_map]
          exact (List.map_congr_left fun _ _ => rfl).trans (List.map_id _)
        have hv : ∀ i ∈ tgVars tg, i ∈ vs := fun i hi => by simpa using List.all_eq_true.mp h4 i hi
        have he : ∀ (s : Shared) (H : Hp) (A : Addr) (cl : List (Str × Addr)) (fp : List Addr), PE (X.blk s H scope (compEnvC scope cl A X.env) fp) ex (teX G lo (Z.eval Γ lo elt)) := fun s H A cl fp =>
          pe_ex fun D => (sndE elt ex _ (G.plus D) _ lo WF (L.blk (D := D)) takesF h5).e
        have hg : ∀ (s : Shared) (H : Hp) (A : Addr) (cl : List (Str × Addr)) (fp : List Addr), PG (X.blk s H scope (compEnvC scope cl A X.env) fp) t (gOf X.K tg) := fun s H A cl fp => pg_of (L.blk (G := G) (D := 0)) tg t h3
        have ht : ∀ (s : Shared) (H : Hp) (A : Addr) (cl : List (Str × Addr)) (fp : List Addr), L2.PTs (X.blk s H scope (compEnvC scope cl A X.env) fp) ifs (ttX G lo (cond.map (Z.eval Γ lo))) := fun s H A cl fp => by
          match cond, ifs, h6 with
          | none, [], _ => exact L2.pts_nil
          | some c, [x], h6 =>
            simp only [chkF] at h6
            exact pts_ex fun D => L2.pts_one (sndE c x _ (G.plus D) _ lo WF (L.blk (D := D)) takesF h6).t
          | none, _ :: _, h6 => simp [chkF] at h6
          | some _, [], h6 => simp [chkF] at h6
          | some _, _ :: _ :: _, h6 => simp [chkF] at h6
        refine .val ((L2.pe_lc L.calm (by rw [L.N]; exact L.nd) hi.1 ok hg ht he (foldS hi.2)).weak fun σ H Q q => ?_)
        rw [ev]
        refine comp_asks L hv σ H Q (bx := bx) ?_
        obtain ⟨ms, ρ, st, hl, S, E, q⟩ := q
        refine ⟨ms, ρ, st, hl, S, E, ?_⟩
        rw [eval_comp] at q
        exact q
      | [], h => simp [chk] at h
      | _ :: _ :: _, h => simp [chk] at h
    | _ => simp [chk] at h
theorem sndEs (m : MEs) (es : List Expr) (X : Cx) (G : Ctx) (C : CC) (lo : Nat) (W : L2.WX) (L : Lk X G Γ C) (tk : L2.Takes X W) (h : chks C m es = true) : PA X es (tEs G lo W (Z.evals Γ lo m)) := by
  match m, es, h with
  | .nil, [], h => exact t_nil
  | .nil, _ :: _, h => simp [chks] at h
  | .cons a r, [], h => simp [chks] at h
  | .cons a r, e :: es, h =>
    simp only [chks, Bool.and_eq_true] at h
    exact t_cons (sndE a e X G C lo W L tk h.1).e (sndEs r es X G C lo W L tk h.2) (chk_star h.1)
theorem sndO (m : Option ME) (e : Option Expr) (X : Cx) (G : Ctx) (C : CC) (lo : Nat) (W : L2.WX) (L : Lk X G Γ C) (tk : L2.Takes X W) (h : chkO C m e = true) : L2.PO X e (tO G lo W (evalO Γ lo m)) := by
  match m, e, h with
  | none, none, h => exact t_none
  | none, some _, h => simp [chkO] at h
  | some _, none, h => simp [chkO] at h
  | some m, some e, h =>
    simp only [chkO] at h
    exact t_some (sndE m e X G C lo W L tk h).e
theorem sndI (m : MI) (tg e : Expr) (X : Cx) (G : Ctx) (C : CC) (lo : Nat) (W : L2.WX) (L : Lk X G Γ C) (tk : L2.Takes X W) (h : chkI C m tg e = true) : PI X tg e (tI G lo W (source Γ lo m)) ∧ isSet e = false := by
  match m with
  | .seq a =>
    simp only [chkI, Bool.and_eq_true, Bool.not_eq_true'] at h
    exact ⟨t_seq L (sndE a e X G C lo W L tk h.1).e, h.2⟩
  | .range1 a =>
    cases e with
    | Call fe as ks pos =>
      cases fe with
      | Name x p =>
        match as, ks, h with
        | [y], [], h =>
          simp only [chkI, Bool.and_eq_true, decide_eq_true_eq] at h
          exact ⟨t_range1 L h.1.2 h.1.1 (sndE a y X G C lo W L tk h.2).e (chk_star h.2), rfl⟩
        | [], _, h => simp [chkI] at h
        | _ :: _ :: _, _, h => simp [chkI] at h
        | [_], _ :: _, h => simp [chkI] at h
      | _ => simp [chkI] at h
    | _ => simp [chkI] at h
  | .range2 a b =>
    cases e with
    | Call fe as ks pos =>
      cases fe with
      | Name x p =>
        match as, ks, h with
        | [y, z], [], h =>
          simp only [chkI, Bool.and_eq_true, decide_eq_true_eq] at h
          exact ⟨t_range2 L h.1.1.2 h.1.1.1 (sndE a y X G C lo W L tk h.1.2).e (sndE b z X G C lo W L tk h.2).e (chk_star h.1.2) (chk_star h.2), rfl⟩
        | [], _, h => simp [chkI] at h
        | [_], _, h => simp [chkI] at h
        | _ :: _ :: _ :: _, _, h => simp [chkI] at h
        | [_, _], _ :: _, h => simp [chkI] at h
      | _ => simp [chkI] at h
    | _ => simp [chkI] at h
  | .enum a =>
    cases e with
    | Call fe as ks pos =>
      cases fe with
      | Name x p =>
        match as, ks, h with
        | [y], [], h =>
          simp only [chkI, Bool.and_eq_true, decide_eq_true_eq] at h
          exact ⟨t_enum L h.1.1.1 h.1.2 h.1.1.2 (sndE a y X G C lo W L tk h.2).e (chk_star h.2), rfl⟩
        | [], _, h => simp [chkI] at h
        | _ :: _ :: _, _, h => simp [chkI] at h
        | [_], _ :: _, h => simp [chkI] at h
      | _ => simp [chkI] at h
    | _ => simp [chkI] at h
  | .zip a b =>
    cases e with
    | Call fe as ks pos =>
      cases fe with
      | Name x p =>
        match as, ks, h with
        | [y, z], [], h =>
          simp only [chkI, Bool.and_eq_true, decide_eq_true_eq] at h
          exact ⟨t_zip L h.1.1.1.1 h.1.1.2 h.1.1.1.2 (sndE a y X G C lo W L tk h.1.2).e (sndE b z X G C lo W L tk h.2).e (chk_star h.1.2) (chk_star h.2), rfl⟩
        | [], _, h => simp [chkI] at h
        | [_], _, h => simp [chkI] at h
        | _ :: _ :: _ :: _, _, h => simp [chkI] at h
        | [_, _], _ :: _, h => simp [chkI] at h
      | _ => simp [chkI] at h
    | _ => simp [chkI] at h
end
end
end Z

set_option maxHeartbeats 200000
set_option maxRecDepth 512
/-! Whether a text of the small language is a text of the program: statements. -/
namespace Z
open PySem (Str Expr Stmt Scope NameKind CmpOp Operator UnaryOp Const Comprehension ScopeKind)

def isTup : Expr → Bool
  | .Tuple .. => true
  | _ => false
/-- some name here is no plain local one -/
def cellIn (C : CC) : Expr → Bool
  | .Tuple ts _ _ => ts.any fun | .Name id _ => !decide (C.sc.names.lookup id = some .local) | _ => true
  | _ => false
def isComp : Expr → Bool
  | .ListComp .. | .SetComp .. | .DictComp .. => true
  | _ => false
/-- names that are stored to one by one -/
def parNames (C : CC) (line : Nat) : List Nat → List Expr → Bool
  | [], [] => true
  | i :: is, .Name x p :: es => decide (C.N[i]? = some x) && sane x && decide (C.sc.names.lookup x = some .local) && (p.line == line) && parNames C line is es
  | _, _ => false
def lineOf : List Expr → Nat
  | .Name _ p :: _ => p.line
  | _ => 0
def noStar (es : List Expr) : Bool := es.all fun | .Starred .. => false | _ => true
def isSub : Expr → Bool
  | .Subscript .. => true
  | _ => false
def parOf : List Expr → Expr → Option (List Expr × List Expr)
  | [.Tuple ts _ _], .Tuple vs _ _ => some (ts, vs)
  | _, _ => none
def subOf : List Expr → Option (Expr × Expr)
  | [.Subscript o i _] => some (o, i)
  | _ => none
def raiseOf : Option Expr → Option Expr → Option Str
  | some (.Call (.Name x _) [.Constant (.str _) _ _] [] _), none => some x
  | _, _ => none
theorem parOf_eq {ts : List Expr} {x : Expr} {q : List Expr × List Expr} (h : parOf ts x = some q) : ∃ k p k2 p2, ts = [.Tuple q.1 k p] ∧ x = .Tuple q.2 k2 p2 := by
  unfold parOf at h
  split at h
  · cases h; exact ⟨_, _, _, _, rfl, rfl⟩
  · cases h
theorem subOf_eq {ts : List Expr} {q : Expr × Expr} (h : subOf ts = some q) : ∃ p, ts = [.Subscript q.1 q.2 p] := by
  unfold subOf at h
  split at h
  · cases h; exact ⟨_, rfl⟩
  · cases h
theorem raiseOf_eq {a b : Option Expr} {x : Str} (h : raiseOf a b = some x) : ∃ p m j p2 p3, a = some (.Call (.Name x p) [.Constant (.str m) j p2] [] p3) ∧ b = none := by
  unfold raiseOf at h
  split at h
  · cases h; exact ⟨_, _, _, _, _, rfl, rfl⟩
  · cases h
mutual
def chkS (C : CC) : MS → Stmt → Bool
  | .asg (.name i) e, .Assign [t] x _ => chkG C (.name i) t && chk C e x
  | .asg (.tup l) e, .Assign [t] x _ => chkG C (.tup l) t && chk C e x && (!isTup x || cellIn C t)
  | .expr e, .Expr x _ => chk C e x && !isComp x
  | .ite c a b, .If x p q _ => chk C c x && chkSs C a p && chkSs C b q
  | .whl _ c b, .While x p [] _ => chk C c x && chkSs C b p
  | .for_ tg it b, .For t x p [] _ => chkG C tg t && chkI C it t x && chkSs C b p
  | .ret e, .Return (some x) _ => chk C e x
  | .retN, .Return none _ => true
  | .pass, .Pass _ => true
  | .setItem o i v, .Assign ts x _ => (match subOf ts with
    | some q => chk C o q.1 && chk C i q.2 && chk C v x && !isSlice q.2 && !isComp x
    | none => false)
  | .asgN is es, .Assign ts x _ => (match parOf ts x with
    | some q => parNames C (lineOf q.1) is q.1 && chks C es q.2 && decide (is.Nodup) && (is.length == 2 || is.length == 3) && decide (q.2.length = q.1.length) && noStar q.2 && !(q.2.all (PySem.foldedForSure 8)) && !(q.2.all (PySem.constantsAlone 8))
    | none => false)
  | .raise c, .Raise a b _ => (match raiseOf a b with
    | some x => sane x && isGl C.sc x && (match C.cnm c with | some n => decide (x = Str.ofString n) | none => false)
    | none => false)
  | _, _ => false
def chkSs (C : CC) : MSs → List Stmt → Bool
  | .nil, [] => true
  | .frz _ r, sts => chkSs C r sts
  | .cons s r, st :: sts => chkS C s st && chkSs C r sts
  | _, _ => false
end
end Z

set_option maxHeartbeats 200000
set_option maxRecDepth 512
set_option maxHeartbeats 4000000
/-! Statements: what they come to. -/
namespace Z
open PySem PySem.Spec PyProof.Rows
open L2 (V HO Hp SqL SqT Rd upd upd_same upd_ne ne_of ne_of_none Cx PE PT PS PSs PA PG PGs PI PW Inv VK TE TA TS TT TG TGs RelV Vals Dp DpAll)

theorem _root_.L2.PS.weak {X : Cx} {e : Stmt} {t t' : TS} (h : PS X e t) (m : ∀ D σ H, t' D σ H → t D σ H) : PS X e t' := ⟨fun pins s σ H D I q => h.run pins s σ H D I (m D σ H q)⟩
theorem _root_.L2.PSs.weak {X : Cx} {e : List Stmt} {t t' : TS} (h : PSs X e t) (m : ∀ D σ H, t' D σ H → t D σ H) : PSs X e t' := ⟨fun pins s σ H D I q => h.run pins s σ H D I (m D σ H q)⟩

section
variable {G : Ctx} {lo : Nat} {ms ms1 : List Addr} {st st1 : Sto} {H H1 : Hp}
/-- r leads to the ends N, R, or to E -/
def ResS (G : Ctx) (lo : Nat) (ms : List Addr) (st : Sto) (H : Hp) (r : RS) (N : L2.St → Hp → Prop) (T : V → Hp → Prop) (E : Nat → L2.St → Hp → Prop) : Prop := match r with
  | .nx ρ st' => ∀ ms' H' σ', Ext G.rsv lo ms st H ms' st' H' → SOk G ms' st' H' → EOk G ms' st' H' ρ σ' → N σ' H'
  | .ret v st' => ∀ ms' H' u, Ext G.rsv lo ms st H ms' st' H' → SOk G ms' st' H' → Rep G ms' st' H' v u → T u H'
  | .exc c ρ st' => ∀ ms' H' σ', Ext G.rsv lo ms st H ms' st' H' → SOk G ms' st' H' → EOk G ms' st' H' ρ σ' → E c σ' H'
  | .bad => False
variable {N N' : L2.St → Hp → Prop} {T : V → Hp → Prop} {E : Nat → L2.St → Hp → Prop}
theorem ResS.after {r : RS} (h : ResS G lo ms st H r N T E) (e : Ext G.rsv lo ms st H ms1 st1 H1) : ResS G lo ms1 st1 H1 r N T E := by
  cases r with
  | nx ρ st' => exact fun ms' H' u e' => h ms' H' u (e.trans e')
  | ret ρ st' => exact fun ms' H' u e' => h ms' H' u (e.trans e')
  | exc c ρ st' => exact fun ms' H' u e' => h ms' H' u (e.trans e')
  | bad => exact h
theorem ResS.then1 {α β : Type} {rep : List Addr → Sto → Hp → α → β → Prop} {r : R α} {ρ : Env} {σ : L2.St} {f : α → Sto → RS} {Q1 : β → Hp → Prop} (h : ResS G lo ms st H (r.then ρ f) N T E) (EO : EOk G ms st H ρ σ)
    (k : ∀ x st1 ms1 H1 u, Ext G.rsv lo ms st H ms1 st1 H1 → SOk G ms1 st1 H1 → rep ms1 st1 H1 x u → ResS G lo ms1 st1 H1 (f x st1) N T E → Q1 u H1) : Res G rep lo ms st H r Q1 (fun c H' => E c σ H') := by
  cases r with
  | ok x st1 => exact fun ms1 H1 u e S r => k x st1 ms1 H1 u e S r (h.after e)
  | exc c st1 => exact fun ms1 H1 e S => h ms1 H1 σ e S (EO.ext e)
  | bad => exact h
theorem ResS.next1 {r : RS} {f : Env → Sto → RS} (h : ResS G lo ms st H (r.next f) N T E)
    (k : ∀ ρ' st' ms' H' σ', Ext G.rsv lo ms st H ms' st' H' → SOk G ms' st' H' → EOk G ms' st' H' ρ' σ' → ResS G lo ms' st' H' (f ρ' st') N T E → N' σ' H') : ResS G lo ms st H r N' T E := by
  cases r with
  | nx ρ st' => exact fun ms' H' σ' e S EO => k ρ st' ms' H' σ' e S EO (h.after e)
  | ret v st' => exact h
  | exc c ρ st' => exact h
  | bad => exact h
theorem ResS.nx {ρ : Env} {σ : L2.St} (h : ResS G lo ms st H (.nx ρ st) N T E) (S : SOk G ms st H) (EO : EOk G ms st H ρ σ) : N σ H := h ms H σ Ext.refl S EO
theorem ResS.rt {v : PV} {u : V} (h : ResS G lo ms st H (.ret v st) N T E) (S : SOk G ms st H) (r : Rep G ms st H v u) : T u H := h ms H u Ext.refl S r
end

/-- what a statement comes to -/
def tS (G : Ctx) (lo : Nat) (W : L2.WX) (d : Env → Sto → RS) : TS := fun D σ H => ∃ ms ρ st, lo ≤ st.length ∧ SOk G ms st H ∧ EOk G ms st H ρ σ ∧ ResS G lo ms st H (d ρ st) D.nx D.rt fun c σ H' => W (.ref (G.ca c)) none σ H'

section
variable {X : Cx} {G : Ctx} {Γ : Gam} {C : CC} {lo : Nat} {W : L2.WX} {pos : Pos}

theorem s_nil : PSs X [] (tS G lo W (execs Γ lo .nil)) := L2.pss_nil.weak fun D σ H ⟨ms, ρ, st, hl, S, E, q⟩ => by
  simp only [execs] at q
  exact q.nx S E
theorem s_cons {s : Stmt} {sts : List Stmt} {d d' : Env → Sto → RS} (h1 : PS X s (tS G lo W d)) (h2 : PSs X sts (tS G lo W d')) : PSs X (s :: sts) (tS G lo W fun ρ st => (d ρ st).next d') :=
  (L2.pss_cons h1 h2).weak fun D σ H ⟨ms, ρ, st, hl, S, E, q⟩ => ⟨ms, ρ, st, hl, S, E, q.next1 fun ρ' st' ms' H' σ' e S' E' q' => ⟨ms', ρ', st', e.le S S' hl, S', E', q'⟩⟩
theorem s_expr {e : Expr} {d : Env → Sto → R PV} (he : PE X e (tE G lo W d)) (hc : isComp e = false) : PS X (.Expr e pos) (tS G lo W fun ρ st => (d ρ st).then ρ fun _ st1 => .nx ρ st1) :=
  (L2.ps_expr he (by cases e <;> first | rfl | (simp [isComp] at hc))).weak fun D σ H ⟨ms, ρ, st, hl, S, E, q⟩ => ⟨ms, ρ, st, hl, S, E, q.then1 (rep := Rep G) E fun x st1 ms1 H1 u e1 S1 r1 q1 => q1.nx S1 (E.ext e1)⟩
theorem s_ret {e : Expr} {d : Env → Sto → R PV} (he : PE X e (tE G lo W d)) : PS X (.Return (some e) pos) (tS G lo W fun ρ st => (d ρ st).then ρ fun v st1 => .ret v st1) :=
  (L2.ps_ret he).weak fun D σ H ⟨ms, ρ, st, hl, S, E, q⟩ => ⟨ms, ρ, st, hl, S, E, q.then1 (rep := Rep G) E fun x st1 ms1 H1 u e1 S1 r1 q1 => q1.rt S1 r1⟩
theorem s_retN : PS X (.Return none pos) (tS G lo W fun ρ st => .ret .none st) :=
  L2.ps_retN.weak fun D σ H ⟨ms, ρ, st, hl, S, E, q⟩ => q.rt S (by simp only [Rep])
theorem s_pass : PS X (.Pass pos) (tS G lo W fun ρ st => .nx ρ st) := L2.ps_pass.weak fun D σ H ⟨ms, ρ, st, hl, S, E, q⟩ => q.nx S E
theorem s_if {c : Expr} {a b : List Stmt} {dc : Env → Sto → R PV} {da db : Env → Sto → RS} (hc : PT X c (tB (tE G lo W dc))) (ha : PSs X a (tS G lo W da)) (hb : PSs X b (tS G lo W db)) :
    PS X (.If c a b pos) (tS G lo W fun ρ st => (dc ρ st).then ρ fun x st1 => match x with | .bool true => da ρ st1 | .bool false => db ρ st1 | _ => .bad) :=
  (L2.ps_if hc ha hb).weak fun D σ H ⟨ms, ρ, st, hl, S, E, q⟩ => ⟨ms, ρ, st, hl, S, E, q.then1 (rep := Rep G) E fun x st1 ms1 H1 u e1 S1 r1 q1 => by
    split at q1
    · refine ⟨true, rep_bool r1, ?_⟩
      refine L2.iteT ?_
      exact ⟨ms1, ρ, st1, e1.le S S1 hl, S1, E.ext e1, q1⟩
    · refine ⟨false, rep_bool r1, ?_⟩
      refine L2.iteF ?_
      exact ⟨ms1, ρ, st1, e1.le S S1 hl, S1, E.ext e1, q1⟩
    · exact q1.elim⟩
theorem s_while {c : Expr} {b : List Stmt} {n : Nat} {dc : Env → Sto → R PV} {db : Env → Sto → RS} (hp : PassesOwn (model X.prog X.w) X.A X.env X.xe) (hc : PT X c (tB (tE G lo W dc))) (hb : PSs X b (tS G lo W db)) :
    PS X (.While c b [] pos) (tS G lo W fun ρ st => whlF dc db n ρ st) :=
  (L2.ps_while hp hc hb).weak fun D σ H ⟨ms, ρ, st, hl, S, E, q⟩ => by
    refine ⟨fun m σ H => ∃ ms ρ st, lo ≤ st.length ∧ SOk G ms st H ∧ EOk G ms st H ρ σ ∧ ResS G lo ms st H (whlF dc db m ρ st) D.nx D.rt fun c σ H' => W (.ref (G.ca c)) none σ H', ⟨n, ms, ρ, st, hl, S, E, q⟩, ?_⟩
    rintro m σ H ⟨ms, ρ, st, hl, S, E, q⟩
    cases m with
    | zero => exact q.elim
    | succ m =>
      unfold whlF at q
      refine ⟨ms, ρ, st, hl, S, E, q.then1 (rep := Rep G) E fun x st1 ms1 H1 u e1 S1 r1 q1 => ?_⟩
      split at q1
      · refine ⟨true, rep_bool r1, ?_⟩
        refine L2.iteT ?_
        refine ⟨fun σ H => ∃ ms ρ st, lo ≤ st.length ∧ SOk G ms st H ∧ EOk G ms st H ρ σ ∧ ResS G lo ms st H (whlF dc db m ρ st) D.nx D.rt fun c σ H' => W (.ref (G.ca c)) none σ H', fun σ' H' z => ⟨m, Nat.lt_succ_self m, z⟩, ?_⟩
        exact ⟨ms1, ρ, st1, e1.le S S1 hl, S1, E.ext e1, q1.next1 fun ρ' st' ms' H' σ' e' S' E' q' => ⟨ms', ρ', st', e'.le S1 S' (e1.le S S1 hl), S', E', q'⟩⟩
      · refine ⟨false, rep_bool r1, ?_⟩
        refine L2.iteF ?_
        exact q1.nx S1 (E.ext e1)
      · exact q1.elim

/-- a turn of a loop: the target's store, the body -/
theorem turn_ok {tg : Tg} {b : Env → Sto → RS} {K : PySem.W.Frag} {x : PV} {u : V} {ms : List Addr} {st : Sto} {H : Hp} {ρ : Env} {σ : L2.St} {D D' : L2.Ends} {f : Env → Sto → RS} (hK : K = G.K) (hl : lo ≤ st.length) (S : SOk G ms st H) (E : EOk G ms st H ρ σ) (rx : Rep G ms st H x u)
    (h : ResS G lo ms st H ((match assign tg x ρ with | some ρ2 => b ρ2 st | none => .bad : RS).next f) D.nx D.rt fun c σ H' => W (.ref (G.ca c)) none σ H') (hr : D'.rt = D.rt)
    (k : ∀ ρ' st' ms' H' σ', Ext G.rsv lo ms st H ms' st' H' → SOk G ms' st' H' → EOk G ms' st' H' ρ' σ' → ResS G lo ms' st' H' (f ρ' st') D.nx D.rt (fun c σ H' => W (.ref (G.ca c)) none σ H') → D'.nx σ' H') :
    gOf K tg u σ H fun σ2 H2 => tS G lo W b D' σ2 H2 := by
  cases ha : assign tg x ρ with
  | none => simp only [ha] at h; exact h.elim
  | some ρ2 =>
    simp only [ha] at h
    refine assign_ok hK tg x u _ ρ2 _ _ rx E ha fun σ2 E2 k2 => ?_
    refine ⟨ms, ρ2, st, hl, S, E2, ?_⟩
    rw [hr]
    exact h.next1 k

theorem s_for {tg : Tg} {t iter : Expr} {body : List Stmt} {ds : Env → Sto → R Src} {db : Env → Sto → RS} (L : Lk X G Γ C) (hp : PassesOwn (model X.prog X.w) X.A X.env X.xe) (hi : PI X t iter (tI G lo W ds)) (hs : isSet iter = false) (hg : PG X t (gOf X.K tg)) (hb : PSs X body (tS G lo W db)) :
    PS X (.For t iter body [] pos) (tS G lo W fun ρ st => (ds ρ st).then ρ fun s st1 =>
      let body : PV → Env → Sto → RS := fun x ρ1 st2 => match assign tg x ρ1 with
        | some ρ2 => db ρ2 st2
        | none => .bad
      match s with
      | .fix xs => forFix body xs ρ st1
      | .live i => forLive i body (match st1[i]? with | some (.lst xs) => xs.length + 1 | _ => 0) 0 ρ st1
      | .liveE _ => .bad) :=
  (L2.ps_for hp L.calm hi hg hb (foldS hs)).weak fun D σ H ⟨ms, ρ, st, hl, S, E, q⟩ => ⟨ms, ρ, st, hl, S, E, q.then1 (rep := SrcOk G lo) E fun s st1 ms1 H1 J e1 S1 r1 q1 => by
    have hl1 := e1.le S S1 hl
    have E1 := E.ext e1
    simp only at q1
    generalize hbd : (fun (x : PV) (ρ1 : Env) (st2 : Sto) => match assign tg x ρ1 with
        | some ρ2 => db ρ2 st2
        | none => (.bad : RS)) = bd at q1
    cases s with
    | fix xs =>
      simp only at q1
      refine ⟨fun i m σ H => m = xs.length - i ∧ i ≤ xs.length ∧ ∃ ms ρ st, Ext G.rsv lo ms1 st1 H1 ms st H ∧ lo ≤ st.length ∧ SOk G ms st H ∧ EOk G ms st H ρ σ ∧ ResS G lo ms st H (forFix bd (xs.drop i) ρ st) D.nx D.rt fun c σ H' => W (.ref (G.ca c)) none σ H',
        ⟨xs.length, by simp, Nat.zero_le _, ms1, ρ, st1, Ext.refl, hl1, S1, E1, q1⟩, ?_⟩
      rintro i m σ H ⟨rfl, hi, ms, ρ, st, e, hl, S, E, q⟩
      have hJ' := r1 G ms st H e.carry
      by_cases hlt : i < xs.length
      · rw [List.drop_eq_getElem_cons hlt] at q
        simp only [forFix] at q
        obtain ⟨hg, hy⟩ := hJ'.2 i xs[i] (by simp [hlt])
        refine .inr ⟨hg, fun σ' H' => i + 1 ≤ xs.length ∧ ∃ ms ρ st, Ext G.rsv lo ms1 st1 H1 ms st H' ∧ lo ≤ st.length ∧ SOk G ms st H' ∧ EOk G ms st H' ρ σ' ∧ ResS G lo ms st H' (forFix bd (xs.drop (i + 1)) ρ st) D.nx D.rt fun c σ H' => W (.ref (G.ca c)) none σ H',
          fun σ' H' ⟨h1, h2⟩ => ⟨xs.length - (i + 1), by omega, rfl, h1, h2⟩, fun x H' yl => ?_⟩
        obtain ⟨gr, rx⟩ := hy x H' yl
        have e0 : Ext G.rsv lo ms st H ms st H' := Ext.grow gr
        have S' := S.grow gr
        have q' := q.after e0
        rw [← hbd] at q'
        refine turn_ok L.K hl S' (E.ext e0) rx q' rfl fun ρ' st' ms' H'' σ' e' S'' E' q'' => ⟨hlt, ms', ρ', st', (e.trans e0).trans e', e'.le S' S'' hl, S'', E', ?_⟩
        rw [← hbd]
        exact q''
      · obtain rfl : i = xs.length := by omega
        rw [List.drop_length] at q
        simp only [forFix] at q
        exact .inl ⟨hJ'.1 _ (Nat.le_refl _), q.nx S E⟩
    | live j =>
      simp only at q1
      obtain ⟨a, ha, rfl⟩ := r1
      generalize hn : (match st1[j]? with | some (.lst xs) => xs.length + 1 | _ => 0 : Nat) = n at q1
      refine ⟨fun i m σ H => ∃ ms ρ st, Ext G.rsv lo ms1 st1 H1 ms st H ∧ lo ≤ st.length ∧ SOk G ms st H ∧ EOk G ms st H ρ σ ∧ ResS G lo ms st H (forLive j bd m i ρ st) D.nx D.rt fun c σ H' => W (.ref (G.ca c)) none σ H',
        ⟨n, ms1, ρ, st1, Ext.refl, hl1, S1, E1, q1⟩, ?_⟩
      rintro i m σ H ⟨ms, ρ, st, e, hl, S, E, q⟩
      cases m with
      | zero => exact q.elim
      | succ m =>
        unfold forLive at q
        split at q
        · rename_i xs hst
          have hma : ms[j]? = some a := pre_get e.pre ha
          obtain ⟨vs', hv', rl⟩ := S.obj j _ a hst hma
          have sq : SqL G.K H a vs' := .of hv'
          have hlen := RepL.length _ _ rl
          split at q
          · rename_i x hx
            obtain ⟨v, ev, rx⟩ := RepL.get _ _ i x rl hx
            refine .inr ⟨⟨vs', v, sq, ev⟩, fun σ' H' => ∃ ms ρ st, Ext G.rsv lo ms1 st1 H1 ms st H' ∧ lo ≤ st.length ∧ SOk G ms st H' ∧ EOk G ms st H' ρ σ' ∧ ResS G lo ms st H' (forLive j bd m (i + 1) ρ st) D.nx D.rt fun c σ H' => W (.ref (G.ca c)) none σ H',
              fun σ' H' h' => ⟨m, Nat.lt_succ_self _, h'⟩, fun x' H' ⟨eH, yl⟩ => ?_⟩
            subst eH
            have := yl vs' sq
            rw [ev] at this
            cases this
            rw [← hbd] at q
            refine turn_ok L.K hl S E rx q rfl fun ρ' st' ms' H'' σ' e' S'' E' q'' => ⟨ms', ρ', st', e.trans e', e'.le S S'' hl, S'', E', ?_⟩
            rw [← hbd]
            exact q''
          · rename_i hx
            exact .inl ⟨⟨vs', sq, by rw [hlen]; exact List.getElem?_eq_none_iff.mp hx⟩, q.nx S E⟩
        · exact q.elim
    | liveE i => exact r1.elim⟩

/-- a thing of the store becomes a tree: nothing of the program -/
theorem s_frz {i : Nat} {sts : List Stmt} {d : Env → Sto → RS} (h : PSs X sts (tS G lo W d)) : PSs X sts (tS G lo W fun ρ st => (frzf lo i ρ st).next d) := h.weak fun D σ H ⟨ms, ρ, st, hl, S, E, q⟩ => by
  have dead : ∀ {j : Nat} {o : PO} {a : Addr}, st[j]? = some o → o ≠ .dead → lo ≤ j → ms[j]? = some a → Ext G.rsv lo ms st H ms (st.set j .dead) H ∧ SOk G ms (st.set j .dead) H ∧ Free G.rsv ms (st.set j .dead) a := fun {j o a} h1 h2 h3 h4 => by
    have hj := (List.getElem?_eq_some_iff.mp h1).1
    have al : ∀ k, alive (st.set j .dead) k → alive st k ∧ k ≠ j := fun k ⟨o', e1, e2⟩ => by
      by_cases z : k = j
      · subst z
        rw [List.getElem?_set_self hj] at e1
        cases e1
        exact absurd rfl e2
      · rw [List.getElem?_set_ne (Ne.symm z)] at e1
        exact ⟨⟨o', e1, e2⟩, z⟩
    have e : Ext G.rsv lo ms st H ms (st.set j .dead) H := ⟨List.prefix_refl _, fun a u r _ => r, fun _ _ h => h, fun _ h => h, fun k _ q => (al k q).1, fun k a hk e => by
      have := (List.getElem?_eq_some_iff.mp e).1
      omega, fun k hk => List.getElem?_set_ne (by omega), fun _ _ _ => rfl⟩
    refine ⟨e, ⟨by rw [List.length_set]; exact S.len, fun k l b q1 q2 => S.inj k l b (al k q1).1 (al l q2).1, fun k o' b q1 q2 => ?_, fun k b q1 => S.out k b (al k q1).1, S.rsv⟩, fun hz => S.out j a ⟨o, h1, h2⟩ h4 hz, fun k q1 q2 => (al k q1).2 (S.inj k j a (al k q1).1 ⟨o, h1, h2⟩ q2 h4)⟩
    by_cases z : k = j
    · subst z
      rw [List.getElem?_set_self hj] at q1
      cases q1
      trivial
    · rw [List.getElem?_set_ne (Ne.symm z)] at q1
      exact (S.obj k o' b q1 q2).carry e.carry fun _ q => q
  replace q : ResS G lo ms st H ((frzf lo i ρ st).next d) D.nx D.rt (fun c σ H' => W (.ref (G.ca c)) none σ H') := q
  unfold frzf at q
  split at q
  · rename_i j hj
    obtain ⟨v, hv, rv⟩ := E.get hj
    simp only [Rep] at rv
    obtain ⟨a, rfl, ha⟩ := rv
    have sv : ∀ {d : PV} {ρ : Env}, Rep G ms (st.set j .dead) H d (.ref a) → EOk G ms (st.set j .dead) H ρ σ → ρ[i]? = some (some (.box j)) → EOk G ms (st.set j .dead) H (ρ.set i (some d)) σ := fun {d ρ} r E hj => by
      have := EOk.set (i := i) r E
      have hi := (List.getElem?_eq_some_iff.mp hv).1
      have e2 : σ.set i (some (.ref a)) = σ := by
        rw [List.getElem?_eq_some_iff] at hv
        obtain ⟨h1, h2⟩ := hv
        rw [← h2]
        exact List.set_getElem_self h1
      rw [e2] at this
      exact this
    split at q
    · rename_i xs hst
      split at q
      · rename_i hlo
        obtain ⟨e, S', f⟩ := dead hst (by simp) hlo ha
        obtain ⟨vs, h1, h2⟩ := S.obj j _ a hst ha
        refine ⟨ms, _, _, e.le S S' hl, S', sv (d := .lst xs) ?_ (E.ext e) hj, ?_⟩
        · simp only [Rep]
          exact ⟨a, vs, rfl, ⟨.inl h1, f⟩, RepL.ext e _ _ h2⟩
        · exact q.after e
      · exact q.elim
    · rename_i t kvs hst
      split at q
      · rename_i hlo
        obtain ⟨e, S', f⟩ := dead hst (by simp) hlo ha
        have ho := S.obj j _ a hst ha
        refine ⟨ms, _, _, e.le S S' hl, S', sv (d := .dct t kvs) ?_ (E.ext e) hj, q.after e⟩
        cases t with
        | false =>
          obtain ⟨l, h1, h2⟩ := ho
          simp only [Rep]
          exact ⟨a, l, rfl, f, .inl h1, RepK.ext e _ _ h2⟩
        | true =>
          obtain ⟨l, h1, h2⟩ := ho
          simp only [Rep]
          exact ⟨a, l, rfl, f, .inl h1, RepT.ext e _ _ h2⟩
      · exact q.elim
    · exact q.elim
  · exact ⟨ms, ρ, st, hl, S, E, q⟩
  · exact q.elim
end
end Z

set_option maxHeartbeats 200000
set_option maxRecDepth 512
set_option maxHeartbeats 4000000
/-! Statements as a whole. -/
namespace Z
open PySem PySem.Spec PyProof.Rows
open L2 (V HO Hp SqL SqT Rd upd upd_same upd_ne ne_of ne_of_none Cx PE PT PS PSs PA PG PGs PI PW Inv VK TE TA TS TT TG TGs RelV Vals Dp DpAll)

section
variable {X : Cx} {G : Ctx} {Γ : Gam} {C : CC} {lo : Nat} {W : L2.WX} {pos : Pos}

theorem asg_asks {tg : Tg} {d : Env → Sto → R PV} {K : PySem.W.Frag} (hK : K = G.K) (D : L2.Ends) (σ : L2.St) (H : Hp) (h : tS G lo W (fun ρ st => (d ρ st).then ρ fun v st1 => match assign tg v ρ with | some ρ' => .nx ρ' st1 | none => .bad) D σ H) :
    L2.tAsg (tE G lo W d) (gOf K tg) D σ H := by
  obtain ⟨ms, ρ, st, hl, S, E, q⟩ := h
  refine ⟨ms, ρ, st, hl, S, E, q.then1 (rep := Rep G) E fun x st1 ms1 H1 u e1 S1 r1 q1 => ?_⟩
  cases ha : assign tg x ρ with
  | none => simp only [ha] at q1; exact q1.elim
  | some ρ' =>
    simp only [ha] at q1
    exact assign_ok hK tg x u _ ρ' _ _ r1 (E.ext e1) ha fun σ' E' _ => q1.nx S1 E'

/-- what swapsWith says of a list comprehension and a name -/
theorem swaps_lc {y : Str} {py : Pos} {elt : Expr} {gens : List Comprehension} {scope : Scope} {p : Pos} {line : Nat} {env : PySem.Env} :
    swapsWith (.ListComp elt gens scope p) (some (.Name y py)) line env = pure true ∧ env.scope.names.lookup y = some .local ∨ swapsWith (.ListComp elt gens scope p) (some (.Name y py)) line env = pure false := by
  show ((pure (env.blockKind == .function && env.kindOf y == some .local && py.line == p.line && !(scope.names.any fun (n, k) => n == y && (k == .local || k == .cell))) : Sem Bool) = pure true ∧ _) ∨ (pure (env.blockKind == .function && env.kindOf y == some .local && py.line == p.line && !(scope.names.any fun (n, k) => n == y && (k == .local || k == .cell))) : Sem Bool) = pure false
  cases h : (env.blockKind == .function && env.kindOf y == some .local && py.line == p.line && !(scope.names.any fun (n, k) => n == y && (k == .local || k == .cell)))
  · exact .inr rfl
  · simp only [Bool.and_eq_true] at h
    refine .inl ⟨rfl, ?_⟩
    exact (beq_iff_eq.mp h.1.1.2 : env.kindOf y = some .local)

theorem s_asgName (L : Lk X G Γ C) (tk : L2.Takes X W) {i : Nat} {e : ME} {t x : Expr} (hg : chkG C (.name i) t = true) (he : chk C e x = true) : PS X (.Assign [t] x pos) (tS G lo W (exec Γ lo (.asg (.name i) e))) := by
  cases t with
  | Name y py =>
    have hg' := hg
    simp only [chkG, Bool.and_eq_true] at hg
    obtain ⟨hn, hs⟩ := hg
    have hn := nameAt_d hn
    have hi : X.N[i]? = some y := by rw [L.N]; exact hn.1
    have hN : X.N.Nodup := by rw [L.N]; exact L.nd
    have key : ∀ {t : TE}, PE X x t → (swapsWith x (some (.Name y py)) pos.line X.env = pure false) → PS X (.Assign [.Name y py] x pos) (L2.tAsg t (L2.gName i)) := fun h1 h2 => L2.ps_set hN hi (L.loc' hs) h1 h2 (L.loc _ hs)
    have fin : PS X (.Assign [.Name y py] x pos) (L2.tAsg (tE G lo W (eval Γ lo e)) (L2.gName i)) → PS X (.Assign [.Name y py] x pos) (tS G lo W (exec Γ lo (.asg (.name i) e))) := fun h => h.weak fun D σ H q => asg_asks (tg := .name i) L.K D σ H (by simp only [exec] at q; exact q)
    cases x with
    | ListComp ex gens scope p =>
      cases e with
      | comp bx tg vs it cond elt =>
        rcases swaps_lc (y := y) (py := py) (elt := ex) (gens := gens) (scope := scope) (p := p) (line := pos.line) (env := X.env) with ⟨sw, hyl⟩ | sw
        · refine fin ?_
          match gens, he with
          | [⟨t, ie, ifs, a⟩], h =>
            simp only [chk, Bool.and_eq_true, decide_eq_true_eq] at h
            obtain ⟨⟨⟨⟨⟨⟨⟨h1, h2⟩, h3⟩, h4⟩, h5⟩, h6⟩, h7⟩, h8⟩ := h
            subst h8
            have hi' := sndI it t ie X G C lo W L tk h2
            have ok : L2.BlkOk X.N X.env.scope scope (vs.map fun i => (C.N.getD i Str.empty, i)) := L2.blkOk_by (by rw [L.N, L.sc]; exact h1)
            have ev : (vs.map fun i => (C.N.getD i Str.empty, i)).map (·.2) = vs := by
              rw [List.map_map]
              exact (List.map_congr_left fun _ _ => rfl).trans (List.map_id _)
            have hv : ∀ i ∈ tgVars tg, i ∈ vs := fun i hi => by simpa using List.all_eq_true.mp h4 i hi
            have he : ∀ (s : Shared) (H : Hp) (A : Addr) (cl : List (Str × Addr)) (fp : List Addr), PE (X.blk s H scope (compEnvC scope cl A X.env) fp) ex (teX G lo (Z.eval Γ lo elt)) := fun s H A cl fp =>
              pe_ex fun D => (sndE elt ex _ (G.plus D) _ lo WF (L.blk (D := D)) takesF h5).e
            have hg : ∀ (s : Shared) (H : Hp) (A : Addr) (cl : List (Str × Addr)) (fp : List Addr), PG (X.blk s H scope (compEnvC scope cl A X.env) fp) t (gOf X.K tg) := fun s H A cl fp => pg_of (L.blk (G := G) (D := 0)) tg t h3
            have ht : ∀ (s : Shared) (H : Hp) (A : Addr) (cl : List (Str × Addr)) (fp : List Addr), L2.PTs (X.blk s H scope (compEnvC scope cl A X.env) fp) ifs (ttX G lo (cond.map (Z.eval Γ lo))) := fun s H A cl fp => by
              match cond, ifs, h6 with
              | none, [], _ => exact L2.pts_nil
              | some c, [x], h6 =>
                simp only [chkF] at h6
                exact pts_ex fun D => L2.pts_one (sndE c x _ (G.plus D) _ lo WF (L.blk (D := D)) takesF h6).t
              | none, _ :: _, h6 => simp [chkF] at h6
              | some _, [], h6 => simp [chkF] at h6
              | some _, _ :: _ :: _, h6 => simp [chkF] at h6
            refine (L2.ps_setLc L.calm hN hi hyl sw hi'.1 ok hg ht he (foldS hi'.2)).weak fun D σ H q => ?_
            rw [ev]
            refine comp_asks L hv σ H _ (bx := bx) ?_
            obtain ⟨ms, ρ, st, hl, S, E, q⟩ := q
            refine ⟨ms, ρ, st, hl, S, E, ?_⟩
            rw [eval_comp] at q
            exact q
          | [], h => simp [chk] at h
          | _ :: _ :: _, h => simp [chk] at h
        · exact fin (key (sndE _ _ X G C lo W L tk he).e sw)
      | const d => cases d <;> simp [chk] at he
      | _ => simp [chk] at he
    | SetComp _ _ _ _ =>
      cases e with
      | const d => cases d <;> simp [chk] at he
      | _ => simp [chk] at he
    | DictComp _ _ _ _ _ =>
      cases e with
      | const d => cases d <;> simp [chk] at he
      | _ => simp [chk] at he
    | _ => exact fin (key (sndE _ _ X G C lo W L tk he).e rfl)
  | _ => simp [chkG] at hg

theorem filterMap_lt {α β : Type} {f : α → Option β} : ∀ {l : List α}, (∃ a ∈ l, f a = none) → (l.filterMap f).length ≠ l.length
  | [], h => by obtain ⟨a, h, _⟩ := h; cases h
  | a :: l, h => by
    have hle : (l.filterMap f).length ≤ l.length := List.length_filterMap_le f l
    rw [List.filterMap_cons]
    cases e : f a with
    | none => simp only [List.length_cons]; omega
    | some b =>
      obtain ⟨x, hx, hn⟩ := h
      have : x ∈ l := by
        rcases List.mem_cons.mp hx with rfl | hx
        · rw [e] at hn; cases hn
        · exact hx
      have := filterMap_lt ⟨x, this, hn⟩
      simp only [List.length_cons]
      omega
theorem not_swapped {env : PySem.Env} {ts : List Expr} {k : Nat} {p : PySem.Pos} {x : Expr} (hc : C.sc = env.scope) (h : cellIn C (.Tuple ts k p) = true) : swappedStores [.Tuple ts k p] x env = pure none := by
  cases x with
  | Tuple vs k2 p2 =>
    unfold swappedStores
    simp only
    by_cases c1 : (!(ts.length == 2 || ts.length == 3) || vs.length != ts.length || env.blockKind != .function) = true
    · rw [if_pos c1]
    · rw [if_neg c1]
      generalize hb : (vs.any _) = bs
      cases bs with
      | true => rfl
      | false =>
        generalize hx : List.filterMap _ ts = ys
        have hl : ys.length ≠ ts.length := by
          rw [← hx]
          refine filterMap_lt ?_
          unfold cellIn at h
          obtain ⟨e, he, hn⟩ := List.any_eq_true.mp h
          refine ⟨e, he, ?_⟩
          cases e with
          | Name id pos =>
            simp only [Bool.not_eq_true', decide_eq_false_iff_not] at hn
            have : (env.kindOf id == some NameKind.local) = false := by
              rw [beq_eq_false_iff_ne]
              intro q
              exact hn (by rw [hc]; exact q)
            simp only [this, Bool.false_and]
            rfl
          | _ => rfl
        have c2 : (ys.length != ts.length || ys.eraseDups.length != ys.length) = true := by
          have : (ys.length != ts.length) = true := by simpa using hl
          rw [this]
          rfl
        simp only [c2, if_true]
        rfl
  | _ => rfl
theorem s_asgTup (L : Lk X G Γ C) (tk : L2.Takes X W) {l : List Tg} {e : ME} {t x : Expr} (hg : chkG C (.tup l) t = true) (he : chk C e x = true) (hx : isTup x = false ∨ cellIn C t = true) : PS X (.Assign [t] x pos) (tS G lo W (exec Γ lo (.asg (.tup l) e))) := by
  have hpg := pg_of L _ _ hg
  have hpe := (sndE _ _ X G C lo W L tk he).e
  cases t with
  | Tuple ts k p =>
    refine (L2.ps_asg hpe hpg ?_ ?_ rfl).weak fun D σ H q => asg_asks (tg := .tup l) L.K D σ H (by simp only [exec] at q; exact q)
    · cases x <;> rfl
    · rcases hx with hx | hx
      · cases x <;> first | rfl | (simp [isTup] at hx)
      · exact not_swapped L.sc.symm hx
  | _ => simp [chkG] at hg
end

section
variable {X : Cx} {G : Ctx} {Γ : Gam} {C : CC} {lo : Nat} {W : L2.WX} {pos : Pos}
/-- raise X(..) -/
theorem s_raise (L : Lk X G Γ C) (tk : L2.Takes X W) {c : Nat} {n : String} {x m : Str} {j p p2 pos2} (hc : C.cnm c = some n) (hx : x = Str.ofString n) (hs : sane x = true) (hg : isGl C.sc x = true) :
    PS X (.Raise (some (.Call (.Name x p) [.Constant (.str m) j p2] [] pos2)) none pos) (tS G lo W (exec Γ lo (.raise c))) := by
  have E := L.exc c n hc
  refine (L2.ps_raise L.calm tk (L2.pmk_own PySem.F.excBase_ValueError E.x (hx ▸ E.m) E.k (L2.raises_own E.b E.t) (L.glo hg) (sane_d hs).1)).weak fun D σ H ⟨ms, ρ, st, hl, S, EO, q⟩ => ?_
  simp only [exec] at q
  exact q ms H σ Ext.refl S EO
/-! ### places -/
theorem pset_or {t t' : L2.TSet} (h : L2.PSet X t) (h' : L2.PSet X t') : L2.PSet X (fun o i v H Q => t o i v H Q ∨ t' o i v H Q) := fun pins s σ H o i v ov iv u Q I r1 r2 r3 q => by
  rcases q with q | q
  · exact h pins s σ H o i v ov iv u Q I r1 r2 r3 q
  · exact h' pins s σ H o i v ov iv u Q I r1 r2 r3 q
theorem wr_dK {ms : List Addr} {st : Sto} {H : Hp} {i : Nat} {a : Addr} {ys zs : List (DK × PV)} {l : List (L2.Key × V)} {r : PV} {u : V} {Q : VK} {E : Nat → Hp → Prop} (S : SOk G ms st H) (hi : st[i]? = some (.dct false ys)) (ha : ms[i]? = some a) (rz : RepK G ms st H zs l) (rr : Rep G ms st H r u)
    (h : Res G (Rep G) lo ms st H (wr lo i (.dct false zs) r st) Q E) : Q u (upd H a (.dK l)) := by
  unfold wr at h
  split at h
  · rename_i hlo
    have c := put_carry (o' := .dct false zs) (w := .dK l) S hi (by simp) ha
    exact h ms _ u (put_ext S hi (by simp) ha hlo) (S.put hi (by simp) ha ⟨l, upd_same, RepK.carry c _ _ rz⟩) (Rep.carry c _ _ rr)
  · exact h.elim
theorem wr_dT {ms : List Addr} {st : Sto} {H : Hp} {i : Nat} {a : Addr} {ys zs : List (DK × PV)} {l : List (List L2.Key × V)} {r : PV} {u : V} {Q : VK} {E : Nat → Hp → Prop} (S : SOk G ms st H) (hi : st[i]? = some (.dct true ys)) (ha : ms[i]? = some a) (rz : RepT G ms st H zs l) (rr : Rep G ms st H r u)
    (h : Res G (Rep G) lo ms st H (wr lo i (.dct true zs) r st) Q E) : Q u (upd H a (.dT l)) := by
  unfold wr at h
  split at h
  · rename_i hlo
    have c := put_carry (o' := .dct true zs) (w := .dT l) S hi (by simp) ha
    exact h ms _ u (put_ext S hi (by simp) ha hlo) (S.put hi (by simp) ha ⟨l, upd_same, RepT.carry c _ _ rz⟩) (Rep.carry c _ _ rr)
  · exact h.elim
theorem RepT.length {ms : List Addr} {st : Sto} {H : Hp} : ∀ {kvs : List (DK × PV)} {l : List (List L2.Key × V)}, RepT G ms st H kvs l → l.length = kvs.length
  | [], l, h => by simp only [RepT] at h; subst h; rfl
  | (k, d) :: r, l, h => by
    simp only [RepT] at h
    obtain ⟨ka, v, l', _, rfl, _, h2⟩ := h
    rw [List.length_cons, List.length_cons, RepT.length h2]
/-- what a store to a place asks -/
theorem setIdx_asks {ms : List Addr} {st : Sto} {H : Hp} {y z x : PV} {uy uz ux : V} {Q : Hp → Prop} {E : Nat → Hp → Prop} (S : SOk G ms st H) (ry : Rep G ms st H y uy) (rz : Rep G ms st H z uz) (rx : Rep G ms st H x ux)
    (h : Res G (Rep G) lo ms st H (setIdx lo y z x st) (fun _ H' => Q H') E) : L2.rSetL uy uz ux H Q ∨ L2.rSetD uy uz ux H Q := by
  unfold setIdx at h
  split at h
  · rename_i j
    simp only [Rep] at ry
    obtain ⟨a, rfl, ha⟩ := ry
    split at h
    · rename_i xs hs
      obtain ⟨vs, q1, q2⟩ := S.obj j _ a hs ha
      split at h
      · rename_i k
        split at h
        · rename_i n hn
          simp only [Rep] at rz
          subst rz
          refine .inl ⟨a, vs, k, n, rfl, rfl, q1, by rw [RepL.length _ _ q2]; exact hn, ?_⟩
          exact wr_lst (Q := fun _ H' => Q H') (u := .non) S hs ha (RepL.set _ _ _ _ _ q2 rx) (by simp only [Rep]) h
        · exact h.elim
      · exact h.elim
    · rename_i t kvs hs
      split at h
      · rename_i k hk
        split at h
        · rename_i hc
          obtain ⟨ht, hlen⟩ := hc
          rcases keyOf_cases S rz hk with ⟨ka, rfl, rfl⟩ | ⟨ks, b, rfl, rfl, hf⟩
          · cases t with
            | true => simp [isT] at ht
            | false =>
              obtain ⟨l, q1, q2⟩ := S.obj j _ a hs ha
              refine .inr ⟨a, _, rfl, L2.DPut.k q1 (by rw [RepK.length q2]; exact hlen), ?_⟩
              exact wr_dK (Q := fun _ H' => Q H') (u := .non) S hs ha (putK_ok rx q2) (by simp only [Rep]) h
          · cases t with
            | false => simp [isT] at ht
            | true =>
              obtain ⟨l, q1, q2⟩ := S.obj j _ a hs ha
              refine .inr ⟨a, _, rfl, L2.DPut.t q1 hf (by rw [RepT.length q2]; exact hlen), ?_⟩
              exact wr_dT (Q := fun _ H' => Q H') (u := .non) S hs ha (putT_ok rx q2) (by simp only [Rep]) h
        · exact h.elim
      · exact h.elim
    · exact h.elim
  · exact h.elim
theorem s_setItem (L : Lk X G Γ C) (tk : L2.Takes X W) {o i v : ME} {eo ei x : Expr} {p2 : Pos} (ho : chk C o eo = true) (hi : chk C i ei = true) (hv : chk C v x = true) (hs : isSlice ei = false) (hx : isComp x = false) :
    PS X (.Assign [.Subscript eo ei p2] x pos) (tS G lo W (exec Γ lo (.setItem o i v))) := by
  have hu := L.hu
  have e1 := (sndE o eo X G C lo W L tk ho).e
  have e2 := (sndE i ei X G C lo W L tk hi).e
  have e3 := (sndE v x X G C lo W L tk hv).e
  have hg := L2.pg_sub (pos := p2) e1 e2 (pset_or (L2.set_list (X := X)) (L2.set_dict (X := X) (by omega))) (by intro _; cases ei <;> first | rfl | (simp [isSlice] at hs))
  refine (L2.ps_asg (pos := pos) e3 hg (by cases x <;> first | rfl | (simp [isComp] at hx)) (by cases x <;> rfl) rfl).weak fun D σ H ⟨ms, ρ, st, hl, S, E, q⟩ => ?_
  simp only [exec] at q
  refine ⟨ms, ρ, st, hl, S, E, q.then1 (rep := Rep G) E fun xv st1 ms1 H1 ux g1 S1 r1 q1 => ?_⟩
  have hl1 := g1.le S S1 hl
  have E1 := E.ext g1
  refine ⟨ms1, ρ, st1, hl1, S1, E1, q1.then1 (rep := Rep G) E1 fun yv st2 ms2 H2 uy g2 S2 r2 q2 => ?_⟩
  have hl2 := g2.le S1 S2 hl1
  have E2 := E1.ext g2
  refine ⟨ms2, ρ, st2, hl2, S2, E2, q2.then1 (rep := Rep G) E2 fun zv st3 ms3 H3 uz g3 S3 r3 q3 => ?_⟩
  have E3 := E2.ext g3
  exact setIdx_asks S3 (Rep.ext g3 _ _ r2) r3 (Rep.ext g3 _ _ (Rep.ext g2 _ _ r1)) (q3.then1 (rep := Rep G) (Q1 := fun _ H' => D.nx σ H') E3 fun _ st4 ms4 H4 _ g4 S4 _ q4 => q4.nx S4 (E3.ext g4))
theorem swap_names {env : PySem.Env} {line : Nat} : ∀ {ts : List Expr} {is : List Nat}, C.sc = env.scope → parNames C line is ts = true →
    ∃ xs : List Str, ts.filterMap (fun (e : Expr) => match e with
      | .Name id pos => if (env.kindOf id == some .local && pos.line == line) = true then some id else none
      | _ => none) = xs ∧ xs.length = ts.length ∧ is.map (fun i => C.N[i]?) = xs.map some
  | [], [], hc, h => ⟨[], rfl, rfl, rfl⟩
  | [], _ :: _, hc, h => by simp [parNames] at h
  | e :: ts, [], hc, h => by cases e <;> simp [parNames] at h
  | e :: ts, i :: is, hc, h => by
    cases e with
    | Name x p =>
      simp only [parNames, Bool.and_eq_true, decide_eq_true_eq] at h
      obtain ⟨⟨⟨⟨h1, h2⟩, h3⟩, h4⟩, h5⟩ := h
      obtain ⟨xs, q1, q2, q3⟩ := swap_names hc h5
      refine ⟨x :: xs, ?_, by simp [q2], by simp [h1, q3]⟩
      have e : (env.kindOf x == some NameKind.local && p.line == line) = true := by
        rw [Bool.and_eq_true]
        refine ⟨?_, h4⟩
        have : env.kindOf x = some .local := by
          show env.scope.names.lookup x = some .local
          rw [← hc]
          exact h3
        rw [this]
        rfl
      rw [List.filterMap_cons]
      simp only [e, if_true]
      rw [q1]
    | _ => simp [parNames] at h
theorem swapped {env : PySem.Env} {ts vs : List Expr} {is : List Nat} {k k2 p p2} (hb : env.blockKind = .function) (hc : C.sc = env.scope) (hN : C.N.Nodup) (hp : parNames C (lineOf ts) is ts = true) (hn : is.Nodup) (hl : is.length = 2 ∨ is.length = 3) (hv : vs.length = ts.length) (hs : noStar vs = true)
    (hf : vs.all (PySem.foldedForSure 8) = false) (hcc : vs.all (PySem.constantsAlone 8) = false) :
    ∃ xs : List Str, swappedStores [.Tuple ts k p] (.Tuple vs k2 p2) env = pure (some xs) ∧ xs.length = is.length ∧ is.map (fun i => C.N[i]?) = xs.map some := by
  have hline : ((ts.head?.map (·.pos.line)).getD 0) = lineOf ts := by
    cases ts with
    | nil => rfl
    | cons e ts =>
      cases is with
      | nil => cases e <;> simp [parNames] at hp
      | cons i is =>
        cases e with
        | Name x p => rfl
        | _ => simp [parNames] at hp
  obtain ⟨xs, q1, q2, q3⟩ := swap_names hc hp
  have hli : xs.length = is.length := by
    have := congrArg List.length q3
    simpa using this.symm
  have nd : xs.Nodup := by
    rw [List.nodup_iff_pairwise_ne, List.pairwise_iff_getElem]
    intro i j hi hj hij e
    have hi' : i < is.length := by omega
    have hj' : j < is.length := by omega
    have g : ∀ m (hm : m < is.length), C.N[is[m]]? = some (xs[m]'(by omega)) := fun m hm => by
      have := congrArg (fun l => l[m]?) q3
      simp [hm, show m < xs.length by omega] at this
      exact this
    have a1 := g i hi'
    have a2 := g j hj'
    rw [e, ← a2] at a1
    have hlt := (List.getElem?_eq_some_iff.mp (a1.trans a2)).1
    have e2 := (List.getElem?_inj hlt hN).mp a1
    have e3 : is[i]? = is[j]? := (List.getElem?_eq_getElem hi').trans ((congrArg some e2).trans (List.getElem?_eq_getElem hj').symm)
    have := (List.getElem?_inj hi' hn).mp e3
    omega
  have ed : xs.eraseDups.length = xs.length := by
    rcases hl with hl | hl
    · match xs, hli.trans hl, nd with
      | [x, y], _, nd =>
        have h1 : ¬ x = y := by simpa using nd
        have h2 : (y == x) = false := by simp [Ne.symm h1]
        simp [List.eraseDups_cons, h2]
    · match xs, hli.trans hl, nd with
      | [x, y, z], _, nd =>
        simp at nd
        have h2 : (y == x) = false := by simp [Ne.symm nd.1.1]
        have h3 : (z == x) = false := by simp [Ne.symm nd.1.2]
        have h4 : (z == y) = false := by simp [Ne.symm nd.2]
        simp [List.eraseDups_cons, h2, h3, h4]
  refine ⟨xs, ?_, hli, q3⟩
  have htl : ts.length = 2 ∨ ts.length = 3 := by omega
  unfold swappedStores
  simp only
  rw [hline]
  generalize hx : List.filterMap _ ts = ys
  have ey : ys = xs := hx.symm.trans q1
  rw [ey]
  have st : (vs.any fun | .Starred .. => true | _ => false) = false := by
    unfold noStar at hs
    rw [List.all_eq_true] at hs
    rw [List.any_eq_false]
    intro v hv
    have := hs v hv
    cases v <;> simp at this ⊢
  have c1 : (!(ts.length == 2 || ts.length == 3) || vs.length != ts.length || env.blockKind != .function) = false := by
    rw [hb, hv]
    rcases htl with h | h <;> simp [h]
  rw [c1]
  generalize hst : vs.any _ = bs
  have eb : bs = false := hst.symm.trans st
  rw [eb, hf, hcc, ed, q2]
  simp
theorem par_cons {line : Nat} {i : Nat} {is : List Nat} {ts : List Expr} (h : parNames C line (i :: is) ts = true) : ∃ x p r, ts = .Name x p :: r ∧ C.N[i]? = some x ∧ C.sc.names.lookup x = some .local ∧ parNames C line is r = true := by
  cases ts with
  | nil => simp [parNames] at h
  | cons e r =>
    cases e with
    | Name x p =>
      simp only [parNames, Bool.and_eq_true, decide_eq_true_eq] at h
      exact ⟨x, p, r, rfl, h.1.1.1.1, h.1.1.2, h.2⟩
    | _ => simp [parNames] at h
theorem par_nil {line : Nat} {ts : List Expr} (h : parNames C line [] ts = true) : ts = [] := by
  cases ts with
  | nil => rfl
  | cons e r => cases e <;> simp [parNames] at h
theorem s_asgN (L : Lk X G Γ C) (tk : L2.Takes X W) (hb : X.env.blockKind = .function) {is : List Nat} {es : MEs} {ts vs : List Expr} {k k2 : Nat} {p p2 : Pos} (hp : parNames C (lineOf ts) is ts = true) (he : chks C es vs = true) (hn : is.Nodup) (hl : is.length = 2 ∨ is.length = 3) (hv : vs.length = ts.length) (hs : noStar vs = true)
    (hf : vs.all (PySem.foldedForSure 8) = false) (hcc : vs.all (PySem.constantsAlone 8) = false) : PS X (.Assign [.Tuple ts k p] (.Tuple vs k2 p2) pos) (tS G lo W (exec Γ lo (.asgN is es))) := by
  have ea := sndEs es vs X G C lo W L tk he
  obtain ⟨xs, w1, w2, w3⟩ := swapped (k := k) (k2 := k2) (p := p) (p2 := p2) hb L.sc.symm L.nd hp hn hl hv hs hf hcc
  have hN : X.N.Nodup := by rw [L.N]; exact L.nd
  rcases hl with hl | hl
  · obtain ⟨i, j, rfl⟩ : ∃ i j, is = [i, j] := by
      match is, hl with
      | [i, j], _ => exact ⟨i, j, rfl⟩
    obtain ⟨x, px, r, rfl, g1, g2, hp⟩ := par_cons hp
    obtain ⟨y, py, r, rfl, g3, g4, hp⟩ := par_cons hp
    cases par_nil hp
    obtain ⟨a, b, rfl⟩ : ∃ a b, vs = [a, b] := by
      match vs, hv with
      | [a, b], _ => exact ⟨a, b, rfl⟩
    obtain ⟨x', y', rfl⟩ : ∃ x' y', xs = [x', y'] := by
      match xs, w2 with
      | [x', y'], _ => exact ⟨x', y', rfl⟩
    simp only [List.map_cons, List.map_nil, List.cons.injEq, and_true] at w3
    obtain ⟨w4, w5⟩ := w3
    rw [g1] at w4; rw [g3] at w5
    cases w4; cases w5
    have hij : i ≠ j := by simpa using hn
    refine (L2.ps_par (pos := pos) L.calm hN (by rw [L.N]; exact g1) (by rw [L.N]; exact g3) hij (by rw [L.sc]; exact g2) (by rw [L.sc]; exact g4) ea w1 rfl).weak fun D σ H ⟨ms, ρ, st, hl, S, E, q⟩ => ?_
    simp only [exec] at q
    refine ⟨ms, ρ, st, hl, S, E, q.then1 (rep := RepL G) E fun ds st1 ms1 H1 us e1 S1 r1 q1 => ?_⟩
    match ds, q1 with
    | [d1, d2], q1 =>
      obtain ⟨v, w, rfl, r2, r3⟩ := r1.two
      exact ⟨v, w, rfl, q1.nx S1 (((E.ext e1).set r2).set r3)⟩
    | [], q1 => exact q1.elim
    | [_], q1 => exact q1.elim
    | _ :: _ :: _ :: _, q1 => exact q1.elim
  · obtain ⟨i, j, l, rfl⟩ : ∃ i j l, is = [i, j, l] := by
      match is, hl with
      | [i, j, l], _ => exact ⟨i, j, l, rfl⟩
    obtain ⟨x, px, r, rfl, g1, g2, hp⟩ := par_cons hp
    obtain ⟨y, py, r, rfl, g3, g4, hp⟩ := par_cons hp
    obtain ⟨z, pz, r, rfl, g5, g6, hp⟩ := par_cons hp
    cases par_nil hp
    obtain ⟨a, b, c, rfl⟩ : ∃ a b c, vs = [a, b, c] := by
      match vs, hv with
      | [a, b, c], _ => exact ⟨a, b, c, rfl⟩
    obtain ⟨x', y', z', rfl⟩ : ∃ x' y' z', xs = [x', y', z'] := by
      match xs, w2 with
      | [x', y', z'], _ => exact ⟨x', y', z', rfl⟩
    simp only [List.map_cons, List.map_nil, List.cons.injEq, and_true] at w3
    obtain ⟨w4, w5, w6⟩ := w3
    rw [g1] at w4; rw [g3] at w5; rw [g5] at w6
    cases w4; cases w5; cases w6
    simp only [List.nodup_cons, List.mem_cons, List.not_mem_nil, or_false, not_or, not_false_eq_true, List.nodup_nil, and_true] at hn
    refine (L2.ps_par3 (pos := pos) L.calm hN (by rw [L.N]; exact g1) (by rw [L.N]; exact g3) (by rw [L.N]; exact g5) hn.1.1 hn.1.2 hn.2 (by rw [L.sc]; exact g2) (by rw [L.sc]; exact g4) (by rw [L.sc]; exact g6) ea w1 rfl).weak fun D σ H ⟨ms, ρ, st, hl, S, E, q⟩ => ?_
    simp only [exec] at q
    refine ⟨ms, ρ, st, hl, S, E, q.then1 (rep := RepL G) E fun ds st1 ms1 H1 us e1 S1 r1 q1 => ?_⟩
    match ds, q1 with
    | [d1, d2, d3], q1 =>
      simp only [RepL] at r1
      obtain ⟨u, _, rfl, r2, v, _, rfl, r3, w, _, rfl, r4, rfl⟩ := r1
      exact ⟨u, v, w, rfl, q1.nx S1 ((((E.ext e1).set r2).set r3).set r4)⟩
    | [], q1 => exact q1.elim
    | [_], q1 => exact q1.elim
    | [_, _], q1 => exact q1.elim
    | _ :: _ :: _ :: _ :: _, q1 => exact q1.elim
end
section
variable {Γ : Gam}
mutual
theorem sndS (m : MS) (e : Stmt) (X : Cx) (G : Ctx) (C : CC) (lo : Nat) (W : L2.WX) (L : Lk X G Γ C) (tk : L2.Takes X W) (hp : PassesOwn (model X.prog X.w) X.A X.env X.xe) (hb : X.env.blockKind = .function) (h : chkS C m e = true) : PS X e (tS G lo W (exec Γ lo m)) := by
  match m with
  | .asg (.name i) em =>
    cases e with
    | Assign ts x pos =>
      match ts, h with
      | [t], h =>
        simp only [chkS, Bool.and_eq_true] at h
        exact s_asgName L tk h.1 h.2
      | [], h => simp [chkS] at h
      | _ :: _ :: _, h => simp [chkS] at h
    | _ => simp [chkS] at h
  | .asg (.tup l) em =>
    cases e with
    | Assign ts x pos =>
      match ts, h with
      | [t], h =>
        simp only [chkS, Bool.and_eq_true, Bool.or_eq_true, Bool.not_eq_true'] at h
        exact s_asgTup L tk h.1.1 h.1.2 h.2
      | [], h => simp [chkS] at h
      | _ :: _ :: _, h => simp [chkS] at h
    | _ => simp [chkS] at h
  | .expr em =>
    cases e with
    | Expr x pos =>
      simp only [chkS, Bool.and_eq_true, Bool.not_eq_true'] at h
      have := s_expr (pos := pos) (sndE em x X G C lo W L tk h.1).e h.2
      simp only [exec]
      exact this
    | _ => simp [chkS] at h
  | .ite c a b =>
    cases e with
    | If x p q pos =>
      simp only [chkS, Bool.and_eq_true] at h
      have := s_if (pos := pos) (sndE c x X G C lo W L tk h.1.1).t (sndSs a p X G C lo W L tk hp hb h.1.2) (sndSs b q X G C lo W L tk hp hb h.2)
      simp only [exec]
      exact this
    | _ => simp [chkS] at h
  | .whl n c b =>
    cases e with
    | While x p q pos =>
      cases q with
      | cons _ _ => simp [chkS] at h
      | nil =>
        simp only [chkS, Bool.and_eq_true] at h
        have := s_while (pos := pos) (n := n) hp (sndE c x X G C lo W L tk h.1).t (sndSs b p X G C lo W L tk hp hb h.2)
        simp only [exec]
        exact this
    | _ => simp [chkS] at h
  | .for_ tg it b =>
    cases e with
    | For t x p q pos =>
      cases q with
      | cons _ _ => simp [chkS] at h
      | nil =>
        simp only [chkS, Bool.and_eq_true] at h
        have hi := sndI it t x X G C lo W L tk h.1.2
        have := s_for (pos := pos) L hp hi.1 hi.2 (pg_of L _ _ h.1.1) (sndSs b p X G C lo W L tk hp hb h.2)
        simp only [exec]
        exact this
    | _ => simp [chkS] at h
  | .ret em =>
    cases e with
    | Return v pos =>
      cases v with
      | none => simp [chkS] at h
      | some x =>
        simp only [chkS] at h
        have := s_ret (pos := pos) (sndE em x X G C lo W L tk h).e
        simp only [exec]
        exact this
    | _ => simp [chkS] at h
  | .retN =>
    cases e with
    | Return v pos =>
      cases v with
      | none => simpa only [exec] using (s_retN (X := X) (G := G) (lo := lo) (W := W) (pos := pos))
      | some x => simp [chkS] at h
    | _ => simp [chkS] at h
  | .pass =>
    cases e with
    | Pass pos => simpa only [exec] using (s_pass (X := X) (G := G) (lo := lo) (W := W) (pos := pos))
    | _ => simp [chkS] at h
  | .asgN is es =>
    cases e with
    | Assign ts x pos =>
      simp only [chkS] at h
      split at h
      · rename_i q hq
        obtain ⟨k, p, k2, p2, rfl, rfl⟩ := parOf_eq hq
        simp only [Bool.and_eq_true, Bool.not_eq_true', Bool.or_eq_true, beq_iff_eq, decide_eq_true_eq] at h
        obtain ⟨⟨⟨⟨⟨⟨⟨h1, h2⟩, h3⟩, h4⟩, h5⟩, h6⟩, h7⟩, h8⟩ := h
        exact s_asgN L tk hb h1 h2 h3 h4 h5 h6 h7 h8
      · cases h
    | _ => simp [chkS] at h
  | .setItem o i v =>
    cases e with
    | Assign ts x pos =>
      simp only [chkS] at h
      split at h
      · rename_i q hq
        obtain ⟨p, rfl⟩ := subOf_eq hq
        simp only [Bool.and_eq_true, Bool.not_eq_true'] at h
        exact s_setItem L tk h.1.1.1.1 h.1.1.1.2 h.1.1.2 h.1.2 h.2
      · cases h
    | _ => simp [chkS] at h
  | .setAttr _ _ _ => simp [chkS] at h
  | .raise c =>
    cases e with
    | Raise a b pos =>
      simp only [chkS] at h
      split at h
      · rename_i x hx
        obtain ⟨p, m, j, p2, p3, rfl, rfl⟩ := raiseOf_eq hx
        simp only [Bool.and_eq_true] at h
        obtain ⟨⟨h1, h2⟩, h3⟩ := h
        split at h3
        · rename_i n hc
          exact s_raise L tk hc (of_decide_eq_true h3) h1 h2
        · cases h3
      · cases h
    | _ => simp [chkS] at h
  | .tryAs _ _ _ _ => simp [chkS] at h
  | .tryOnly _ _ _ => simp [chkS] at h
theorem sndSs (m : MSs) (es : List Stmt) (X : Cx) (G : Ctx) (C : CC) (lo : Nat) (W : L2.WX) (L : Lk X G Γ C) (tk : L2.Takes X W) (hp : PassesOwn (model X.prog X.w) X.A X.env X.xe) (hb : X.env.blockKind = .function) (h : chkSs C m es = true) : PSs X es (tS G lo W (execs Γ lo m)) := by
  match m, h with
  | .nil, h =>
    cases es with
    | nil => exact s_nil
    | cons _ _ => simp [chkSs] at h
  | .frz i r, h =>
    simp only [chkSs] at h
    have := s_frz (i := i) (sndSs r es X G C lo W L tk hp hb h)
    simpa only [execs] using this
  | .cons s r, h =>
    cases es with
    | nil => simp [chkSs] at h
    | cons e es =>
      simp only [chkSs, Bool.and_eq_true] at h
      have := s_cons (sndS s e X G C lo W L tk hp hb h.1) (sndSs r es X G C lo W L tk hp hb h.2)
      simpa only [execs] using this
end
end
end Z

set_option maxHeartbeats 200000
set_option maxRecDepth 512
set_option maxHeartbeats 4000000
/-! A def holds its promise. -/
namespace Z
open PySem PySem.Spec PyProof.Rows
open L2 (V HO Hp SqL SqT Rd upd upd_same upd_ne ne_of ne_of_none Cx PE PT PS PSs PA PG PGs PI PW Inv VK TE TA TS TT TG TGs RelV Vals Dp DpAll)

section
variable {G : Ctx} {lo : Nat} {ms ms' : List Addr} {st st' : Sto} {H H' : Hp}
/-- back to the store of the entry -/
structure Back (G : Ctx) (ms : List Addr) (st : Sto) (ms' : List Addr) (st' : Sto) (H' : Hp) : Prop where
  pre : ms <+: ms'
  fr : ∀ a, Free G.rsv ms' st' a → Free G.rsv ms st a
mutual
theorem Rep.back (b : Back G ms st ms' st' H') : ∀ (d : PV) (v : V), boxLt ms.length d = true → Rep G ms' st' H' d v → Rep G ms st H' d v
  | .none, v, _, h => by simpa only [Rep] using h
  | .bool _, v, _, h => by simpa only [Rep] using h
  | .int i, v, _, h => by simpa only [Rep] using h
  | .str s, v, _, h => by simpa only [Rep] using h
  | .tup ds, v, z, h => by
    simp only [Rep] at h ⊢
    simp only [boxLt] at z
    obtain ⟨a, vs, e1, e2, e3⟩ := h
    exact ⟨a, vs, e1, e2, RepL.back b ds vs z e3⟩
  | .lst ds, v, z, h => by
    simp only [Rep] at h ⊢
    simp only [boxLt] at z
    obtain ⟨a, vs, e1, e2, e3⟩ := h
    exact ⟨a, vs, e1, ⟨e2.1, b.fr _ e2.2⟩, RepL.back b ds vs z e3⟩
  | .dct false kvs, v, z, h => by
    simp only [Rep] at h ⊢
    simp only [boxLt] at z
    obtain ⟨a, l, e1, f, r, h⟩ := h
    exact ⟨a, l, e1, b.fr _ f, r, RepK.back b kvs l z h⟩
  | .dct true kvs, v, z, h => by
    simp only [Rep] at h ⊢
    simp only [boxLt] at z
    obtain ⟨a, l, e1, f, r, h⟩ := h
    exact ⟨a, l, e1, b.fr _ f, r, RepT.back b kvs l z h⟩
  | .box i, v, z, h => by
    simp only [Rep] at h ⊢
    simp only [boxLt, decide_eq_true_eq] at z
    obtain ⟨a, e1, e2⟩ := h
    exact ⟨a, e1, pre_back b.pre z e2⟩
  | .exc k, v, _, h => by
    simp only [Rep] at h ⊢
    obtain ⟨a, e1, e2, f⟩ := h
    exact ⟨a, e1, e2, b.fr _ f⟩
  | .kls ns, v, _, h => by
    simp only [Rep] at h ⊢
    obtain ⟨a, e1, e2⟩ := h
    exact ⟨a, e1, e2.imp (fun e2 => ⟨e2.1, b.fr _ e2.2⟩) id⟩
theorem RepL.back (b : Back G ms st ms' st' H') : ∀ (ds : List PV) (vs : List V), boxLtL ms.length ds = true → RepL G ms' st' H' ds vs → RepL G ms st H' ds vs
  | [], vs, _, h => by simpa only [RepL] using h
  | d :: ds, vs, z, h => by
    simp only [RepL] at h ⊢
    simp only [boxLtL, Bool.and_eq_true] at z
    obtain ⟨v, r, e1, e2, e3⟩ := h
    exact ⟨v, r, e1, Rep.back b d v z.1 e2, RepL.back b ds r z.2 e3⟩
theorem RepK.back (b : Back G ms st ms' st' H') : ∀ (ds : List (DK × PV)) (vs : List (L2.Key × V)), boxLtD ms.length ds = true → RepK G ms' st' H' ds vs → RepK G ms st H' ds vs
  | [], vs, _, h => by simpa only [RepK] using h
  | (k, d) :: ds, vs, z, h => by
    simp only [RepK] at h ⊢
    simp only [boxLtD, Bool.and_eq_true] at z
    obtain ⟨ka, v, l', e1, e2, e3, e4⟩ := h
    exact ⟨ka, v, l', e1, e2, Rep.back b d v z.1 e3, RepK.back b ds l' z.2 e4⟩
theorem RepT.back (b : Back G ms st ms' st' H') : ∀ (ds : List (DK × PV)) (vs : List (List L2.Key × V)), boxLtD ms.length ds = true → RepT G ms' st' H' ds vs → RepT G ms st H' ds vs
  | [], vs, _, h => by simpa only [RepT] using h
  | (k, d) :: ds, vs, z, h => by
    simp only [RepT] at h ⊢
    simp only [boxLtD, Bool.and_eq_true] at z
    obtain ⟨ka, v, l', e1, e2, e3, e4⟩ := h
    exact ⟨ka, v, l', e1, e2, Rep.back b d v z.1 e3, RepT.back b ds l' z.2 e4⟩
end
mutual
theorem Rep.boxes : ∀ (d : PV) (v : V), Rep G ms st H d v → boxLt ms.length d = true
  | .none, v, h => rfl
  | .bool _, v, h => rfl
  | .int i, v, h => rfl
  | .str s, v, h => rfl
  | .tup ds, v, h => by
    simp only [Rep] at h
    simp only [boxLt]
    obtain ⟨a, vs, e1, e2, e3⟩ := h
    exact RepL.boxes ds vs e3
  | .lst ds, v, h => by
    simp only [Rep] at h
    simp only [boxLt]
    obtain ⟨a, vs, e1, e2, e3⟩ := h
    exact RepL.boxes ds vs e3
  | .dct false kvs, v, h => by
    simp only [Rep] at h
    simp only [boxLt]
    obtain ⟨a, l, e1, f, r, h⟩ := h
    exact RepK.boxes kvs l h
  | .dct true kvs, v, h => by
    simp only [Rep] at h
    simp only [boxLt]
    obtain ⟨a, l, e1, f, r, h⟩ := h
    exact RepT.boxes kvs l h
  | .box i, v, h => by
    simp only [Rep] at h
    simp only [boxLt, decide_eq_true_eq]
    obtain ⟨a, e1, e2⟩ := h
    exact (List.getElem?_eq_some_iff.mp e2).1
  | .exc k, v, h => rfl
  | .kls k, v, h => rfl
theorem RepL.boxes : ∀ (ds : List PV) (vs : List V), RepL G ms st H ds vs → boxLtL ms.length ds = true
  | [], vs, h => rfl
  | d :: ds, vs, h => by
    simp only [RepL] at h
    simp only [boxLtL, Bool.and_eq_true]
    obtain ⟨v, r, e1, e2, e3⟩ := h
    exact ⟨Rep.boxes d v e2, RepL.boxes ds r e3⟩
theorem RepK.boxes : ∀ (ds : List (DK × PV)) (vs : List (L2.Key × V)), RepK G ms st H ds vs → boxLtD ms.length ds = true
  | [], vs, h => rfl
  | (k, d) :: ds, vs, h => by
    simp only [RepK] at h
    simp only [boxLtD, Bool.and_eq_true]
    obtain ⟨ka, v, l', e1, e2, e3, e4⟩ := h
    exact ⟨Rep.boxes d v e3, RepK.boxes ds l' e4⟩
theorem RepT.boxes : ∀ (ds : List (DK × PV)) (vs : List (List L2.Key × V)), RepT G ms st H ds vs → boxLtD ms.length ds = true
  | [], vs, h => rfl
  | (k, d) :: ds, vs, h => by
    simp only [RepT] at h
    simp only [boxLtD, Bool.and_eq_true]
    obtain ⟨ka, v, l', e1, e2, e3, e4⟩ := h
    exact ⟨Rep.boxes d v e3, RepT.boxes ds l' e4⟩
end
def boxLtF (n : Nat) : List (String × PV) → Bool
  | [] => true
  | (_, x) :: xs => boxLt n x && boxLtF n xs
theorem RepF.boxes : ∀ (ds : List (String × PV)) (vs : List (Str × V)), RepF G ms st H ds vs → boxLtF ms.length ds = true
  | [], vs, h => rfl
  | (k, d) :: ds, vs, h => by
    simp only [RepF] at h
    simp only [boxLtF, Bool.and_eq_true]
    obtain ⟨v, l', e2, e3, e4⟩ := h
    exact ⟨Rep.boxes d v e3, RepF.boxes ds l' e4⟩
theorem RepF.back (b : Back G ms st ms' st' H') : ∀ (ds : List (String × PV)) (vs : List (Str × V)), boxLtF ms.length ds = true → RepF G ms' st' H' ds vs → RepF G ms st H' ds vs
  | [], vs, _, h => by simpa only [RepF] using h
  | (k, d) :: ds, vs, z, h => by
    simp only [RepF] at h ⊢
    simp only [boxLtF, Bool.and_eq_true] at z
    obtain ⟨v, l', e2, e3, e4⟩ := h
    exact ⟨v, l', e2, Rep.back b d v z.1 e3, RepF.back b ds l' z.2 e4⟩

theorem pure_back (S : SOk G ms st H) (e : Ext G.rsv st.length ms st H ms' st' H') (S' : SOk G ms' st' H') : Back G ms st ms' st' H' ∧ Ext G.rsv lo ms st H ms st H' ∧ SOk G ms st H' := by
  have low : ∀ i, i < st.length → st'[i]? = st[i]? := e.low
  have al : ∀ i, alive st i → alive st' i := fun i ⟨o, h1, h2⟩ => ⟨o, (low i (List.getElem?_eq_some_iff.mp h1).1).trans h1, h2⟩
  have b : Back G ms st ms' st' H' := ⟨e.pre, fun a f => ⟨f.1, fun i h q => f.2 i (al i h) (pre_get e.pre q)⟩⟩
  refine ⟨b, ⟨List.prefix_refl _, e.keep, e.tup, e.dom, fun _ _ h => h, fun i a hi q => ?_, fun _ _ => rfl, e.rsv⟩, ⟨S.len, S.inj, fun i o a h1 h2 => ?_, S.out, S'.rsv⟩⟩
  · have := (List.getElem?_eq_some_iff.mp q).1
    omega
  · have h0 := S.obj i o a h1 h2
    have h3 := S'.obj i o a ((low i (List.getElem?_eq_some_iff.mp h1).1).trans h1) (pre_get e.pre h2)
    cases o with
    | dead => trivial
    | lst xs =>
      obtain ⟨vs, q1, q2⟩ := h0
      obtain ⟨vs', q3, q4⟩ := h3
      exact ⟨vs', q3, RepL.back b _ _ (RepL.boxes _ _ q2) q4⟩
    | dct t kvs =>
      cases t with
      | false =>
        obtain ⟨vs, q1, q2⟩ := h0
        obtain ⟨vs', q3, q4⟩ := h3
        exact ⟨vs', q3, RepK.back b _ _ (RepK.boxes _ _ q2) q4⟩
      | true =>
        obtain ⟨vs, q1, q2⟩ := h0
        obtain ⟨vs', q3, q4⟩ := h3
        exact ⟨vs', q3, RepT.back b _ _ (RepT.boxes _ _ q2) q4⟩
    | inst k fs =>
      obtain ⟨dx, vs, q1, q2⟩ := h0
      obtain ⟨dx', vs', q3, q4⟩ := h3
      exact ⟨dx', vs', q3, RepF.back b _ _ (RepF.boxes _ _ q2) q4⟩

theorem EOk.start : ∀ {ds : List PV} {vs : List V} (n : Nat), RepL G ms st H ds vs → EOk G ms st H (ds.map some ++ List.replicate n none) (vs.map some ++ List.replicate n none)
  | [], vs, n, h => by
    simp only [RepL] at h
    subst h
    simp only [List.map_nil, List.nil_append]
    induction n with
    | zero => simp only [List.replicate_zero, EOk]
    | succ n ih =>
      simp only [List.replicate_succ, EOk]
      exact ⟨none, _, rfl, (fun d e => nomatch e), ih⟩
  | d :: ds, vs, n, h => by
    simp only [RepL] at h
    obtain ⟨v, r, rfl, h1, h2⟩ := h
    simp only [List.map_cons, List.cons_append, EOk]
    exact ⟨some v, _, rfl, (fun d' e => by cases e; exact ⟨v, rfl, h1⟩), EOk.start n h2⟩
end

section
variable {P : Program} {w : World} {K : PySem.W.Frag} {mg : Str → Option Value} {base : Heap}

/-- a def of the text, by its text in the small language -/
theorem fn_ok {x qual : Str} {s : Stmt} {f : Addr} {fd : FuncData} {N ps : List Str} {k : Nat} (ca : Nat → Addr) (Γ : Gam) (C : CC) (d : MD) (F : L2.Fun K x qual s f fd) (S : L2.FnScope N ps (L2.defScope s))
    (hN : C.N = N) (hsc : C.sc = L2.defScope s) (hm : chkSs C d.body (L2.defBody s) = true) (hsl : d.slots = N.length) (har : d.args = ps.length)
    (fns : ∀ f x, C.fnm f = some x → ∃ fa fd ps j, mg (Str.ofString x) = some (.ref fa) ∧ PySem.W.keepIn K (.ref fa) = true ∧ L2.Binds K fd ps [] ∧ j ≤ k ∧ L2.FnOk P w K mg base (L2.CX P w) j fa fd ps (spOf K ca (Γ.fn f)))
    (bi : ∀ n ∈ biNames, mg (Str.ofString n) = none)
    (exc : ∀ c n, C.cnm c = some n → ExcF K mg (ca c) n)
    (gl : ∀ n d, C.glb n = some d → ∃ u v, mg (Str.ofString n) = some u ∧ RelV v u ∧ (match d with | .int i => v = .int i | .str s => v = .str (toS s) | _ => False)) :
    L2.FnOk P w K mg base (L2.CX P w) (k + 1) f fd ps (spOf K ca (runFn Γ d)) := by
  have len : ∀ vs H Q E, spOf K ca (runFn Γ d) vs H Q E → vs.length = ps.length := by
    rintro vs H Q E ⟨rs, lo, ms, st, ds, hl, S, r, h⟩
    unfold runFn at h
    split at h
    · rename_i hd
      rw [RepL.length _ _ r, hd, har]
    · exact h.elim
  refine F.okX S len (fun cdv A outer s H vs Q E hr h => ?_)
  have hlen := len vs H Q E h
  obtain ⟨rs, lo, ms, st, ds, hl, SS, r, h⟩ := h
  have L : Lk (L2.cxOf (L2.CX P w) P w K mg base N qual (L2.defScope _) f cdv A outer s H E) ⟨K, ca, rs⟩ Γ C := {
    K := rfl
    N := hN.symm
    nd := hN ▸ S.nd
    sc := hsc.symm
    calm := rfl
    loc := fun x _ => .inl rfl
    room := hr.mono (Nat.zero_le _)
    fn := fun f x e => by
      obtain ⟨fa, fd, ps, j, h1, h2, h3, h4, h5⟩ := fns f x e
      exact ⟨fa, fd, ps, j, h1, h2, h3, hr.mono h4, h5⟩
    bi := bi
    exc := exc
    gl := gl }
  refine ⟨tS ⟨K, ca, rs⟩ (if d.pure then st.length else lo) (fun cls dd _ H' => E cls dd H') (execs Γ (if d.pure then st.length else lo) d.body), sndSs d.body _ _ _ C _ _ L (L2.takes_of rfl rfl rfl rfl) (L2.passes_of rfl) (by
    have hk : (L2.cxOf (L2.CX P w) P w K mg base N qual (L2.defScope _) f cdv A outer s H E).env.scope.kind = .function := S.kind
    unfold PySem.Env.blockKind
    rw [hk]
    rfl) hm, ?_⟩
  have hd : ds.length = d.args := by
    unfold runFn at h
    split at h
    · assumption
    · exact h.elim
  have hv : vs.length = d.args := by rw [hlen, har]
  have hst : L2.start N vs = vs.map some ++ List.replicate (d.slots - d.args) none := by
    unfold L2.start
    rw [hsl, hv]
  refine ⟨ms, ds.map some ++ List.replicate (d.slots - d.args) none, st, ?_, SS, ?_, ?_⟩
  · split
    · exact Nat.le_refl _
    · exact hl
  · rw [hst]
    exact EOk.start _ r
  · unfold runFn at h
    rw [if_pos hd] at h
    cases hp : d.pure with
    | false =>
      simp only [hp, Bool.false_eq_true, if_false] at h ⊢
      cases he : execs Γ lo d.body (ds.map some ++ List.replicate (d.slots - d.args) none) st with
      | nx ρ st' =>
        simp only [he, fin, Bool.false_eq_true, if_false] at h
        exact fun ms' H' σ' e S' _ => h ms' H' .non e S' (by simp only [Rep])
      | ret v st' =>
        simp only [he, fin, Bool.false_eq_true, if_false] at h
        exact fun ms' H' u e S' r => h ms' H' u e S' r
      | exc c ρ st' =>
        simp only [he] at h
        exact fun ms' H' u e S' r => h ms' H' e S'
      | bad => simp only [he] at h; exact h.elim
    | true =>
      simp only [hp, if_true] at h ⊢
      cases he : execs Γ st.length d.body (ds.map some ++ List.replicate (d.slots - d.args) none) st with
      | nx ρ st' =>
        simp only [he, fin, if_true] at h
        split at h
        · intro ms' H' σ' e S' _
          obtain ⟨b, e2, S2⟩ := pure_back (lo := lo) SS e S'
          exact h ms H' .non e2 S2 (by simp only [Rep])
        · exact h.elim
      | ret v st' =>
        simp only [he, fin, if_true] at h
        split at h
        · rename_i hb
          intro ms' H' u e S' r
          obtain ⟨b, e2, S2⟩ := pure_back (lo := lo) SS e S'
          exact h ms H' u e2 S2 (Rep.back b _ _ (by rw [SS.len]; exact hb) r)
        · exact h.elim
      | exc c ρ st' =>
        simp only [he, if_true] at h
        intro ms' H' u e S' r
        obtain ⟨b, e2, S2⟩ := pure_back (lo := lo) SS e S'
        exact h ms H' e2 S2
      | bad => simp only [he] at h; exact h.elim
end
end Z

set_option maxHeartbeats 200000
set_option maxRecDepth 512
/-! The small language by values: names hold values, also of what is changed in place; no store. -/
namespace Z

/-- how a name holds a value: a tree; a thing of its own that it may change; somebody else's thing -/
inductive Kd | tree | own | bor
  deriving DecidableEq
structure SV where
  kd : Kd
  x : PV
abbrev VEnv := List (Option SV)

inductive O (α : Type) where
  | ok (a : α) | exc (c : Nat) | bad
def O.bind {α β : Type} (r : O α) (f : α → O β) : O β := match r with
  | .ok a => f a
  | .exc c => .exc c
  | .bad => .bad
@[simp] theorem O.bind_ok {α β : Type} (a : α) (f : α → O β) : (O.ok a).bind f = f a := rfl
@[simp] theorem O.bind_exc {α β : Type} (c : Nat) (f : α → O β) : (O.exc c : O α).bind f = .exc c := rfl
@[simp] theorem O.bind_bad {α β : Type} (f : α → O β) : (O.bad : O α).bind f = .bad := rfl
@[simp] theorem O.bind_ite {α β : Type} (p : Prop) [Decidable p] (a b : O α) (f : α → O β) : (if p then a else b).bind f = if p then a.bind f else b.bind f := by split <;> rfl
def O.calm {α : Type} (r : O α) : O α := match r with
  | .exc _ => .bad
  | r => r
@[simp] theorem O.calm_ok {α : Type} (a : α) : (O.ok a).calm = .ok a := rfl
@[simp] theorem O.calm_bad {α : Type} : (O.bad : O α).calm = .bad := rfl
@[simp] theorem O.calm_exc {α : Type} (c : Nat) : (O.exc c : O α).calm = .bad := rfl
@[simp] theorem O.calm_ite {α : Type} (p : Prop) [Decidable p] (a b : O α) : (if p then a else b).calm = if p then a.calm else b.calm := by split <;> rfl
def R.val {α : Type} (r : R α) : O α := match r with
  | .ok a _ => .ok a
  | .exc c _ => .exc c
  | .bad => .bad
@[simp] theorem R.val_ok {α : Type} (a : α) (st : Sto) : (R.ok a st).val = .ok a := rfl
@[simp] theorem R.val_bad {α : Type} : (R.bad : R α).val = .bad := rfl
@[simp] theorem R.val_ite {α : Type} (p : Prop) [Decidable p] (a b : R α) : (if p then a else b).val = if p then a.val else b.val := by split <;> rfl
def oOpt {α : Type} (o : Option α) : O α := match o with
  | some a => .ok a
  | none => .bad
@[simp] theorem oOpt_some {α : Type} (a : α) : oOpt (some a) = .ok a := rfl
@[simp] theorem oOpt_none {α : Type} : oOpt (none : Option α) = .bad := rfl

/-- may stand in the store -/
def cont : PV → Bool
  | .lst _ | .dct _ _ => true
  | _ => false
/-- as a tree -/
def SV.tv (s : SV) : O PV := if s.kd = .tree then .ok s.x else if cont s.x then .bad else .ok s.x
/-- as an argument, a thing that is looked at -/
def Kd.rd : Kd → Kd
  | .own => .bor
  | k => k
def SV.rd (s : SV) : SV := ⟨s.kd.rd, s.x⟩
/-- as a name's new value -/
def SV.sv (s : SV) : O SV := match s.kd with
  | .bor => if cont s.x then .bad else .ok ⟨.tree, s.x⟩
  | k => .ok ⟨k, s.x⟩
@[simp] theorem tv_tree {x : PV} : (SV.mk .tree x).tv = .ok x := rfl
@[simp] theorem sv_tree {x : PV} : (SV.mk .tree x).sv = .ok ⟨.tree, x⟩ := rfl
@[simp] theorem sv_own {x : PV} : (SV.mk .own x).sv = .ok ⟨.own, x⟩ := rfl
@[simp] theorem rd_tree {x : PV} : (SV.mk .tree x).rd = ⟨.tree, x⟩ := rfl
@[simp] theorem rd_own {x : PV} : (SV.mk .own x).rd = ⟨.bor, x⟩ := rfl
@[simp] theorem rd_bor {x : PV} : (SV.mk .bor x).rd = ⟨.bor, x⟩ := rfl
@[simp] theorem rd_x {k : Kd} {x : PV} : (SV.mk k x).rd = ⟨k.rd, x⟩ := rfl
@[simp] theorem krd_tree : Kd.tree.rd = .tree := rfl
@[simp] theorem krd_own : Kd.own.rd = .bor := rfl
@[simp] theorem krd_bor : Kd.bor.rd = .bor := rfl
theorem tv_of {k : Kd} {x : PV} (h : cont x = false) : (SV.mk k x).tv = .ok x := by simp [SV.tv, h]
@[simp] theorem tv_int {k : Kd} {i : Int} : (SV.mk k (.int i)).tv = .ok (.int i) := tv_of rfl
@[simp] theorem tv_str {k : Kd} {i : Tx} : (SV.mk k (.str i)).tv = .ok (.str i) := tv_of rfl
@[simp] theorem tv_bool {k : Kd} {i : Bool} : (SV.mk k (.bool i)).tv = .ok (.bool i) := tv_of rfl
@[simp] theorem tv_none {k : Kd} : (SV.mk k .none).tv = .ok .none := tv_of rfl
@[simp] theorem tv_tup {k : Kd} {i : List PV} : (SV.mk k (.tup i)).tv = .ok (.tup i) := tv_of rfl
@[simp] theorem tv_kls {k : Kd} {i : List Int} : (SV.mk k (.kls i)).tv = .ok (.kls i) := tv_of rfl
theorem sv_of {k : Kd} {x : PV} (hk : k ≠ .own) (h : cont x = false) : (SV.mk k x).sv = .ok ⟨.tree, x⟩ := by
  cases k <;> simp [SV.sv, h] at hk ⊢

/-- what is made by a flagged text is the maker's own -/
def mkV (bx : Bool) (z : PV) : O SV := if bx then (match z with | .lst zs => .ok ⟨.own, .lst zs⟩ | .dct t kvs => .ok ⟨.own, .dct t kvs⟩ | _ => .bad) else .ok ⟨.tree, z⟩
@[simp] theorem mkV_f {z : PV} : mkV false z = .ok ⟨.tree, z⟩ := rfl
@[simp] theorem mkV_l {z : List PV} : mkV true (.lst z) = .ok ⟨.own, .lst z⟩ := rfl
@[simp] theorem mkV_d {t : Bool} {z : List (DK × PV)} : mkV true (.dct t z) = .ok ⟨.own, .dct t z⟩ := rfl

structure GamV where
  fn : Nat → List SV → O SV
  sub : Nat → Nat → Bool

def gamN (sub : Nat → Nat → Bool) : Gam := ⟨fun _ _ _ _ => .bad, fun _ _ => none, fun _ => 0, sub⟩

def assignV : Tg → PV → VEnv → Option VEnv
  | .name i, v, ρ => some (ρ.set i (some ⟨.tree, v⟩))
  | .tup l, .tup xs, ρ => go l xs ρ
  | .tup l, .lst xs, ρ => go l xs ρ
  | _, _, _ => none
where go : List Tg → List PV → VEnv → Option VEnv
  | [], [], ρ => some ρ
  | t :: r, x :: xs, ρ => (assignV t x ρ).bind fun ρ' => go r xs ρ'
  | _, _, _ => none
def wipeV (ρ : VEnv) : List Nat → VEnv
  | [] => ρ
  | i :: r => (wipeV ρ r).set i none

def compV (f : PV → O (Option PV)) : List PV → O (List PV)
  | [] => .ok []
  | x :: r => (f x).bind fun o => (compV f r).bind fun ys => .ok (match o with | some y => y :: ys | none => ys)

/-- methods that change nothing -/
def pureM : Bm → Bool
  | .get | .get2 | .items | .join | .split | .partition | .upper | .count | .index => true
  | _ => false

def seqV : PV → Option (List PV)
  | .lst xs => some xs
  | .tup xs => some xs
  | .str s => some (s.map fun c => .str [c])
  | _ => none

/-- the left side of a comparison -/
def lhsV (op : COp) (s : SV) : O PV := if op = .isIn ∨ op = .notIn then s.tv else .ok s.x
@[simp] theorem lhs_eq {s : SV} : lhsV .eq s = .ok s.x := rfl
@[simp] theorem lhs_ne {s : SV} : lhsV .ne s = .ok s.x := rfl
@[simp] theorem lhs_lt {s : SV} : lhsV .lt s = .ok s.x := rfl
@[simp] theorem lhs_le {s : SV} : lhsV .le s = .ok s.x := rfl
@[simp] theorem lhs_gt {s : SV} : lhsV .gt s = .ok s.x := rfl
@[simp] theorem lhs_ge {s : SV} : lhsV .ge s = .ok s.x := rfl
@[simp] theorem lhs_is {s : SV} : lhsV .is s = .ok s.x := rfl
@[simp] theorem lhs_isNot {s : SV} : lhsV .isNot s = .ok s.x := rfl
@[simp] theorem lhs_in {s : SV} : lhsV .isIn s = s.tv := rfl
@[simp] theorem lhs_notIn {s : SV} : lhsV .notIn s = s.tv := rfl

/-- an operator -/
def opV (op : BOp) (a b : SV) : O PV := match op with
  | .add => (binop .add false a.x b.x []).val
  | op => a.tv.bind fun x => b.tv.bind fun y => (binop op false x y []).val
@[simp] theorem opV_add {a b : SV} : opV .add a b = (binop .add false a.x b.x []).val := rfl
@[simp] theorem opV_sub {a b : SV} : opV .sub a b = a.tv.bind fun x => b.tv.bind fun y => (binop .sub false x y []).val := rfl
@[simp] theorem opV_mul {a b : SV} : opV .mul a b = a.tv.bind fun x => b.tv.bind fun y => (binop .mul false x y []).val := rfl
@[simp] theorem opV_mod {a b : SV} : opV .mod a b = a.tv.bind fun x => b.tv.bind fun y => (binop .mod false x y []).val := rfl
@[simp] theorem opV_fdiv {a b : SV} : opV .fdiv a b = a.tv.bind fun x => b.tv.bind fun y => (binop .fdiv false x y []).val := rfl
@[simp] theorem opV_pow {a b : SV} : opV .pow a b = a.tv.bind fun x => b.tv.bind fun y => (binop .pow false x y []).val := rfl

mutual
def evalV (Γ : GamV) : ME → VEnv → O SV
  | .const d, _ => .ok ⟨.tree, d⟩
  | .var i, ρ => match ρ[i]? with
    | some (some s) => .ok s.rd
    | _ => .bad
  | .glob _ d, _ => .ok ⟨.tree, d⟩
  | .bin op bx a b, ρ => (evalV Γ a ρ).bind fun x => (evalV Γ b ρ).bind fun y => (opV op x y).bind (mkV bx)
  | .neg a, ρ => (evalV Γ a ρ).bind fun x => match x.x with
    | .int i => .ok ⟨.tree, .int (-i)⟩
    | _ => .bad
  | .nt a, ρ => (evalV Γ a ρ).bind fun x => match x.x with
    | .bool b => .ok ⟨.tree, .bool (!b)⟩
    | _ => .bad
  | .and a b, ρ => (evalV Γ a ρ).bind fun x => match x.x with
    | .bool t => if t then evalV Γ b ρ else .ok ⟨.tree, .bool false⟩
    | _ => .bad
  | .or a b, ρ => (evalV Γ a ρ).bind fun x => match x.x with
    | .bool t => if t then .ok ⟨.tree, .bool true⟩ else evalV Γ b ρ
    | _ => .bad
  | .cmp op a b, ρ => (evalV Γ a ρ).bind fun x => (evalV Γ b ρ).bind fun y => (lhsV op x).bind fun v => (oOpt (cmpV op v y.x [])).bind fun t => .ok ⟨.tree, .bool t⟩
  | .chain op op' a b c, ρ => (evalV Γ a ρ).bind fun x => (evalV Γ b ρ).bind fun y => (lhsV op x).bind fun v => (oOpt (cmpV op v y.x [])).bind fun t =>
    if t then (evalV Γ c ρ).bind fun z => (lhsV op' y).bind fun u => (oOpt (cmpV op' u z.x [])).bind fun t' => .ok ⟨.tree, .bool t'⟩ else .ok ⟨.tree, .bool false⟩
  | .ite c a b, ρ => (evalV Γ c ρ).bind fun x => match x.x with
    | .bool t => if t then evalV Γ a ρ else evalV Γ b ρ
    | _ => .bad
  | .tup es, ρ => (evalsT Γ es ρ).bind fun xs => if xs.length ≤ sizeLine then .ok ⟨.tree, .tup xs⟩ else .bad
  | .lst bx es, ρ => (evalsT Γ es ρ).bind fun xs => if xs.length ≤ sizeLine then mkV bx (.lst xs) else .bad
  | .dict0 t, _ => .ok ⟨.own, .dct t []⟩
  | .call f es, ρ => (evalsA Γ es ρ).bind fun xs => Γ.fn f xs
  | .bi b bx es, ρ => (evalsA Γ es ρ).bind fun xs => (bfn b false (xs.map SV.x) []).val.bind (mkV bx)
  | .bm m o es, ρ => (evalV Γ o ρ).bind fun x => if pureM m && bmTy m [] x.x then (evalsT Γ es ρ).bind fun xs => (bmf m 0 x.x xs []).val.bind fun z => .ok ⟨.tree, z⟩ else .bad
  | .isinst a t, ρ => (evalV Γ a ρ).bind fun x => x.tv.bind fun v => (oOpt (isTy (gamN Γ.sub) [] v t)).bind fun b => .ok ⟨.tree, .bool b⟩
  | .idx a i, ρ => (evalV Γ a ρ).bind fun x => (evalV Γ i ρ).bind fun y => (idxf x.x y.x []).val.bind fun z => .ok ⟨.tree, z⟩
  | .slice bx a lo' hi, ρ => (evalV Γ a ρ).bind fun x => (evalOV Γ lo' ρ).bind fun l => (evalOV Γ hi ρ).bind fun h => (slicef false x.x l h []).val.bind (mkV bx)
  | .comp bx tg vs it cond elt, ρ => (sourceV Γ it ρ).bind fun xs => (compV (fun x => match assignV tg x (wipeV ρ vs) with
      | some ρ' => (match cond with
        | some c => (evalV Γ c ρ').calm.bind fun b => (match b.x with
          | .bool t => if t then (evalV Γ elt ρ').calm.bind fun y => y.tv.bind fun z => .ok (some z) else .ok none
          | _ => .bad)
        | none => (evalV Γ elt ρ').calm.bind fun y => y.tv.bind fun z => .ok (some z))
      | none => .bad) xs).bind fun ys => if ys.length ≤ sizeLine then mkV bx (.lst ys) else .bad
  | .make _ _, _ => .bad
  | .meth _ _ _, _ => .bad
  | .attr _ _, _ => .bad
/-- as trees -/
def evalsT (Γ : GamV) : MEs → VEnv → O (List PV)
  | .nil, _ => .ok []
  | .cons e r, ρ => (evalV Γ e ρ).bind fun x => x.tv.bind fun v => (evalsT Γ r ρ).bind fun xs => .ok (v :: xs)
/-- as arguments -/
def evalsA (Γ : GamV) : MEs → VEnv → O (List SV)
  | .nil, _ => .ok []
  | .cons e r, ρ => (evalV Γ e ρ).bind fun x => (evalsA Γ r ρ).bind fun xs => .ok (x.rd :: xs)
def evalOV (Γ : GamV) : Option ME → VEnv → O (Option Int)
  | none, _ => .ok none
  | some e, ρ => (evalV Γ e ρ).bind fun x => oOpt (partI x.x)
def sourceV (Γ : GamV) : MI → VEnv → O (List PV)
  | .seq e, ρ => (evalV Γ e ρ).bind fun x => oOpt (seqV x.x)
  | .range1 a, ρ => (evalV Γ a ρ).bind fun x => match x.x with
    | .int n => if n < 1000000000 ∧ -1000000000 < n then .ok ((List.range n.toNat).map fun (k : Nat) => .int k) else .bad
    | _ => .bad
  | .range2 a b, ρ => (evalV Γ a ρ).bind fun x => (evalV Γ b ρ).bind fun y => match x.x, y.x with
    | .int m, .int n => if n < 1000000000 ∧ -1000000000 < n ∧ m < 1000000000 ∧ -1000000000 < m then .ok ((List.range (n - m).toNat).map fun (k : Nat) => .int (m + k)) else .bad
    | _, _ => .bad
  | .enum e, ρ => (evalV Γ e ρ).bind fun x => x.tv.bind fun v => match v with
    | .lst xs => .ok (pairs 0 xs)
    | _ => .bad
  | .zip a b, ρ => (evalV Γ a ρ).bind fun x => x.tv.bind fun v => (evalV Γ b ρ).bind fun y => y.tv.bind fun w => match v, w with
    | .lst xs, .lst ys => .ok (zipV xs ys)
    | _, _ => .bad
end

inductive VS where
  | nx (ρ : VEnv) | ret (v : SV) | exc (c : Nat) (ρ : VEnv) | bad
def O.then {α : Type} (r : O α) (ρ : VEnv) (f : α → VS) : VS := match r with
  | .ok a => f a
  | .exc c => .exc c ρ
  | .bad => .bad
@[simp] theorem O.then_ok {α : Type} (a : α) (ρ : VEnv) (f : α → VS) : (O.ok a).then ρ f = f a := rfl
@[simp] theorem O.then_exc {α : Type} (c : Nat) (ρ : VEnv) (f : α → VS) : (O.exc c : O α).then ρ f = .exc c ρ := rfl
@[simp] theorem O.then_bad {α : Type} (ρ : VEnv) (f : α → VS) : (O.bad : O α).then ρ f = .bad := rfl
@[simp] theorem O.then_ite {α : Type} (p : Prop) [Decidable p] (a b : O α) (ρ : VEnv) (f : α → VS) : (if p then a else b).then ρ f = if p then a.then ρ f else b.then ρ f := by split <;> rfl
def VS.next (r : VS) (f : VEnv → VS) : VS := match r with
  | .nx ρ => f ρ
  | r => r
@[simp] theorem VS.next_nx (ρ : VEnv) (f : VEnv → VS) : (VS.nx ρ).next f = f ρ := rfl
@[simp] theorem VS.next_ret (v : SV) (f : VEnv → VS) : (VS.ret v).next f = .ret v := rfl
@[simp] theorem VS.next_exc (c : Nat) (ρ : VEnv) (f : VEnv → VS) : (VS.exc c ρ).next f = .exc c ρ := rfl
@[simp] theorem VS.next_bad (f : VEnv → VS) : VS.bad.next f = .bad := rfl
@[simp] theorem VS.next_ite (p : Prop) [Decidable p] (a b : VS) (f : VEnv → VS) : (if p then a else b).next f = if p then a.next f else b.next f := by split <;> rfl

/-- names that were unbound ahead of a loop are so behind each turn -/
def mask : VEnv → VEnv → VEnv
  | none :: r, _ :: q => none :: mask r q
  | some _ :: r, s :: q => s :: mask r q
  | _, _ => []
def forV (b : PV → VEnv → VS) (ρ0 : VEnv) : List PV → VEnv → VS
  | [], ρ => .nx ρ
  | x :: r, ρ => (b x ρ).next fun ρ' => forV b ρ0 r (mask ρ0 ρ')
def whlV (c : VEnv → O SV) (b : VEnv → VS) (ρ0 : VEnv) : Nat → VEnv → VS
  | 0, _ => .bad
  | n + 1, ρ => (c ρ).then ρ fun x => match x.x with
    | .bool t => if t then (b ρ).next fun ρ' => whlV c b ρ0 n (mask ρ0 ρ') else .nx ρ
    | _ => .bad
def assignNV : List Nat → List SV → VEnv → Option VEnv
  | [], [], ρ => some ρ
  | i :: r, x :: xs, ρ => assignNV r xs (ρ.set i (some x))
  | _, _, _ => none
def varOf : ME → Option Nat
  | .var i => some i
  | _ => none
def seqE : MI → Option ME
  | .seq e => some e
  | _ => none
/-- what a loop walks: nothing that it may change -/
def srcFor (Γ : GamV) (it : MI) (ρ : VEnv) : O (List PV) := match seqE it with
  | some e => (match varOf e with
    | some i => (match ρ[i]? with
      | some (some s) => if s.kd = .own then .bad else oOpt (seqV s.x)
      | _ => .bad)
    | none => (evalV Γ e ρ).bind fun s => if s.kd = .bor then .bad else oOpt (seqV s.x))
  | none => sourceV Γ it ρ
def evalsS (Γ : GamV) : MEs → VEnv → O (List SV)
  | .nil, _ => .ok []
  | .cons e r, ρ => (evalV Γ e ρ).bind fun x => x.sv.bind fun v => (evalsS Γ r ρ).bind fun xs => .ok (v :: xs)
/-- a name's own list, or dict -/
def ownL (ρ : VEnv) (i : Nat) : Option (List PV) := match ρ[i]? with
  | some (some ⟨.own, .lst xs⟩) => some xs
  | _ => none
def ownX (ρ : VEnv) (i : Nat) : Option PV := match ρ[i]? with
  | some (some ⟨.own, x⟩) => some x
  | _ => none
def setV (o i v : PV) : Option PV := match o with
  | .lst xs => match i with
    | .int k => match ixN xs.length k with
      | some n => some (.lst (xs.set n v))
      | none => none
    | _ => none
  | .dct t kvs => match keyOf i with
    | some k => if isT k = t ∧ kvs.length < sizeLine then some (.dct t (dput kvs k v)) else none
    | none => none
  | _ => none
def notBox : PV → Bool
  | .box _ => false
  | _ => true
def frzV (i : Nat) (ρ : VEnv) : VS := match ρ[i]? with
  | some (some ⟨.own, x⟩) => .nx (ρ.set i (some ⟨.tree, x⟩))
  | some (some ⟨.tree, x⟩) => if notBox x then .nx ρ else .bad
  | _ => .bad

/-- x.pop() -/
def popOf : ME → Option Nat
  | .bm .pop (.var i) .nil => some i
  | _ => none
/-- what changes a name's list in place -/
inductive MutF where
  | app (i : Nat) (e : ME) | ext (i : Nat) (e : ME) | ins (i : Nat) (a e : ME)
def mutOf : ME → Option MutF
  | .bm .append (.var i) (.cons e .nil) => some (.app i e)
  | .bm .extend (.var i) (.cons e .nil) => some (.ext i e)
  | .bm .insert (.var i) (.cons a (.cons e .nil)) => some (.ins i a e)
  | _ => none

mutual
def execV (Γ : GamV) : MS → VEnv → VS
  | .asg tg e, ρ => match popOf e with
    | some i => (oOpt (ownL ρ i)).then ρ fun xs => (match xs.getLast? with
      | some y => (match assignV tg y (ρ.set i (some ⟨.own, .lst xs.dropLast⟩)) with
        | some ρ' => .nx ρ'
        | none => .bad)
      | none => .bad)
    | none => match tg with
      | .name i => (evalV Γ e ρ).then ρ fun s => s.sv.then ρ fun v => .nx (ρ.set i (some v))
      | .tup l => (evalV Γ e ρ).then ρ fun s => s.tv.then ρ fun v => match assignV (.tup l) v ρ with
        | some ρ' => .nx ρ'
        | none => .bad
  | .asgN is es, ρ => (evalsS Γ es ρ).then ρ fun vs => match assignNV is vs ρ with
    | some ρ' => .nx ρ'
    | none => .bad
  | .setItem o k v, ρ => match varOf o with
    | some i => (evalV Γ v ρ).then ρ fun s => s.tv.then ρ fun z => (oOpt (ownX ρ i)).then ρ fun x => (evalV Γ k ρ).then ρ fun y => (match setV x y.x z with
      | some x' => .nx (ρ.set i (some ⟨.own, x'⟩))
      | none => .bad)
    | none => .bad
  | .setAttr _ _ _, _ => .bad
  | .expr e, ρ => match mutOf e with
    | some (.app i e) => (oOpt (ownL ρ i)).then ρ fun xs => (evalV Γ e ρ).then ρ fun s => s.tv.then ρ fun v => if xs.length < sizeLine then .nx (ρ.set i (some ⟨.own, .lst (xs ++ [v])⟩)) else .bad
    | some (.ext i e) => (oOpt (ownL ρ i)).then ρ fun xs => (evalV Γ e ρ).then ρ fun s => match s.x with
      | .lst zs => if xs.length + zs.length ≤ sizeLine then .nx (ρ.set i (some ⟨.own, .lst (xs ++ zs)⟩)) else .bad
      | _ => .bad
    | some (.ins i a e) => (match popOf e with
      | some j => (oOpt (ownL ρ i)).then ρ fun xs => (evalV Γ a ρ).then ρ fun s => (match s.x, xs.getLast? with
        | .int k, some y => if i = j ∧ 0 ≤ k ∧ k ≤ xs.dropLast.length ∧ xs.dropLast.length < sizeLine then .nx (ρ.set i (some ⟨.own, .lst (xs.dropLast.take k.toNat ++ y :: xs.dropLast.drop k.toNat)⟩)) else .bad
        | _, _ => .bad)
      | none => (oOpt (ownL ρ i)).then ρ fun xs => (evalV Γ a ρ).then ρ fun s => (evalV Γ e ρ).then ρ fun w => w.tv.then ρ fun v => (match s.x with
        | .int k => if 0 ≤ k ∧ k ≤ xs.length ∧ xs.length < sizeLine then .nx (ρ.set i (some ⟨.own, .lst (xs.take k.toNat ++ v :: xs.drop k.toNat)⟩)) else .bad
        | _ => .bad))
    | none => (evalV Γ e ρ).then ρ fun _ => .nx ρ
  | .ite c a b, ρ => (evalV Γ c ρ).then ρ fun x => match x.x with
    | .bool t => if t then execsV Γ a ρ else execsV Γ b ρ
    | _ => .bad
  | .whl n c b, ρ => whlV (evalV Γ c) (execsV Γ b) ρ n ρ
  | .for_ tg it b, ρ => (srcFor Γ it ρ).then ρ fun xs => forV (fun x ρ1 => match assignV tg x ρ1 with
      | some ρ2 => execsV Γ b ρ2
      | none => .bad) ρ xs ρ
  | .ret e, ρ => match varOf e with
    | some i => (match ρ[i]? with
      | some (some s) => s.sv.then ρ fun v => .ret v
      | _ => .bad)
    | none => (evalV Γ e ρ).then ρ fun s => s.sv.then ρ fun v => .ret v
  | .retN, _ => .ret ⟨.tree, .none⟩
  | .raise c, ρ => .exc c ρ
  | .tryAs b c i h, ρ => match execsV Γ b ρ with
    | .exc d ρ1 => if Γ.sub d c then (execsV Γ h (ρ1.set i (some ⟨.tree, .exc d⟩))).next (fun ρ2 => .nx (ρ2.set i none)) else .exc d ρ1
    | r => r
  | .tryOnly b c h, ρ => match execsV Γ b ρ with
    | .exc d ρ1 => if Γ.sub d c then execsV Γ h ρ1 else .exc d ρ1
    | r => r
  | .pass, ρ => .nx ρ
def execsV (Γ : GamV) : MSs → VEnv → VS
  | .nil, ρ => .nx ρ
  | .cons s r, ρ => (execV Γ s ρ).next fun ρ' => execsV Γ r ρ'
  | .frz i r, ρ => (frzV i ρ).next fun ρ' => execsV Γ r ρ'
end

def finV (pure : Bool) (s : SV) : O SV := if pure then (if s.kd = .tree ∧ boxLt 0 s.x = true then .ok s else .bad) else .ok s
def runFnV (Γ : GamV) (d : MD) (xs : List SV) : O SV :=
  if xs.length = d.args then
    match execsV Γ d.body (xs.map some ++ List.replicate (d.slots - d.args) none) with
    | .ret s => finV d.pure s
    | .nx _ => .ok ⟨.tree, .none⟩
    | .exc c _ => .exc c
    | .bad => .bad
  else .bad
end Z

set_option maxHeartbeats 200000
set_option maxRecDepth 512
set_option maxHeartbeats 1000000
/-! The language by values is right of the language with a store: values, operators. -/
namespace Z

def po : PV → PO
  | .lst xs => .lst xs
  | .dct t kvs => .dct t kvs
  | _ => .dead
/-- v is what x is, or a box that holds it -/
def See (st : Sto) (v x : PV) : Prop := v = x ∨ ∃ j, v = .box j ∧ cont x = true ∧ st[j]? = some (po x)
def VR (n : Nat) (st : Sto) (v : PV) (s : SV) : Prop := match s.kd with
  | .tree => v = s.x
  | .bor => See st v s.x
  | .own => ∃ j, v = .box j ∧ n ≤ j ∧ cont s.x = true ∧ st[j]? = some (po s.x)
theorem pre_at {st st' : Sto} {j : Nat} {o : PO} (p : st <+: st') (h : st[j]? = some o) : st'[j]? = some o := by
  obtain ⟨t, rfl⟩ := p
  rw [List.getElem?_append_left (List.getElem?_eq_some_iff.mp h).1]
  exact h
theorem lt_of_at {st : Sto} {j : Nat} {o : PO} (h : st[j]? = some o) : j < st.length := (List.getElem?_eq_some_iff.mp h).1
theorem See.grow {st st' : Sto} {v x : PV} (h : See st v x) (p : st <+: st') : See st' v x := h.imp id fun ⟨j, a, b, c⟩ => ⟨j, a, b, pre_at p c⟩
theorem See.eq {st : Sto} {v x : PV} (h : See st v x) (hc : cont x = false) : v = x := by
  rcases h with h | ⟨j, a, b, c⟩
  · exact h
  · rw [hc] at b
    cases b
theorem VR.see {n : Nat} {st : Sto} {v : PV} {s : SV} (h : VR n st v s) : See st v s.x := by
  obtain ⟨k, x⟩ := s
  cases k with
  | tree => exact .inl h
  | own => obtain ⟨j, a, _, b, c⟩ := h; exact .inr ⟨j, a, b, c⟩
  | bor => exact h
theorem VR.grow {n : Nat} {st st' : Sto} {v : PV} {s : SV} (h : VR n st v s) (p : st <+: st') : VR n st' v s := by
  obtain ⟨k, x⟩ := s
  cases k with
  | tree => exact h
  | own => obtain ⟨j, a, b, c, d⟩ := h; exact ⟨j, a, b, c, pre_at p d⟩
  | bor => exact See.grow h p
theorem VR.mono {n m : Nat} {st : Sto} {v : PV} {s : SV} (h : VR n st v s) (l : m ≤ n) : VR m st v s := by
  obtain ⟨k, x⟩ := s
  cases k with
  | tree => exact h
  | own => obtain ⟨j, a, b, c⟩ := h; exact ⟨j, a, by omega, c⟩
  | bor => exact h
theorem VR.tree {n : Nat} {st : Sto} {x : PV} : VR n st x ⟨.tree, x⟩ := rfl
theorem VR.tv {n : Nat} {st : Sto} {v y : PV} {s : SV} (h : VR n st v s) (e : s.tv = .ok y) : v = y := by
  unfold SV.tv at e
  split at e
  · rename_i k
    cases e
    unfold VR at h
    rw [k] at h
    exact h
  · split at e
    · cases e
    · rename_i q
      cases e
      exact h.see.eq (by simpa using q)

/-- r is what o tells -/
def Sim {α β : Type} (rel : Sto → α → β → Prop) (st : Sto) (r : R α) (o : O β) : Prop := match o with
  | .ok b => ∃ a st', r = .ok a st' ∧ st <+: st' ∧ rel st' a b
  | .exc c => ∃ st', r = .exc c st' ∧ st <+: st'
  | .bad => True
section
variable {α β α' β' : Type} {rel : Sto → α → β → Prop} {rel' : Sto → α' → β' → Prop} {st st1 : Sto} {r : R α} {o : O β}
theorem Sim.up (h : Sim rel st1 r o) (p : st <+: st1) : Sim rel st r o := by
  cases o with
  | ok b => obtain ⟨a, st', e, q, c⟩ := h; exact ⟨a, st', e, p.trans q, c⟩
  | exc c => obtain ⟨st', e, q⟩ := h; exact ⟨st', e, p.trans q⟩
  | bad => trivial
theorem Sim.bind {f : α → Sto → R α'} {g : β → O β'} (h : Sim rel st r o) (k : ∀ a st' b, st <+: st' → rel st' a b → Sim rel' st' (f a st') (g b)) : Sim rel' st (r.bind f) (o.bind g) := by
  cases o with
  | ok b => obtain ⟨a, st', rfl, q, c⟩ := h; exact (k a st' b q c).up q
  | exc c => obtain ⟨st', rfl, q⟩ := h; exact ⟨st', rfl, q⟩
  | bad => trivial
theorem Sim.done {a : α} {b : β} (h : rel st a b) : Sim rel st (.ok a st) (.ok b) := ⟨a, st, rfl, List.prefix_refl _, h⟩
theorem Sim.mono {rel2 : Sto → α → β → Prop} (h : Sim rel st r o) (k : ∀ st a b, rel st a b → rel2 st a b) : Sim rel2 st r o := by
  cases o with
  | ok b => obtain ⟨a, st', e, q, c⟩ := h; exact ⟨a, st', e, q, k _ _ _ c⟩
  | exc c => exact h
  | bad => trivial
theorem Sim.calm (h : Sim rel st r o) : Sim rel st r.calm o.calm := by
  cases o with
  | ok b => obtain ⟨a, st', rfl, q, c⟩ := h; exact ⟨a, st', rfl, q, c⟩
  | exc c => trivial
  | bad => trivial
theorem Sim.bad : Sim rel st r .bad := trivial
theorem Sim.opt {o : Option α} {o' : Option β} (h : ∀ b, o' = some b → ∃ a, o = some a ∧ rel st a b) : Sim rel st (ofOpt o st) (oOpt o') := by
  cases o' with
  | none => trivial
  | some b => obtain ⟨a, rfl, c⟩ := h b rfl; exact Sim.done c
end

section
variable {st : Sto} {n : Nat} {v w x y : PV}
theorem lst0 {xs : List PV} (h : lstOf [] x = some xs) : x = .lst xs := by
  cases x <;> simp [lstOf] at h
  rw [h]
theorem see_lst {xs : List PV} (s : See st v (.lst xs)) : lstOf st v = some xs := by
  rcases s with rfl | ⟨j, rfl, _, e⟩
  · rfl
  · simp only [lstOf, e, po]
theorem see_lstOf {xs : List PV} (s : See st v x) (h : lstOf [] x = some xs) : lstOf st v = some xs := by
  cases lst0 h
  exact see_lst s
theorem see_seqOf {xs : List PV} (s : See st v x) (h : seqOf [] x = some xs) : seqOf st v = some xs := by
  cases x <;> simp [seqOf] at h
  · cases s.eq rfl; simp [seqOf, h]
  · rcases s with rfl | ⟨j, rfl, _, e⟩
    · simp [seqOf, h]
    · simp [seqOf, e, po, h]
  · cases s.eq rfl; simp [seqOf, h]
theorem see_dctOf {kvs : Bool × List (DK × PV)} (s : See st v x) (h : dctOf [] x = some kvs) : dctOf st v = some kvs := by
  cases x <;> simp [dctOf] at h
  rcases s with rfl | ⟨j, rfl, _, e⟩
  · simp [dctOf, h]
  · simp [dctOf, e, po, h]
theorem see_res (s : See st v x) (h : notBox x = true) : res st v = res [] x := by
  rcases s with rfl | ⟨j, rfl, c, e⟩
  · cases v <;> first | rfl | (simp [notBox] at h)
  · cases x <;> simp [cont] at c <;> simp [res, e, po]
theorem mkLst_sim {bx : Bool} {xs : List PV} (hn : n ≤ st.length) : Sim (VR n) st (mkLst bx xs st) (mkV bx (.lst xs)) := by
  cases bx with
  | false => exact Sim.done rfl
  | true => exact ⟨.box st.length, st ++ [.lst xs], rfl, List.prefix_append _ _, st.length, rfl, hn, rfl, by simp [po]⟩
theorem mkTree_sim {bx : Bool} {z : PV} (h : cont z = false) : Sim (VR n) st (.ok z st) (mkV bx z) := by
  cases bx with
  | false => exact Sim.done rfl
  | true => cases z <;> first | trivial | (simp [cont] at h)
theorem vop_add {bx : Bool} (hn : n ≤ st.length) (s : See st v x) (t : See st w y) : Sim (VR n) st (fAdd bx v w st) ((fAdd false x y []).val.bind (mkV bx)) := by
  cases x <;> cases y <;> first | exact True.intro | skip
  case int i j =>
    cases s.eq rfl; cases t.eq rfl
    exact mkTree_sim rfl
  case str i j =>
    cases s.eq rfl; cases t.eq rfl
    simp only [fAdd]
    split
    · exact mkTree_sim rfl
    · trivial
  case tup i j =>
    cases s.eq rfl; cases t.eq rfl
    simp only [fAdd]
    split
    · exact mkTree_sim rfl
    · trivial
  case lst xs ys =>
    have e : fAdd bx v w st = if xs.length + ys.length ≤ sizeLine then mkLst bx (xs ++ ys) st else .bad := by
      have h1 := see_lst s
      have h2 := see_lst t
      rcases s with rfl | ⟨j, rfl, _, e1⟩ <;> rcases t with rfl | ⟨k, rfl, _, e2⟩ <;> simp only [fAdd, h1, h2]
    have e' : (fAdd false (.lst xs) (.lst ys) [] : R PV) = if xs.length + ys.length ≤ sizeLine then .ok (.lst (xs ++ ys)) [] else .bad := rfl
    rw [e, e']
    split
    · exact mkLst_sim hn
    · trivial
theorem vop_mul {bx : Bool} (hn : n ≤ st.length) : Sim (VR n) st (fMul bx x y st) ((fMul false x y []).val.bind (mkV bx)) := by
  cases x <;> cases y <;> first | exact True.intro | skip
  all_goals
    simp only [fMul]
    split
    · first | exact mkTree_sim rfl | exact mkLst_sim hn
    · trivial
theorem op_sim {op : BOp} {bx : Bool} {s t : SV} (hn : n ≤ st.length) (h : VR n st v s) (k : VR n st w t) : Sim (VR n) st (binop op bx v w st) ((opV op s t).bind (mkV bx)) := by
  by_cases ho : op = .add
  · subst ho
    exact vop_add hn h.see k.see
  · have e : opV op s t = s.tv.bind fun x => t.tv.bind fun y => (binop op false x y []).val := by cases op <;> first | rfl | exact absurd rfl ho
    rw [e]
    cases hs : s.tv with
    | exc c =>
      unfold SV.tv at hs
      split at hs
      · cases hs
      · split at hs <;> cases hs
    | bad => trivial
    | ok x =>
      cases ht : t.tv with
      | exc c =>
        unfold SV.tv at ht
        split at ht
        · cases ht
        · split at ht <;> cases ht
      | bad => trivial
      | ok y =>
        cases h.tv hs
        cases k.tv ht
        cases op with
        | add => exact absurd rfl ho
        | mul => exact vop_mul hn
        | sub => cases v <;> cases w <;> first | exact True.intro | exact mkTree_sim rfl
        | mod =>
          cases v <;> cases w <;> first | exact True.intro | skip
          simp only [binop, fMod, O.bind_ok]
          split
          · exact mkTree_sim rfl
          · trivial
        | fdiv =>
          cases v <;> cases w <;> first | exact True.intro | skip
          simp only [binop, fDiv, O.bind_ok]
          split
          · exact mkTree_sim rfl
          · trivial
        | pow =>
          cases v <;> cases w <;> first | exact True.intro | skip
          simp only [binop, fPow, O.bind_ok]
          split
          · exact mkTree_sim rfl
          · trivial
theorem tv_exc {s : SV} {c : Nat} (h : s.tv = .exc c) : False := by
  unfold SV.tv at h
  split at h
  · cases h
  · split at h <;> cases h
/-- comparisons -/
theorem cmp_sim {op : COp} {s t : SV} {u : PV} {b : Bool} (h : VR n st v s) (k : VR n st w t) (hl : lhsV op s = .ok u) (hc : cmpV op u t.x [] = some b) : cmpV op v w st = some b := by
  have hk := k.see
  have hh := h.see
  have inC : ∀ {b : Bool}, (op = .isIn ∨ op = .notIn) → inV [] u t.x = some b → inV st v w = some b := by
    intro b ho hi
    have hv : v = u := by
      unfold lhsV at hl
      rw [if_pos ho] at hl
      exact h.tv hl
    subst hv
    generalize t.x = y at hk hi
    cases y with
    | str y => cases hk.eq rfl; exact hi
    | box j => simp [inV, res] at hi
    | lst ys =>
      have e : inV st v w = inV [] v (.lst ys) := by
        have e1 := see_res hk rfl
        rcases hk with rfl | ⟨j, rfl, _, e⟩
        · rfl
        · show (match res st (.box j) with | .dct t kvs => _ | .lst ys => _ | .tup ys => _ | _ => none) = _
          rw [e1]
          rfl
      rw [e]; exact hi
    | dct t kvs =>
      have e : inV st v w = inV [] v (.dct t kvs) := by
        have e1 := see_res hk rfl
        rcases hk with rfl | ⟨j, rfl, _, e⟩
        · rfl
        · show (match res st (.box j) with | .dct t kvs => _ | .lst ys => _ | .tup ys => _ | _ => none) = _
          rw [e1]
          rfl
      rw [e]; exact hi
    | _ => cases hk.eq rfl; exact hi
  have eqC : ∀ {f : Bool → Bool} {b : Bool}, (if plain 60 (res [] s.x) && plain 60 (res [] t.x) then some (f (eqv (res [] s.x) (res [] t.x))) else none) = some b → (if plain 60 (res st v) && plain 60 (res st w) then some (f (eqv (res st v) (res st w))) else none) = some b := by
    intro f b hi
    have h1 : notBox s.x = true := by
      cases hx : s.x with
      | box j => rw [hx] at hi; simp [res, plain] at hi
      | _ => rfl
    have h2 : notBox t.x = true := by
      cases hx : t.x with
      | box j => rw [hx] at hi; simp [res, plain] at hi
      | _ => rfl
    rw [see_res hh h1, see_res hk h2]
    exact hi
  have ltC : ∀ {b : Bool} {p q : PV} {p' q' : PV}, See st p p' → See st q q' → ltV p' q' = some b → ltV p q = some b := by
    intro b p q p' q' hp hq hi
    cases p' <;> cases q' <;> first | (simp [ltV] at hi; done) | skip
    cases hp.eq rfl; cases hq.eq rfl; exact hi
  have leC : ∀ {b : Bool} {p q : PV} {p' q' : PV}, See st p p' → See st q q' → leV p' q' = some b → leV p q = some b := by
    intro b p q p' q' hp hq hi
    cases p' <;> cases q' <;> first | (simp [leV] at hi; done) | skip
    cases hp.eq rfl; cases hq.eq rfl; exact hi
  have isC : ∀ {b : Bool}, isV s.x t.x = some b → isV v w = some b := by
    intro b hi
    have e : t.x = w ∧ cont t.x = false := by
      cases hx : t.x with
      | none => rw [hx] at hk; exact ⟨(hk.eq rfl).symm, rfl⟩
      | bool b => rw [hx] at hk; exact ⟨(hk.eq rfl).symm, rfl⟩
      | _ => rw [hx] at hi; cases hs : s.x <;> rw [hs] at hi <;> simp [isV] at hi
    rw [← e.1]
    cases hs : s.x with
    | lst xs =>
      rw [hs] at hi hh
      rcases hh with rfl | ⟨j, rfl, _, _⟩
      · exact hi
      · cases hx : t.x with
        | none => rw [hx] at hi; simpa [isV] using hi
        | _ => rw [hx] at hi; simp [isV] at hi
    | dct t kvs =>
      rw [hs] at hi hh
      rcases hh with rfl | ⟨j, rfl, _, _⟩
      · exact hi
      · cases hx : SV.x _ with
        | none => rw [hx] at hi; simpa [isV] using hi
        | _ => rw [hx] at hi; simp [isV] at hi
    | _ => rw [hs] at hi hh; cases hh.eq rfl; exact hi
  cases op with
  | eq => cases hl; exact eqC (f := id) hc
  | ne => cases hl; exact eqC (f := not) hc
  | lt => cases hl; exact ltC hh hk hc
  | le => cases hl; exact leC hh hk hc
  | gt => cases hl; exact ltC hk hh hc
  | ge => cases hl; exact leC hk hh hc
  | isIn => exact inC (.inl rfl) hc
  | notIn =>
    simp only [cmpV] at hc ⊢
    cases hi : inV [] u t.x with
    | none => rw [hi] at hc; cases hc
    | some b' =>
      rw [hi] at hc
      rw [inC (.inr rfl) hi]
      exact hc
  | is => cases hl; exact isC hc
  | isNot =>
    cases hl
    simp only [cmpV] at hc ⊢
    cases hi : isV s.x t.x with
    | none => rw [hi] at hc; cases hc
    | some b' =>
      rw [hi] at hc
      rw [isC hi]
      exact hc
end
end Z

set_option maxHeartbeats 200000
set_option maxRecDepth 512
set_option maxHeartbeats 1000000
/-! The language by values is right: built-in functions, methods, places, environments. -/
namespace Z
section
variable {st : Sto} {n : Nat} {v w x y : PV}
inductive Sees (st : Sto) : List PV → List PV → Prop
  | nil : Sees st [] []
  | cons {v x : PV} {vs xs : List PV} (h : See st v x) (t : Sees st vs xs) : Sees st (v :: vs) (x :: xs)
theorem bfn_arity {b : Bi} {bx : Bool} {xs : List PV} {st : Sto} (h : bfn b bx xs st ≠ .bad) : xs.length = 1 ∨ xs.length = 2 := by
  match xs, h with
  | [_], _ => exact .inl rfl
  | [_, _], _ => exact .inr rfl
  | [], h => exact absurd (by cases b <;> rfl) h
  | _ :: _ :: _ :: _, h => exact absurd (by cases b <;> simp [bfn]) h
theorem Sees.one {vs : List PV} (h : Sees st vs [x]) : ∃ v, vs = [v] ∧ See st v x := by
  cases h with
  | cons h t => cases t; exact ⟨_, rfl, h⟩
theorem Sees.two {vs : List PV} (h : Sees st vs [x, y]) : ∃ v w, vs = [v, w] ∧ See st v x ∧ See st w y := by
  cases h with
  | cons h t => cases t with
    | cons h' t => cases t; exact ⟨_, _, rfl, h, h'⟩
/-- a thing that a list is read of -/
theorem bfn_lst {b : Bi} {bx : Bool} {f : List PV → R PV} (h0 : ∀ v st, bfn b bx [v] st = match lstOf st v with | some xs => (match f xs with | .ok z _ => .ok z st | _ => .bad) | none => .bad)
    (h1 : ∀ v st, bfn b false [v] st = match lstOf st v with | some xs => (match f xs with | .ok z _ => .ok z st | _ => .bad) | none => .bad) (hc : ∀ xs z st', f xs = .ok z st' → cont z = false) (s : See st v x) :
    Sim (VR n) st (bfn b bx [v] st) ((bfn b false [x] []).val.bind (mkV bx)) := by
  rw [h0, h1]
  cases e : lstOf [] x with
  | none => trivial
  | some xs =>
    rw [see_lstOf s e]
    cases e2 : f xs with
    | ok z st' => simp only [e2]; exact mkTree_sim (hc _ _ _ e2)
    | exc c st' => simp only [e2]; trivial
    | bad => simp only [e2]; trivial
/-- a thing that a list is made of -/
theorem bfn_mk {b : Bi} {bx : Bool} {c : List PV → Bool} {f : List PV → List PV} (h0 : ∀ bx v st, bfn b bx [v] st = match lstOf st v with | some xs => if c xs then mkLst bx (f xs) st else .bad | none => .bad) (hn : n ≤ st.length) (s : See st v x) :
    Sim (VR n) st (bfn b bx [v] st) ((bfn b false [x] []).val.bind (mkV bx)) := by
  rw [h0, h0]
  cases e : lstOf [] x with
  | none => trivial
  | some xs =>
    rw [see_lstOf s e]
    simp only
    split
    · exact mkLst_sim hn
    · trivial
theorem mkDct_sim {bx t : Bool} {kvs : List (DK × PV)} (hn : n ≤ st.length) : Sim (VR n) st (mkDct bx t kvs st) ((mkDct false t kvs []).val.bind (mkV bx)) := by
  cases bx with
  | false => exact Sim.done rfl
  | true => exact ⟨.box st.length, st ++ [.dct t kvs], rfl, List.prefix_append _ _, st.length, rfl, hn, rfl, by simp [po]⟩
theorem bfn_sim {b : Bi} {bx : Bool} {vs xs : List PV} (hn : n ≤ st.length) (ss : Sees st vs xs) : Sim (VR n) st (bfn b bx vs st) ((bfn b false xs []).val.bind (mkV bx)) := by
  by_cases hb : bfn b false xs [] = .bad
  · rw [hb]; trivial
  rcases bfn_arity hb with hl | hl
  · obtain ⟨x, rfl⟩ : ∃ x, xs = [x] := by
      match xs, hl with
      | [x], _ => exact ⟨x, rfl⟩
    obtain ⟨v, rfl, s⟩ := ss.one
    clear hl hb
    cases b with
    | len =>
      have key : ∀ (bx : Bool) (v : PV) (st : Sto), (∀ s, v ≠ .str s) → bfn .len bx [v] st = match seqOf st v with
          | some ys => .ok (.int ys.length) st
          | none => match dctOf st v with
            | some (false, kvs) => .ok (.int kvs.length) st
            | _ => .bad := by
        intro bx v st h
        cases v <;> first | rfl | exact absurd rfl (h _)
      by_cases hx : ∃ z, x = .str z
      · obtain ⟨z, rfl⟩ := hx
        cases s.eq rfl
        simp only [bfn]
        split
        · exact mkTree_sim rfl
        · trivial
      · have hx : ∀ z, x ≠ .str z := fun z e => hx ⟨z, e⟩
        have hv : ∀ z, v ≠ .str z := fun z e => by
          subst e
          rcases s with e | ⟨j, e, _⟩
          · exact hx z e.symm
          · cases e
        rw [key _ _ _ hv, key _ _ _ hx]
        cases e : seqOf [] x with
        | some ys =>
          rw [see_seqOf s e]
          exact mkTree_sim rfl
        | none =>
          cases e2 : dctOf [] x with
          | none => trivial
          | some p =>
            have e3 : seqOf st v = none := by
              cases x <;> simp [dctOf] at e2
              rcases s with rfl | ⟨j, rfl, _, e4⟩
              · rfl
              · simp [seqOf, e4, po]
            rw [e3, see_dctOf s e2]
            obtain ⟨t, kvs⟩ := p
            cases t
            · exact mkTree_sim rfl
            · trivial
    | listOf =>
      have key : ∀ (bx : Bool) (v : PV) (st : Sto), bfn .listOf bx [v] st = match seqOf st v with
          | some ys => mkLst bx ys st
          | none => match dctOf st v with
            | some kvs => mkLst bx (kvs.2.map fun p => dkV p.1) st
            | none => .bad := fun _ _ _ => rfl
      rw [key, key]
      cases e : seqOf [] x with
      | none =>
        cases e2 : dctOf [] x with
        | none => trivial
        | some p =>
          have e3 : seqOf st v = none := by
            cases x <;> simp [dctOf] at e2
            rcases s with rfl | ⟨j, rfl, _, e4⟩
            · rfl
            · simp [seqOf, e4, po]
          rw [e3, see_dctOf s e2]
          exact mkLst_sim hn
      | some ys =>
        rw [see_seqOf s e]
        exact mkLst_sim hn
    | sorted => exact bfn_mk (b := .sorted) (c := okSort) (f := sortP) (fun _ _ _ => rfl) hn s
    | sortedSet => exact bfn_mk (b := .sortedSet) (c := okSet) (f := fun xs => sortP (onceP xs)) (fun _ _ _ => rfl) hn s
    | sortedBy => exact bfn_mk (b := .sortedBy) (c := okBy) (f := fun xs => xs.mergeSort leBy) (fun _ _ _ => rfl) hn s
    | lenSet =>
      refine bfn_lst (f := fun xs => if okSet xs then .ok (.int (onceP xs).length) [] else .bad) (fun v st => ?_) (fun v st => ?_) (fun xs z st' h => ?_) s
      · show (match lstOf st v with | some xs => if okSet xs then R.ok (PV.int (onceP xs).length) st else .bad | none => .bad) = _
        cases lstOf st v with
        | none => rfl
        | some xs => simp only; split <;> rfl
      · show (match lstOf st v with | some xs => if okSet xs then R.ok (PV.int (onceP xs).length) st else .bad | none => .bad) = _
        cases lstOf st v with
        | none => rfl
        | some xs => simp only; split <;> rfl
      · split at h <;> cases h
        rfl
    | sortedItems =>
      have key : ∀ (bx : Bool) (v : PV) (st : Sto), bfn .sortedItems bx [v] st = match dctOf st v with
          | some (false, kvs) => if okSort (pairsP kvs) then mkLst bx (sortP (pairsP kvs)) st else .bad
          | _ => .bad := fun _ _ _ => rfl
      rw [key, key]
      cases e : dctOf [] x with
      | none => trivial
      | some p =>
        rw [see_dctOf s e]
        obtain ⟨t, kvs⟩ := p
        cases t with
        | true => trivial
        | false =>
          simp only
          split
          · exact mkLst_sim hn
          · trivial
    | dictOf =>
      have key : ∀ (bx : Bool) (v : PV) (st : Sto), bfn .dictOf bx [v] st = match lstOf st v with
          | some xs => (match dictP xs [] with
            | some kvs => mkDct bx false kvs st
            | none => .bad)
          | none => match dctOf st v with
            | some (false, kvs) => mkDct bx false kvs st
            | _ => .bad := fun _ _ _ => rfl
      rw [key, key]
      cases e : lstOf [] x with
      | some xs =>
        rw [see_lstOf s e]
        simp only
        cases dictP xs [] with
        | none => trivial
        | some kvs => exact mkDct_sim hn
      | none =>
        cases e2 : dctOf [] x with
        | none => trivial
        | some p =>
          have e3 : lstOf st v = none := by
            cases x <;> simp [dctOf] at e2
            rcases s with rfl | ⟨j, rfl, _, e4⟩
            · rfl
            · simp [lstOf, e4, po]
          rw [e3, see_dctOf s e2]
          obtain ⟨t, kvs⟩ := p
          cases t with
          | true => trivial
          | false => exact mkDct_sim hn
    | tupleOf =>
      have key : ∀ (bx : Bool) (v : PV) (st : Sto), (∀ ys, v ≠ .tup ys) → bfn .tupleOf bx [v] st = match lstOf st v with | some ys => .ok (.tup ys) st | none => .bad := by
        intro bx v st h
        cases v <;> first | rfl | exact absurd rfl (h _)
      by_cases hx : ∃ z, x = .tup z
      · obtain ⟨z, rfl⟩ := hx
        cases s.eq rfl
        exact mkTree_sim rfl
      · have hx : ∀ z, x ≠ .tup z := fun z e => hx ⟨z, e⟩
        have hv : ∀ z, v ≠ .tup z := fun z e => by
          subst e
          rcases s with e | ⟨j, e, _⟩
          · exact hx z e.symm
          · cases e
        rw [key _ _ _ hv, key _ _ _ hx]
        cases e : lstOf [] x with
        | none => trivial
        | some ys =>
          rw [see_lstOf s e]
          exact mkTree_sim rfl
    | sum =>
      refine bfn_lst (f := fun xs => match intsOf xs with | some ns => .ok (.int ns.sum) [] | none => .bad) (fun v st => ?_) (fun v st => ?_) (fun xs z st' h => ?_) s
      · show (match (lstOf st v).bind intsOf with | some ns => R.ok (PV.int ns.sum) st | none => .bad) = _
        cases lstOf st v with
        | none => rfl
        | some xs => simp only [Option.bind_some]; cases intsOf xs <;> rfl
      · show (match (lstOf st v).bind intsOf with | some ns => R.ok (PV.int ns.sum) st | none => .bad) = _
        cases lstOf st v with
        | none => rfl
        | some xs => simp only [Option.bind_some]; cases intsOf xs <;> rfl
      · split at h <;> cases h
        rfl
    | all =>
      refine bfn_lst (f := fun xs => match boolsOf xs with | some ns => .ok (.bool (ns.all id)) [] | none => .bad) (fun v st => ?_) (fun v st => ?_) (fun xs z st' h => ?_) s
      · show (match (lstOf st v).bind boolsOf with | some bs => R.ok (PV.bool (bs.all id)) st | none => .bad) = _
        cases lstOf st v with
        | none => rfl
        | some xs => simp only [Option.bind_some]; cases boolsOf xs <;> rfl
      · show (match (lstOf st v).bind boolsOf with | some bs => R.ok (PV.bool (bs.all id)) st | none => .bad) = _
        cases lstOf st v with
        | none => rfl
        | some xs => simp only [Option.bind_some]; cases boolsOf xs <;> rfl
      · split at h <;> cases h
        rfl
    | max1 =>
      refine bfn_lst (f := fun xs => match intsOf xs with | some (n :: ns) => .ok (.int (maxI n ns)) [] | _ => .bad) (fun v st => ?_) (fun v st => ?_) (fun xs z st' h => ?_) s
      · show (match (lstOf st v).bind intsOf with | some (n :: ns) => R.ok (PV.int (maxI n ns)) st | _ => .bad) = _
        cases lstOf st v with
        | none => rfl
        | some xs => simp only [Option.bind_some]; cases intsOf xs with
          | none => rfl
          | some ns => cases ns <;> rfl
      · show (match (lstOf st v).bind intsOf with | some (n :: ns) => R.ok (PV.int (maxI n ns)) st | _ => .bad) = _
        cases lstOf st v with
        | none => rfl
        | some xs => simp only [Option.bind_some]; cases intsOf xs with
          | none => rfl
          | some ns => cases ns <;> rfl
      · split at h <;> cases h
        rfl
    | min1 =>
      refine bfn_lst (f := fun xs => match intsOf xs with | some (n :: ns) => .ok (.int (minI n ns)) [] | _ => .bad) (fun v st => ?_) (fun v st => ?_) (fun xs z st' h => ?_) s
      · show (match (lstOf st v).bind intsOf with | some (n :: ns) => R.ok (PV.int (minI n ns)) st | _ => .bad) = _
        cases lstOf st v with
        | none => rfl
        | some xs => simp only [Option.bind_some]; cases intsOf xs with
          | none => rfl
          | some ns => cases ns <;> rfl
      · show (match (lstOf st v).bind intsOf with | some (n :: ns) => R.ok (PV.int (minI n ns)) st | _ => .bad) = _
        cases lstOf st v with
        | none => rfl
        | some xs => simp only [Option.bind_some]; cases intsOf xs with
          | none => rfl
          | some ns => cases ns <;> rfl
      · split at h <;> cases h
        rfl
    | abs =>
      cases x <;> first | exact True.intro | skip
      cases s.eq rfl
      exact mkTree_sim rfl
    | int =>
      cases x <;> first | exact True.intro | skip
      · cases s.eq rfl
        exact mkTree_sim rfl
      · cases s.eq rfl
        exact mkTree_sim rfl
    | _ => first | exact True.intro | (cases x <;> exact True.intro)
  · obtain ⟨x, y, rfl⟩ : ∃ x y, xs = [x, y] := by
      match xs, hl with
      | [x, y], _ => exact ⟨x, y, rfl⟩
    obtain ⟨v, w, rfl, s, t⟩ := ss.two
    clear hl hb
    cases b with
    | max2 =>
      cases x <;> cases y <;> first | exact True.intro | skip
      cases s.eq rfl; cases t.eq rfl
      exact mkTree_sim rfl
    | min2 =>
      cases x <;> cases y <;> first | exact True.intro | skip
      cases s.eq rfl; cases t.eq rfl
      exact mkTree_sim rfl
    | _ => first | exact True.intro | (cases x <;> exact True.intro) | (cases x <;> cases y <;> exact True.intro)
theorem bm_ty {m : Bm} (s : See st v x) (hp : pureM m = true) (h : bmTy m [] x = true) : bmTy m st v = true := by
  have l : (lstOf [] x).isSome = true → (lstOf st v).isSome = true := fun h => by
    obtain ⟨xs, e⟩ := Option.isSome_iff_exists.mp h
    rw [see_lstOf s e]
    rfl
  have d : (dctOf [] x).isSome = true → (dctOf st v).isSome = true := fun h => by
    obtain ⟨xs, e⟩ := Option.isSome_iff_exists.mp h
    rw [see_dctOf s e]
    rfl
  cases m <;> first | (simp [pureM] at hp; done) | exact d h | exact l h | skip
  all_goals
    cases x <;> first | (simp [bmTy] at h; done) | skip
    cases s.eq rfl
    exact h
theorem bm_sim {m : Bm} {lo : Nat} {xs : List PV} (s : See st v x) (hp : pureM m = true) : Sim (fun _ a b => a = b) st (bmf m lo v xs st) (bmf m 0 x xs []).val := by
  cases m with
  | get =>
    match xs with
    | [k] =>
      simp only [bmf, fGet]
      cases e : dctOf [] x with
      | none => trivial
      | some kvs =>
        rw [see_dctOf s e]
        cases keyOf k with
        | none => trivial
        | some k =>
          simp only
          split
          · exact Sim.done rfl
          · trivial
    | [] => trivial
    | _ :: _ :: _ => trivial
  | get2 =>
    match xs with
    | [k, d] =>
      simp only [bmf, fGet2]
      cases e : dctOf [] x with
      | none => trivial
      | some kvs =>
        rw [see_dctOf s e]
        cases keyOf k with
        | none => trivial
        | some k =>
          simp only
          split
          · exact Sim.done rfl
          · trivial
    | [] => trivial
    | [_] => trivial
    | _ :: _ :: _ :: _ => trivial
  | upper =>
    cases x <;> first | exact True.intro | skip
    cases s.eq rfl
    match xs with
    | [] =>
      simp only [bmf, fUpper]
      split
      · exact Sim.done rfl
      · trivial
    | _ :: _ => trivial
  | _ => first | exact True.intro | (simp [pureM] at hp; done)
theorem ty_sim {Γ : Gam} {sub : Nat → Nat → Bool} {t : Ty} {b : Bool} (hs : Γ.sub = sub) (h : isTy (gamN sub) [] x t = some b) : isTy Γ st x t = some b := by
  cases t <;> cases x <;> first | exact h | (simp [isTy, gamN] at h ⊢; done) | (simp [isTy, gamN, hs] at h ⊢; exact h)
theorem idx_sim (s : See st v x) (t : See st w y) : Sim (fun _ a b => a = b) st (idxf v w st) (idxf x y []).val := by
  cases x with
  | str z =>
    cases s.eq rfl
    cases y <;> first | exact True.intro | skip
    cases t.eq rfl
    simp only [idxf]
    split
    · cases atI z _ with
      | none => trivial
      | some c => exact Sim.done rfl
    · trivial
  | lst xs =>
    cases y <;> first | exact True.intro | skip
    cases t.eq rfl
    rename_i i
    have e : idxf v (.int i) st = ofOpt (atI xs i) st := by
      rcases s with rfl | ⟨j, rfl, _, e⟩
      · rfl
      · simp only [idxf, dctOf, seqOf, e, po]
    have e' : idxf (.lst xs) (.int i) [] = ofOpt (atI xs i) [] := rfl
    rw [e, e']
    cases atI xs i with
    | none => trivial
    | some c => exact Sim.done rfl
  | tup xs =>
    cases s.eq rfl
    cases y <;> first | exact True.intro | skip
    cases t.eq rfl
    rename_i i
    have e : ∀ st, idxf (.tup xs) (.int i) st = ofOpt (atI xs i) st := fun _ => rfl
    rw [e, e]
    cases atI xs i with
    | none => trivial
    | some c => exact Sim.done rfl
  | kls xs =>
    cases s.eq rfl
    cases y <;> first | exact True.intro | skip
    cases t.eq rfl
    rename_i i
    have e : ∀ st, idxf (.kls xs) (.int i) st = ofOpt (atI (xs.map .int) i) st := fun _ => rfl
    rw [e, e]
    cases atI (xs.map PV.int) i with
    | none => trivial
    | some c => exact Sim.done rfl
  | dct tt kvs =>
    have e' : idxf (.dct tt kvs) y [] = match keyOf y with | some k => if isT k = tt then ofOpt (dget kvs k) [] else .bad | none => .bad := rfl
    rw [e']
    cases ky : keyOf y with
    | none => trivial
    | some k =>
      have hw : w = y := t.eq (by cases y <;> first | rfl | (simp [keyOf] at ky))
      subst hw
      have e : idxf v w st = if isT k = tt then ofOpt (dget kvs k) st else .bad := by
        rcases s with rfl | ⟨j, rfl, _, e⟩
        · simp only [idxf, dctOf, ky]
        · simp only [idxf, dctOf, e, po, ky]
      rw [e]
      simp only
      split
      · cases dget kvs k with
        | none => trivial
        | some c => exact Sim.done rfl
      · trivial
  | _ => exact True.intro
theorem slice_sim {bx : Bool} {lo hi : Option Int} (hn : n ≤ st.length) (s : See st v x) : Sim (VR n) st (slicef bx v lo hi st) ((slicef false x lo hi []).val.bind (mkV bx)) := by
  cases x with
  | str z =>
    cases s.eq rfl
    simp only [slicef]
    split
    · exact mkTree_sim rfl
    · trivial
  | tup xs =>
    cases s.eq rfl
    exact mkTree_sim rfl
  | lst xs =>
    have e : slicef bx v lo hi st = mkLst bx (cut xs lo hi) st := by
      rcases s with rfl | ⟨j, rfl, _, e⟩
      · rfl
      · simp only [slicef, lstOf, e, po]
    rw [e]
    exact mkLst_sim hn
  | _ => exact True.intro
end

/-! ### environments -/
def SlotR (L : Nat) (st : Sto) (v : PV) (s : SV) : Prop := match s.kd with
  | .tree => v = s.x
  | .bor => v = s.x ∨ ∃ j, v = .box j ∧ j < L ∧ cont s.x = true ∧ st[j]? = some (po s.x)
  | .own => ∃ j, v = .box j ∧ L ≤ j ∧ cont s.x = true ∧ st[j]? = some (po s.x)
def OwnB (ρ : Env) (ρv : VEnv) (i j : Nat) : Prop := ∃ x, ρv[i]? = some (some ⟨.own, x⟩) ∧ ρ[i]? = some (some (.box j))
structure EnvR (L : Nat) (st : Sto) (ρ : Env) (ρv : VEnv) : Prop where
  len : ρ.length = ρv.length
  slot : ∀ (i : Nat) (s : SV), ρv[i]? = some (some s) → ∃ v : PV, ρ[i]? = some (some v) ∧ SlotR L st v s
  dist : ∀ i i' j : Nat, OwnB ρ ρv i j → OwnB ρ ρv i' j → i = i'
section
variable {L n : Nat} {st st' : Sto} {ρ : Env} {ρv : VEnv}
theorem SlotR.grow {v : PV} {s : SV} (h : SlotR L st v s) (p : st <+: st') : SlotR L st' v s := by
  obtain ⟨k, x⟩ := s
  cases k with
  | tree => exact h
  | own => obtain ⟨j, a, b, c, d⟩ := h; exact ⟨j, a, b, c, pre_at p d⟩
  | bor => exact Or.imp id (fun ⟨j, a, b, c, d⟩ => ⟨j, a, b, c, pre_at p d⟩) h
theorem SlotR.rd {v : PV} {s : SV} (h : SlotR L st v s) : VR n st v s.rd := by
  obtain ⟨k, x⟩ := s
  cases k with
  | tree => exact h
  | own => obtain ⟨j, a, b, c⟩ := h; exact .inr ⟨j, a, c⟩
  | bor => exact Or.imp id (fun ⟨j, a, b, c⟩ => ⟨j, a, c⟩) h
theorem EnvR.grow (h : EnvR L st ρ ρv) (p : st <+: st') : EnvR L st' ρ ρv := ⟨h.len, fun i s e => let ⟨v, a, b⟩ := h.slot i s e; ⟨v, a, b.grow p⟩, h.dist⟩
theorem EnvR.ownAt (h : EnvR L st ρ ρv) {i j : Nat} (o : OwnB ρ ρv i j) : L ≤ j ∧ j < st.length := by
  obtain ⟨x, a, b⟩ := o
  obtain ⟨v, c, d⟩ := h.slot i _ a
  rw [b] at c
  cases c
  obtain ⟨j', e, f, g, hh⟩ := d
  cases e
  exact ⟨f, lt_of_at hh⟩
theorem get_set_some {α : Type} {l : List α} {i j : Nat} {a b : α} (h : (l.set i a)[j]? = some b) : (i = j ∧ a = b ∧ j < l.length) ∨ (i ≠ j ∧ l[j]? = some b) := by
  by_cases e : i = j
  · subst e
    by_cases hl : i < l.length
    · rw [List.getElem?_set_self hl] at h
      exact .inl ⟨rfl, Option.some.inj h, hl⟩
    · rw [List.getElem?_eq_none (by simp; omega)] at h
      cases h
  · rw [List.getElem?_set_ne e] at h
    exact .inr ⟨e, h⟩
/-- a name's new value -/
theorem EnvR.put (h : EnvR L st ρ ρv) {i : Nat} {v : PV} {s : SV} (r : SlotR L st v s) (hd : s.kd = .own → ∀ i' j, v = .box j → ¬ OwnB ρ ρv i' j) : EnvR L st (ρ.set i (some v)) (ρv.set i (some s)) where
  len := by rw [List.length_set, List.length_set]; exact h.len
  slot := fun i' s' e => by
    rcases get_set_some e with ⟨rfl, e2, hl⟩ | ⟨ne, e2⟩
    · cases e2
      exact ⟨v, List.getElem?_set_self (by rw [h.len]; exact hl), r⟩
    · obtain ⟨v', a, b⟩ := h.slot i' s' e2
      exact ⟨v', by rw [List.getElem?_set_ne ne]; exact a, b⟩
  dist := by
    have key : ∀ i' j, OwnB (ρ.set i (some v)) (ρv.set i (some s)) i' j → (i' = i ∧ s.kd = .own ∧ v = .box j) ∨ (i' ≠ i ∧ OwnB ρ ρv i' j) := by
      rintro i' j ⟨x, a, b⟩
      rcases get_set_some a with ⟨rfl, e2, hl⟩ | ⟨ne, e2⟩
      · rcases get_set_some b with ⟨_, e3, _⟩ | ⟨ne, _⟩
        · cases e2; cases e3
          exact .inl ⟨rfl, rfl, rfl⟩
        · exact absurd rfl ne
      · rcases get_set_some b with ⟨q, _⟩ | ⟨_, e3⟩
        · exact absurd q ne
        · exact .inr ⟨fun q => ne q.symm, x, e2, e3⟩
    intro i1 i2 j o1 o2
    rcases key _ _ o1 with ⟨q1, k1, e1⟩ | ⟨n1, p1⟩ <;> rcases key _ _ o2 with ⟨q2, k2, e2⟩ | ⟨n2, p2⟩
    · exact q1.trans q2.symm
    · exact absurd p2 (hd k1 _ _ e1)
    · exact absurd p1 (hd k2 _ _ e2)
    · exact h.dist _ _ _ p1 p2
theorem EnvR.putT (h : EnvR L st ρ ρv) {i : Nat} {v : PV} : EnvR L st (ρ.set i (some v)) (ρv.set i (some ⟨.tree, v⟩)) := h.put (s := ⟨.tree, v⟩) rfl (fun k => by cases k)
theorem EnvR.unset (h : EnvR L st ρ ρv) {i : Nat} {o : Option PV} : EnvR L st (ρ.set i o) (ρv.set i none) where
  len := by rw [List.length_set, List.length_set]; exact h.len
  slot := fun i' s' e => by
    rcases get_set_some e with ⟨rfl, e2, hl⟩ | ⟨ne, e2⟩
    · cases e2
    · obtain ⟨v', a, b⟩ := h.slot i' s' e2
      exact ⟨v', by rw [List.getElem?_set_ne ne]; exact a, b⟩
  dist := by
    have key : ∀ i' j, OwnB (ρ.set i o) (ρv.set i none) i' j → OwnB ρ ρv i' j := by
      rintro i' j ⟨x, a, b⟩
      rcases get_set_some a with ⟨rfl, e2, hl⟩ | ⟨ne, e2⟩
      · cases e2
      · rcases get_set_some b with ⟨q, _⟩ | ⟨_, e3⟩
        · exact absurd q ne
        · exact ⟨x, e2, e3⟩
    exact fun i1 i2 j o1 o2 => h.dist _ _ _ (key _ _ o1) (key _ _ o2)
theorem EnvR.wipe (h : EnvR L st ρ ρv) : ∀ vs : List Nat, EnvR L st (wipe ρ vs) (wipeV ρv vs)
  | [] => h
  | i :: r => (h.wipe r).unset
mutual
theorem assign_sim : ∀ (t : Tg) (x : PV) (ρ : Env) (ρv ρv' : VEnv), EnvR L st ρ ρv → assignV t x ρv = some ρv' → ∃ ρ', assign t x ρ = some ρ' ∧ EnvR L st ρ' ρv'
  | .name i, x, ρ, ρv, ρv', h, e => by
    simp only [assignV] at e
    cases e
    exact ⟨_, by simp only [assign], h.putT⟩
  | .tup l, x, ρ, ρv, ρv', h, e => by
    cases x with
    | tup xs =>
      simp only [assignV] at e
      obtain ⟨ρ', a, b⟩ := assigns_sim l xs ρ ρv ρv' h e
      exact ⟨ρ', by simp only [assign]; exact a, b⟩
    | lst xs =>
      simp only [assignV] at e
      obtain ⟨ρ', a, b⟩ := assigns_sim l xs ρ ρv ρv' h e
      exact ⟨ρ', by simp only [assign]; exact a, b⟩
    | _ => simp [assignV] at e
theorem assigns_sim : ∀ (l : List Tg) (xs : List PV) (ρ : Env) (ρv ρv' : VEnv), EnvR L st ρ ρv → assignV.go l xs ρv = some ρv' → ∃ ρ', assign.go l xs ρ = some ρ' ∧ EnvR L st ρ' ρv'
  | [], [], ρ, ρv, ρv', h, e => by
    simp only [assignV.go] at e
    cases e
    exact ⟨ρ, by simp only [assign.go], h⟩
  | [], _ :: _, ρ, ρv, ρv', h, e => by simp [assignV.go] at e
  | _ :: _, [], ρ, ρv, ρv', h, e => by simp [assignV.go] at e
  | t :: l, x :: xs, ρ, ρv, ρv', h, e => by
    simp only [assignV.go] at e
    obtain ⟨ρ1, e1, e2⟩ := Option.bind_eq_some_iff.mp e
    obtain ⟨ρ', a, b⟩ := assign_sim t x ρ ρv ρ1 h e1
    obtain ⟨ρ'', a', b'⟩ := assigns_sim l xs ρ' ρ1 ρv' b e2
    exact ⟨ρ'', by simp only [assign.go, a, Option.bind_some]; exact a', b'⟩
end
end
end Z

set_option maxHeartbeats 200000
set_option maxRecDepth 512
set_option maxHeartbeats 4000000
/-! The language by values is right: expressions. -/
namespace Z
inductive Args (st : Sto) : List PV → List SV → Prop
  | nil : Args st [] []
  | cons {v : PV} {s : SV} {vs : List PV} {ss : List SV} (hk : s.kd ≠ .own) (h : VR 0 st v s) (t : Args st vs ss) : Args st (v :: vs) (s :: ss)
structure GR (Γ : Gam) (Γv : GamV) : Prop where
  fn : ∀ (f lo : Nat) (st : Sto) (vs : List PV) (xs : List SV), lo ≤ st.length → Args st vs xs → Sim (VR st.length) st (Γ.fn f lo vs st) (Γv.fn f xs)
  sub : Γ.sub = Γv.sub
def SrcR (st : Sto) (s : Src) (xs : List PV) : Prop := s = .fix xs ∨ ∃ j, s = .live j ∧ st[j]? = some (.lst xs)
section
variable {st : Sto} {n : Nat}
theorem Args.grow {st st' : Sto} : ∀ {vs : List PV} {ss : List SV}, Args st vs ss → st <+: st' → Args st' vs ss
  | _, _, .nil, _ => .nil
  | _, _, .cons hk h t, p => .cons hk (h.grow p) (t.grow p)
theorem Args.sees {st : Sto} : ∀ {vs : List PV} {ss : List SV}, Args st vs ss → Sees st vs (ss.map SV.x)
  | _, _, .nil => .nil
  | _, _, .cons hk h t => .cons h.see t.sees
theorem VR.rd {st : Sto} {v : PV} {s : SV} (h : VR n st v s) : VR 0 st v s.rd ∧ s.rd.kd ≠ .own := by
  obtain ⟨k, x⟩ := s
  cases k with
  | tree => exact ⟨h, by simp⟩
  | own => obtain ⟨j, a, _, c⟩ := h; exact ⟨.inr ⟨j, a, c⟩, by simp⟩
  | bor => exact ⟨h, by simp⟩
theorem Sim.tv {α β : Type} {rel' : Sto → α → β → Prop} {f : PV → Sto → R α} {g : PV → O β} {v : PV} {s : SV} (h : VR n st v s) (k : s.tv = .ok v → Sim rel' st (f v st) (g v)) : Sim rel' st (f v st) (s.tv.bind g) := by
  cases e : s.tv with
  | ok y => cases h.tv e; exact k e
  | exc c => exact (tv_exc e).elim
  | bad => trivial
theorem compFix_sim {f : PV → Sto → R (Option PV)} {fV : PV → O (Option PV)} (hf : ∀ x st1, st <+: st1 → Sim (fun _ a b => a = b) st1 (f x st1) (fV x)) : ∀ (xs : List PV) (st1 : Sto), st <+: st1 → Sim (fun _ a b => a = b) st1 (compFix f xs st1) (compV fV xs)
  | [], st1, p => Sim.done rfl
  | x :: xs, st1, p => by
    unfold compFix compV
    refine (hf x st1 p).bind fun a st2 b q e => ?_
    subst e
    refine (compFix_sim hf xs st2 (p.trans q)).bind fun a' st3 b' q' e => ?_
    subst e
    exact Sim.done rfl
theorem compLive_sim {f : PV → Sto → R (Option PV)} {fV : PV → O (Option PV)} {j : Nat} {xs : List PV} (hj : st[j]? = some (.lst xs)) (hf : ∀ x st1, st <+: st1 → Sim (fun _ a b => a = b) st1 (f x st1) (fV x)) : ∀ (m k : Nat) (st1 : Sto), st <+: st1 → k ≤ xs.length → xs.length + 1 ≤ m + k → Sim (fun _ a b => a = b) st1 (compLive j f m k st1) (compV fV (xs.drop k))
  | 0, k, st1, p, h1, h2 => by omega
  | m + 1, k, st1, p, h1, h2 => by
    unfold compLive
    rw [pre_at p hj]
    simp only
    by_cases hk : k < xs.length
    · rw [List.drop_eq_getElem_cons hk, List.getElem?_eq_getElem hk]
      unfold compV
      refine (hf _ st1 p).bind fun a st2 b q e => ?_
      subst e
      refine (compLive_sim hj hf m (k + 1) st2 (p.trans q) hk (by omega)).bind fun a' st3 b' q' e => ?_
      subst e
      exact Sim.done rfl
    · rw [List.drop_eq_nil_of_le (by omega), List.getElem?_eq_none (by omega)]
      exact Sim.done rfl
theorem seq_sim {v x : PV} {xs : List PV} (s : See st v x) (h : seqV x = some xs) : ∃ sr, srcOf v st = .ok sr st ∧ SrcR st sr xs := by
  cases x <;> simp [seqV] at h
  · cases s.eq rfl; exact ⟨_, rfl, .inl (by rw [h])⟩
  · cases s.eq rfl; exact ⟨_, rfl, .inl (by rw [h])⟩
  · subst h
    rcases s with rfl | ⟨j, rfl, _, e⟩
    · exact ⟨_, rfl, .inl rfl⟩
    · refine ⟨.live j, by simp only [srcOf, e, po], .inr ⟨j, rfl, e⟩⟩
theorem Sim.boolM {α β : Type} {rel : Sto → α → β → Prop} {v : PV} {s : SV} (h : See st v s.x) {f : Bool → R α} {g : Bool → O β} (k : ∀ t, Sim rel st (f t) (g t)) {F : PV → R α} (hF : ∀ t, F (.bool t) = f t) :
    Sim rel st (F v) (match s.x with | .bool t => g t | _ => .bad) := by
  generalize s.x = x at h
  cases x <;> first | trivial | skip
  cases h.eq rfl
  rw [hF]
  exact k _
end

def elE (Γ : Gam) (lo : Nat) (tg : Tg) (vs : List Nat) (cond : Option ME) (elt : ME) (ρ : Env) : PV → Sto → R (Option PV) := fun x st2 => match assign tg x (wipe ρ vs) with
  | some ρ' => (match cond with
    | some c => (eval Γ lo c ρ' st2).calm.bind fun b st3 => match b with
      | .bool true => (eval Γ lo elt ρ' st3).calm.bind fun y st4 => .ok (some y) st4
      | .bool false => .ok none st3
      | _ => .bad
    | none => (eval Γ lo elt ρ' st2).calm.bind fun y st4 => .ok (some y) st4)
  | none => .bad
theorem eval_compE {Γ : Gam} {lo : Nat} {tg : Tg} {vs : List Nat} {it : MI} {cond : Option ME} {elt : ME} {ρ : Env} {st : Sto} {bx : Bool} :
    eval Γ lo (.comp bx tg vs it cond elt) ρ st = (source Γ lo it ρ st).bind fun s st1 => (match s with
      | .fix xs => compFix (elE Γ lo tg vs cond elt ρ) xs st1
      | .live i => compLive i (elE Γ lo tg vs cond elt ρ) (match st1[i]? with | some (.lst xs) => xs.length + 1 | _ => 0) 0 st1
      | .liveE _ => .bad).bind fun ys st2 => if ys.length ≤ sizeLine then mkLst bx ys st2 else .bad := by
  rw [eval.eq_def]
  cases cond <;> rfl
def elV (Γ : GamV) (tg : Tg) (vs : List Nat) (cond : Option ME) (elt : ME) (ρ : VEnv) : PV → O (Option PV) := fun x => match assignV tg x (wipeV ρ vs) with
  | some ρ' => (match cond with
    | some c => (evalV Γ c ρ').calm.bind fun b => (match b.x with
      | .bool t => if t then (evalV Γ elt ρ').calm.bind fun y => y.tv.bind fun z => .ok (some z) else .ok none
      | _ => .bad)
    | none => (evalV Γ elt ρ').calm.bind fun y => y.tv.bind fun z => .ok (some z))
  | none => .bad
theorem evalV_compV {Γ : GamV} {tg : Tg} {vs : List Nat} {it : MI} {cond : Option ME} {elt : ME} {ρ : VEnv} {bx : Bool} :
    evalV Γ (.comp bx tg vs it cond elt) ρ = (sourceV Γ it ρ).bind fun xs => (compV (elV Γ tg vs cond elt ρ) xs).bind fun ys => if ys.length ≤ sizeLine then mkV bx (.lst ys) else .bad := by
  rw [evalV.eq_def]
  cases cond <;> rfl
section
variable {Γ : Gam} {Γv : GamV}
mutual
theorem sndV (hΓ : GR Γ Γv) (e : ME) {ρ : Env} {ρv : VEnv} {st : Sto} {L lo n : Nat} (h1 : lo ≤ L) (h2 : L ≤ st.length) (h3 : n ≤ st.length) (E : EnvR L st ρ ρv) : Sim (VR n) st (eval Γ lo e ρ st) (evalV Γv e ρv) := by
  match e with
  | .const d => simp only [eval, evalV]; exact Sim.done rfl
  | .var i =>
    simp only [eval, evalV]
    cases q : ρv[i]? with
    | none => trivial
    | some o =>
      cases o with
      | none => trivial
      | some s =>
        obtain ⟨v, a, b⟩ := E.slot i s q
        simp only [a]
        exact Sim.done b.rd
  | .glob _ d => simp only [eval, evalV]; exact Sim.done rfl
  | .bin op bx a b =>
    simp only [eval, evalV]
    refine (sndV hΓ a h1 h2 h3 E).bind fun v st1 s p r => ?_
    have l := p.length_le
    refine (sndV hΓ b (n := n) h1 (by omega) (by omega) (E.grow p)).bind fun w st2 t p2 r2 => ?_
    have l2 := p2.length_le
    exact op_sim (by omega) (r.grow p2) r2
  | .neg a =>
    simp only [eval, evalV]
    refine (sndV hΓ a h1 h2 h3 E).bind fun v st1 s p r => ?_
    replace r := r.see
    generalize s.x = x at r
    cases x <;> first | trivial | skip
    cases r.eq rfl
    exact Sim.done rfl
  | .nt a =>
    simp only [eval, evalV]
    refine (sndV hΓ a h1 h2 h3 E).bind fun v st1 s p r => ?_
    replace r := r.see
    generalize s.x = x at r
    cases x <;> first | trivial | skip
    cases r.eq rfl
    exact Sim.done rfl
  | .and a b =>
    simp only [eval, evalV]
    refine (sndV hΓ a h1 h2 h3 E).bind fun v st1 s p r => ?_
    have l := p.length_le
    replace r := r.see
    generalize s.x = x at r
    cases x <;> first | trivial | skip
    cases r.eq rfl
    rename_i t
    cases t with
    | true => exact sndV hΓ b h1 (by omega) (by omega) (E.grow p)
    | false => exact Sim.done rfl
  | .or a b =>
    simp only [eval, evalV]
    refine (sndV hΓ a h1 h2 h3 E).bind fun v st1 s p r => ?_
    have l := p.length_le
    replace r := r.see
    generalize s.x = x at r
    cases x <;> first | trivial | skip
    cases r.eq rfl
    rename_i t
    cases t with
    | false => exact sndV hΓ b h1 (by omega) (by omega) (E.grow p)
    | true => exact Sim.done rfl
  | .cmp op a b =>
    simp only [eval, evalV]
    refine (sndV hΓ a h1 h2 h3 E).bind fun v st1 s p r => ?_
    have l := p.length_le
    refine (sndV hΓ b (n := n) h1 (by omega) (by omega) (E.grow p)).bind fun w st2 t p2 r2 => ?_
    cases hl : lhsV op s with
    | bad => trivial
    | exc c =>
      unfold lhsV at hl
      split at hl
      · exact (tv_exc hl).elim
      · cases hl
    | ok u =>
      simp only [O.bind_ok]
      cases hc : cmpV op u t.x [] with
      | none => trivial
      | some b =>
        rw [cmp_sim (r.grow p2) r2 hl hc]
        exact Sim.done rfl
  | .chain op op' a b c =>
    simp only [eval, evalV]
    refine (sndV hΓ a h1 h2 h3 E).bind fun v st1 s p r => ?_
    have l := p.length_le
    refine (sndV hΓ b (n := n) h1 (by omega) (by omega) (E.grow p)).bind fun w st2 t p2 r2 => ?_
    have l2 := p2.length_le
    cases hl : lhsV op s with
    | bad => trivial
    | exc c =>
      unfold lhsV at hl
      split at hl
      · exact (tv_exc hl).elim
      · cases hl
    | ok u =>
      simp only [O.bind_ok]
      cases hc : cmpV op u t.x [] with
      | none => trivial
      | some b =>
        rw [cmp_sim (r.grow p2) r2 hl hc]
        simp only [oOpt_some, O.bind_ok]
        cases b with
        | false => exact Sim.done rfl
        | true =>
          refine (sndV hΓ c (n := n) h1 (by omega) (by omega) ((E.grow p).grow p2)).bind fun z st3 tz p3 r3 => ?_
          cases hl : lhsV op' t with
          | bad => trivial
          | exc c =>
            unfold lhsV at hl
            split at hl
            · exact (tv_exc hl).elim
            · cases hl
          | ok u =>
            simp only [O.bind_ok]
            cases hc : cmpV op' u tz.x [] with
            | none => trivial
            | some b =>
              rw [cmp_sim (r2.grow p3) r3 hl hc]
              exact Sim.done rfl
  | .ite c a b =>
    simp only [eval, evalV]
    refine (sndV hΓ c h1 h2 h3 E).bind fun v st1 s p r => ?_
    have l := p.length_le
    replace r := r.see
    generalize s.x = x at r
    cases x <;> first | trivial | skip
    cases r.eq rfl
    rename_i t
    cases t with
    | false => exact sndV hΓ b h1 (by omega) (by omega) (E.grow p)
    | true => exact sndV hΓ a h1 (by omega) (by omega) (E.grow p)
  | .tup es =>
    simp only [eval, evalV]
    refine (sndVT hΓ es h1 h2 E).bind fun v st1 s p r => ?_
    subst r
    split
    · exact Sim.done rfl
    · trivial
  | .lst bx es =>
    simp only [eval, evalV]
    refine (sndVT hΓ es h1 h2 E).bind fun v st1 s p r => ?_
    have l := p.length_le
    subst r
    split
    · exact mkLst_sim (by omega)
    · trivial
  | .dict0 t =>
    simp only [eval, evalV]
    exact ⟨_, _, rfl, List.prefix_append _ _, st.length, rfl, h3, rfl, by simp [po]⟩
  | .call f es =>
    simp only [eval, evalV]
    refine (sndVA hΓ es h1 h2 E).bind fun v st1 s p r => ?_
    have l := p.length_le
    exact (hΓ.fn f lo st1 v s (by omega) r).mono fun _ _ _ r => r.mono (by omega)
  | .bi b bx es =>
    simp only [eval, evalV]
    refine (sndVA hΓ es h1 h2 E).bind fun v st1 s p r => ?_
    have l := p.length_le
    exact bfn_sim (by omega) r.sees
  | .bm m o es =>
    simp only [eval, evalV]
    refine (sndV hΓ o h1 h2 h3 E).bind fun v st1 s p r => ?_
    have l := p.length_le
    by_cases hc : (pureM m && bmTy m [] s.x) = true
    · rw [if_pos hc]
      simp only [Bool.and_eq_true] at hc
      rw [if_pos (bm_ty r.see hc.1 hc.2)]
      refine (sndVT hΓ es h1 (by omega) (E.grow p)).bind fun xs st2 ys p2 r2 => ?_
      subst r2
      have := bm_sim (lo := lo) (xs := xs) (r.grow p2).see hc.1
      cases hz : (bmf m 0 s.x xs []).val with
      | ok z =>
        rw [hz] at this
        obtain ⟨a, st', e, q, e2⟩ := this
        subst e2
        exact ⟨a, st', e, q, rfl⟩
      | exc c => rw [hz] at this; exact this
      | bad => trivial
    · rw [if_neg hc]; trivial
  | .isinst a t =>
    simp only [eval, evalV]
    refine (sndV hΓ a h1 h2 h3 E).bind fun v st1 s p r => ?_
    cases e : s.tv with
    | exc c => exact (tv_exc e).elim
    | bad => trivial
    | ok y =>
      cases r.tv e
      simp only [O.bind_ok]
      cases hi : isTy (gamN Γv.sub) [] v t with
      | none => trivial
      | some b =>
        rw [ty_sim hΓ.sub hi]
        exact Sim.done rfl
  | .idx a i =>
    simp only [eval, evalV]
    refine (sndV hΓ a h1 h2 h3 E).bind fun v st1 s p r => ?_
    have l := p.length_le
    refine (sndV hΓ i (n := n) h1 (by omega) (by omega) (E.grow p)).bind fun w st2 t p2 r2 => ?_
    have := idx_sim (r.grow p2).see r2.see
    cases hz : (idxf s.x t.x []).val with
    | ok z =>
      rw [hz] at this
      obtain ⟨a, st', e, q, e2⟩ := this
      subst e2
      exact ⟨a, st', e, q, rfl⟩
    | exc c => rw [hz] at this; exact this
    | bad => trivial
  | .slice bx a lo' hi =>
    simp only [eval, evalV]
    refine (sndV hΓ a h1 h2 h3 E).bind fun v st1 s p r => ?_
    have l := p.length_le
    refine (sndVO hΓ lo' h1 (by omega) (E.grow p)).bind fun x st2 y p2 r2 => ?_
    have l2 := p2.length_le
    subst r2
    refine (sndVO hΓ hi h1 (by omega) ((E.grow p).grow p2)).bind fun x' st3 y' p3 r3 => ?_
    have l3 := p3.length_le
    subst r3
    exact slice_sim (by omega) ((r.grow p2).grow p3).see
  | .comp bx tg vs it cond elt =>
    rw [eval_compE, evalV_compV]
    refine (sndVI hΓ it h1 h2 E).bind fun s st1 xs p r => ?_
    have l := p.length_le
    have elem : ∀ x st2, st1 <+: st2 → Sim (fun _ a b => a = b) st2 (elE Γ lo tg vs cond elt ρ x st2) (elV Γv tg vs cond elt ρv x) := by
      intro x st2 p2
      have l2 := p2.length_le
      unfold elE elV
      cases ha : assignV tg x (wipeV ρv vs) with
      | none => trivial
      | some ρv' =>
        obtain ⟨ρ', e1, E'⟩ := assign_sim tg x _ _ _ (((E.grow p).grow p2).wipe vs) ha
        rw [e1]
        match cond with
        | some c =>
          simp only
          refine (sndV hΓ c (n := n) h1 (by omega) (by omega) E').calm.bind fun v st3 sb p3 r3 => ?_
          have l3 := p3.length_le
          replace r3 := r3.see
          generalize sb.x = xb at r3
          cases xb <;> first | trivial | skip
          cases r3.eq rfl
          rename_i t
          cases t with
          | true =>
            refine (sndV hΓ elt (n := n) h1 (by omega) (by omega) (E'.grow p3)).calm.bind fun y st4 sy p4 r4 => ?_
            exact Sim.tv (f := fun y st4 => .ok (some y) st4) r4 fun _ => Sim.done rfl
          | false => exact Sim.done rfl
        | none =>
          simp only
          refine (sndV hΓ elt (n := n) h1 (by omega) (by omega) E').calm.bind fun y st4 sy p4 r4 => ?_
          exact Sim.tv (f := fun y st4 => .ok (some y) st4) r4 fun _ => Sim.done rfl
    refine Sim.bind (rel := fun _ a b => a = b) ?_ fun ys st2 ys' p2 e => ?_
    · rcases r with rfl | ⟨j, rfl, hj⟩
      · exact compFix_sim elem xs st1 (List.prefix_refl _)
      · simp only [hj]
        have := compLive_sim hj elem (xs.length + 1) 0 st1 (List.prefix_refl _) (Nat.zero_le _) (by omega)
        rw [List.drop_zero] at this
        exact this
    · subst e
      have l2 := p2.length_le
      split
      · exact mkLst_sim (by omega)
      · trivial
  | .make _ _ => simp only [evalV]; trivial
  | .meth _ _ _ => simp only [evalV]; trivial
  | .attr _ _ => simp only [evalV]; trivial
theorem sndVT (hΓ : GR Γ Γv) (e : MEs) {ρ : Env} {ρv : VEnv} {st : Sto} {L lo : Nat} (h1 : lo ≤ L) (h2 : L ≤ st.length) (E : EnvR L st ρ ρv) : Sim (fun _ a b => a = b) st (evals Γ lo e ρ st) (evalsT Γv e ρv) := by
  match e with
  | .nil => simp only [evals, evalsT]; exact Sim.done rfl
  | .cons e r =>
    simp only [evals, evalsT]
    refine (sndV hΓ e (n := 0) h1 h2 (Nat.zero_le _) E).bind fun v st1 s p r1 => ?_
    have l := p.length_le
    refine Sim.tv (f := fun v st1 => (evals Γ lo r ρ st1).bind fun xs st2 => .ok (v :: xs) st2) r1 fun _ => ?_
    refine (sndVT hΓ r h1 (by omega) (E.grow p)).bind fun vs st2 ss p2 r2 => ?_
    subst r2
    exact Sim.done rfl
theorem sndVA (hΓ : GR Γ Γv) (e : MEs) {ρ : Env} {ρv : VEnv} {st : Sto} {L lo : Nat} (h1 : lo ≤ L) (h2 : L ≤ st.length) (E : EnvR L st ρ ρv) : Sim Args st (evals Γ lo e ρ st) (evalsA Γv e ρv) := by
  match e with
  | .nil => simp only [evals, evalsA]; exact Sim.done .nil
  | .cons e r =>
    simp only [evals, evalsA]
    refine (sndV hΓ e (n := 0) h1 h2 (Nat.zero_le _) E).bind fun v st1 s p r1 => ?_
    have l := p.length_le
    refine (sndVA hΓ r h1 (by omega) (E.grow p)).bind fun vs st2 ss p2 r2 => ?_
    exact Sim.done (.cons (r1.grow p2).rd.2 (r1.grow p2).rd.1 r2)
theorem sndVO (hΓ : GR Γ Γv) (e : Option ME) {ρ : Env} {ρv : VEnv} {st : Sto} {L lo : Nat} (h1 : lo ≤ L) (h2 : L ≤ st.length) (E : EnvR L st ρ ρv) : Sim (fun _ a b => a = b) st (evalO Γ lo e ρ st) (evalOV Γv e ρv) := by
  match e with
  | none => simp only [evalO, evalOV]; exact Sim.done rfl
  | some e =>
    simp only [evalO, evalOV]
    refine (sndV hΓ e (n := 0) h1 h2 (Nat.zero_le _) E).bind fun v st1 s p r => ?_
    replace r := r.see
    generalize s.x = x at r
    cases x <;> first | trivial | skip
    cases r.eq rfl
    exact Sim.done rfl
theorem sndVI (hΓ : GR Γ Γv) (e : MI) {ρ : Env} {ρv : VEnv} {st : Sto} {L lo : Nat} (h1 : lo ≤ L) (h2 : L ≤ st.length) (E : EnvR L st ρ ρv) : Sim SrcR st (source Γ lo e ρ st) (sourceV Γv e ρv) := by
  match e with
  | .seq e =>
    simp only [source, sourceV]
    refine (sndV hΓ e (n := 0) h1 h2 (Nat.zero_le _) E).bind fun v st1 s p r => ?_
    cases hs : seqV s.x with
    | none => trivial
    | some xs =>
      obtain ⟨sr, e1, e2⟩ := seq_sim r.see hs
      rw [e1]
      exact Sim.done e2
  | .range1 a =>
    simp only [source, sourceV]
    refine (sndV hΓ a (n := 0) h1 h2 (Nat.zero_le _) E).bind fun v st1 s p r => ?_
    replace r := r.see
    generalize s.x = x at r
    cases x <;> first | trivial | skip
    cases r.eq rfl
    rename_i i
    simp only
    by_cases hc : i < 1000000000 ∧ -1000000000 < i
    · rw [if_pos hc, if_pos (by simpa using hc)]
      exact Sim.done (.inl rfl)
    · rw [if_neg hc]; trivial
  | .range2 a b =>
    simp only [source, sourceV]
    refine (sndV hΓ a (n := 0) h1 h2 (Nat.zero_le _) E).bind fun v st1 s p r => ?_
    have l := p.length_le
    refine (sndV hΓ b (n := 0) h1 (by omega) (Nat.zero_le _) (E.grow p)).bind fun w st2 t p2 r2 => ?_
    replace r := r.see
    replace r2 := r2.see
    generalize s.x = x at r
    generalize t.x = y at r2
    cases x <;> cases y <;> first | trivial | skip
    cases r.eq rfl
    cases r2.eq rfl
    rename_i m i
    simp only
    by_cases hc : i < 1000000000 ∧ -1000000000 < i ∧ m < 1000000000 ∧ -1000000000 < m
    · rw [if_pos hc, if_pos (by simpa [and_assoc] using hc)]
      exact Sim.done (.inl rfl)
    · rw [if_neg hc]; trivial
  | .enum e =>
    simp only [source, sourceV]
    refine (sndV hΓ e (n := 0) h1 h2 (Nat.zero_le _) E).bind fun v st1 s p r => ?_
    cases e : s.tv with
    | exc c => exact (tv_exc e).elim
    | bad => trivial
    | ok y =>
      cases r.tv e
      simp only [O.bind_ok]
      cases v <;> first | trivial | exact Sim.done (.inl rfl)
  | .zip a b =>
    simp only [source, sourceV]
    refine (sndV hΓ a (n := 0) h1 h2 (Nat.zero_le _) E).bind fun v st1 s p r => ?_
    have l := p.length_le
    cases e : s.tv with
    | exc c => exact (tv_exc e).elim
    | bad => trivial
    | ok y =>
      cases r.tv e
      simp only [O.bind_ok]
      refine (sndV hΓ b (n := 0) h1 (by omega) (Nat.zero_le _) (E.grow p)).bind fun w st2 t p2 r2 => ?_
      cases e : t.tv with
      | exc c => exact (tv_exc e).elim
      | bad => trivial
      | ok y =>
        cases r2.tv e
        simp only [O.bind_ok]
        cases v <;> cases w <;> first | trivial | exact Sim.done (.inl rfl)
end
end
end Z

set_option maxHeartbeats 200000
set_option maxRecDepth 512
set_option maxHeartbeats 4000000
/-! The language by values is right: statements, defs. -/
namespace Z
def OwnJ (ρ : Env) (ρv : VEnv) (j : Nat) : Prop := ∃ i, OwnB ρ ρv i j
/-- from one state to a later one -/
structure Step (L : Nat) (st : Sto) (ρ : Env) (ρv : VEnv) (st' : Sto) (ρ' : Env) (ρv' : VEnv) : Prop where
  env : EnvR L st' ρ' ρv'
  vl : ρv'.length = ρv.length
  len : st.length ≤ st'.length
  frame : ∀ j, j < st.length → ¬ OwnJ ρ ρv j → st'[j]? = st[j]?
  own : ∀ j, OwnJ ρ' ρv' j → OwnJ ρ ρv j ∨ st.length ≤ j
structure Fin (L : Nat) (st : Sto) (ρ : Env) (ρv : VEnv) (st' : Sto) (v : PV) (s : SV) : Prop where
  val : VR L st' v s
  len : st.length ≤ st'.length
  frame : ∀ j, j < st.length → ¬ OwnJ ρ ρv j → st'[j]? = st[j]?
def SimS (L : Nat) (st : Sto) (ρ : Env) (ρv : VEnv) (r : RS) (o : VS) : Prop := match o with
  | .nx ρv' => ∃ ρ' st', r = .nx ρ' st' ∧ Step L st ρ ρv st' ρ' ρv'
  | .ret s => ∃ v st', r = .ret v st' ∧ Fin L st ρ ρv st' v s
  | .exc c ρv' => ∃ ρ' st', r = .exc c ρ' st' ∧ Step L st ρ ρv st' ρ' ρv'
  | .bad => True
section
variable {L : Nat} {st st1 st2 : Sto} {ρ ρ1 ρ2 : Env} {ρv ρv1 ρv2 : VEnv}
theorem pre_frame {st st' : Sto} (p : st <+: st') {j : Nat} (h : j < st.length) : st'[j]? = st[j]? := by
  obtain ⟨t, rfl⟩ := p
  exact List.getElem?_append_left h
theorem Step.refl (E : EnvR L st ρ ρv) : Step L st ρ ρv st ρ ρv := ⟨E, rfl, Nat.le_refl _, fun _ _ _ => rfl, fun _ h => .inl h⟩
theorem Step.trans (a : Step L st ρ ρv st1 ρ1 ρv1) (b : Step L st1 ρ1 ρv1 st2 ρ2 ρv2) : Step L st ρ ρv st2 ρ2 ρv2 where
  env := b.env
  vl := b.vl.trans a.vl
  len := Nat.le_trans a.len b.len
  frame := fun j h o => by
    rw [b.frame j (Nat.lt_of_lt_of_le h a.len) fun q => (a.own j q).elim o fun q => by omega, a.frame j h o]
  own := fun j h => (b.own j h).elim (fun q => a.own j q) fun q => .inr (Nat.le_trans a.len q)
theorem Step.fin {v : PV} {s : SV} (a : Step L st ρ ρv st1 ρ1 ρv1) (b : Fin L st1 ρ1 ρv1 st2 v s) : Fin L st ρ ρv st2 v s where
  val := b.val
  len := Nat.le_trans a.len b.len
  frame := fun j h o => by
    rw [b.frame j (Nat.lt_of_lt_of_le h a.len) fun q => (a.own j q).elim o fun q => by omega, a.frame j h o]
theorem Step.grow (E : EnvR L st ρ ρv) (p : st <+: st1) : Step L st ρ ρv st1 ρ ρv := ⟨E.grow p, rfl, p.length_le, fun j h _ => pre_frame p h, fun _ h => .inl h⟩
theorem SimS.up {r : RS} {o : VS} (a : Step L st ρ ρv st1 ρ1 ρv1) (h : SimS L st1 ρ1 ρv1 r o) : SimS L st ρ ρv r o := by
  cases o with
  | nx ρv' => obtain ⟨ρ', st', e, s⟩ := h; exact ⟨ρ', st', e, a.trans s⟩
  | ret s => obtain ⟨v, st', e, f⟩ := h; exact ⟨v, st', e, a.fin f⟩
  | exc c ρv' => obtain ⟨ρ', st', e, s⟩ := h; exact ⟨ρ', st', e, a.trans s⟩
  | bad => trivial
theorem SimS.next {r : RS} {o : VS} {f : Env → Sto → RS} {g : VEnv → VS} (h : SimS L st ρ ρv r o) (k : ∀ ρ' st' ρv', Step L st ρ ρv st' ρ' ρv' → SimS L st' ρ' ρv' (f ρ' st') (g ρv')) : SimS L st ρ ρv (r.next f) (o.next g) := by
  cases o with
  | nx ρv' => obtain ⟨ρ', st', rfl, s⟩ := h; exact (k ρ' st' ρv' s).up s
  | ret s => obtain ⟨v, st', rfl, f⟩ := h; exact ⟨v, st', rfl, f⟩
  | exc c ρv' => obtain ⟨ρ', st', rfl, s⟩ := h; exact ⟨ρ', st', rfl, s⟩
  | bad => trivial
theorem Sim.then {α β : Type} {rel : Sto → α → β → Prop} {r : R α} {o : O β} {f : α → Sto → RS} {g : β → VS} (E : EnvR L st ρ ρv) (h : Sim rel st r o) (k : ∀ a st' b, st <+: st' → rel st' a b → SimS L st' ρ ρv (f a st') (g b)) : SimS L st ρ ρv (r.then ρ f) (o.then ρv g) := by
  cases o with
  | ok b => obtain ⟨a, st', rfl, q, c⟩ := h; exact (k a st' b q c).up (Step.grow E q)
  | exc c => obtain ⟨st', rfl, q⟩ := h; exact ⟨ρ, st', rfl, Step.grow E q⟩
  | bad => trivial
theorem SimS.nx (h : Step L st ρ ρv st1 ρ1 ρv1) : SimS L st ρ ρv (.nx ρ1 st1) (.nx ρv1) := ⟨ρ1, st1, rfl, h⟩
/-- a name's new value -/
theorem Step.put (E : EnvR L st ρ ρv) {i : Nat} {v : PV} {s : SV} (r : SlotR L st v s) (hd : s.kd = .own → ∀ j, v = .box j → ¬ OwnJ ρ ρv j) (hn : s.kd = .own → ∀ j, v = .box j → OwnJ ρ ρv j ∨ st.length ≤ j) : Step L st ρ ρv st (ρ.set i (some v)) (ρv.set i (some s)) where
  env := E.put r fun k i' j e q => hd k j e ⟨i', q⟩
  vl := List.length_set
  len := Nat.le_refl _
  frame := fun _ _ _ => rfl
  own := by
    rintro j ⟨i', x, a, b⟩
    rcases get_set_some a with ⟨rfl, e2, hl⟩ | ⟨ne, e2⟩
    · rcases get_set_some b with ⟨_, e3, _⟩ | ⟨ne, _⟩
      · cases e2; cases e3
        exact hn rfl j rfl
      · exact absurd rfl ne
    · rcases get_set_some b with ⟨q, _⟩ | ⟨_, e3⟩
      · exact absurd q ne
      · exact .inl ⟨i', x, e2, e3⟩
theorem Step.putT (E : EnvR L st ρ ρv) {i : Nat} {v : PV} : Step L st ρ ρv st (ρ.set i (some v)) (ρv.set i (some ⟨.tree, v⟩)) := Step.put (s := ⟨.tree, v⟩) E rfl (fun k => by cases k) (fun k => by cases k)
/-- an own thing is changed -/
theorem Step.chg (E : EnvR L st ρ ρv) {i j : Nat} {x x' : PV} (hx : ρv[i]? = some (some ⟨.own, x⟩)) (hj : ρ[i]? = some (some (.box j))) (hc : cont x' = true) : Step L st ρ ρv (st.set j (po x')) ρ (ρv.set i (some ⟨.own, x'⟩)) := by
  have ob : OwnB ρ ρv i j := ⟨x, hx, hj⟩
  obtain ⟨hL, hjl⟩ := E.ownAt ob
  have hi := (List.getElem?_eq_some_iff.mp hx).1
  have back : ∀ i' j', OwnB ρ (ρv.set i (some ⟨.own, x'⟩)) i' j' → OwnB ρ ρv i' j' := by
    rintro i' j' ⟨y, a, b⟩
    rcases get_set_some a with ⟨rfl, e2, hl⟩ | ⟨ne, e2⟩
    · exact ⟨x, hx, b⟩
    · exact ⟨y, e2, b⟩
  refine ⟨⟨by rw [List.length_set]; exact E.len, fun i' s e => ?_, fun i1 i2 j' o1 o2 => E.dist _ _ _ (back _ _ o1) (back _ _ o2)⟩, List.length_set, by rw [List.length_set]; exact Nat.le_refl _, fun j' h o => List.getElem?_set_ne fun e => o ⟨i, by subst e; exact ob⟩, fun j' ⟨i', q⟩ => .inl ⟨i', back _ _ q⟩⟩
  rcases get_set_some e with ⟨rfl, e2, hl⟩ | ⟨ne, e2⟩
  · cases e2
    exact ⟨.box j, hj, j, rfl, hL, hc, List.getElem?_set_self hjl⟩
  · obtain ⟨v, a, b⟩ := E.slot i' s e2
    refine ⟨v, a, ?_⟩
    obtain ⟨k, y⟩ := s
    cases k with
    | tree => exact b
    | own =>
      obtain ⟨j', rfl, q1, q2, q3⟩ := b
      refine ⟨j', rfl, q1, q2, ?_⟩
      rw [List.getElem?_set_ne fun z => ?_]
      · exact q3
      · subst z
        exact ne (E.dist i i' j ob ⟨y, e2, a⟩)
    | bor =>
      refine Or.imp id (fun ⟨j', q0, q1, q2, q3⟩ => ⟨j', q0, q1, q2, ?_⟩) b
      rw [List.getElem?_set_ne fun z => ?_]
      · exact q3
      · omega
theorem own_get (E : EnvR L st ρ ρv) {i : Nat} {x : PV} (hx : ρv[i]? = some (some ⟨.own, x⟩)) : ∃ j, ρ[i]? = some (some (.box j)) ∧ L ≤ j ∧ cont x = true ∧ st[j]? = some (po x) := by
  obtain ⟨v, a, b⟩ := E.slot i _ hx
  obtain ⟨j, rfl, c⟩ := b
  exact ⟨j, a, c⟩
theorem ownL_get {i : Nat} {xs : List PV} (h : ownL ρv i = some xs) : ρv[i]? = some (some ⟨.own, .lst xs⟩) := by
  unfold ownL at h
  split at h
  · rename_i e
    cases h
    exact e
  · cases h
theorem EnvR.mask (E : EnvR L st ρ ρv) {ρ0 : VEnv} (h : ρv.length = ρ0.length) : EnvR L st ρ (mask ρ0 ρv) ∧ (mask ρ0 ρv).length = ρv.length ∧ ∀ j, OwnJ ρ (Z.mask ρ0 ρv) j → OwnJ ρ ρv j := by
  have key : ∀ (ρ0 ρv : VEnv), ρv.length = ρ0.length → (Z.mask ρ0 ρv).length = ρv.length ∧ ∀ (i : Nat) (s : SV), (Z.mask ρ0 ρv)[i]? = some (some s) → ρv[i]? = some (some s) := by
    intro ρ0
    induction ρ0 with
    | nil =>
      intro ρv h
      obtain rfl : ρv = [] := List.length_eq_zero_iff.mp h
      exact ⟨rfl, fun i s e => by simp [Z.mask] at e⟩
    | cons o ρ0 ih =>
      intro ρv h
      cases ρv with
      | nil => simp at h
      | cons q ρv =>
        obtain ⟨h1, h2⟩ := ih ρv (by simpa using h)
        cases o with
        | none =>
          refine ⟨by simp [Z.mask, h1], fun i s e => ?_⟩
          cases i with
          | zero => simp [Z.mask] at e
          | succ i => simp only [Z.mask, List.getElem?_cons_succ] at e ⊢; exact h2 i s e
        | some o =>
          refine ⟨by simp [Z.mask, h1], fun i s e => ?_⟩
          cases i with
          | zero => simpa [Z.mask] using e
          | succ i => simp only [Z.mask, List.getElem?_cons_succ] at e ⊢; exact h2 i s e
  obtain ⟨h1, h2⟩ := key ρ0 ρv h
  have h3 : ∀ i j, OwnB ρ (Z.mask ρ0 ρv) i j → OwnB ρ ρv i j := fun i j ⟨x, a, b⟩ => ⟨x, h2 i _ a, b⟩
  exact ⟨⟨by rw [h1]; exact E.len, fun i s e => E.slot i s (h2 i s e), fun i1 i2 j o1 o2 => E.dist _ _ _ (h3 _ _ o1) (h3 _ _ o2)⟩, h1, fun j ⟨i, q⟩ => ⟨i, h3 i j q⟩⟩
theorem Step.mask {ρ0 : VEnv} (s : Step L st ρ ρv st1 ρ1 ρv1) (h : ρv.length = ρ0.length) : Step L st ρ ρv st1 ρ1 (Z.mask ρ0 ρv1) := by
  obtain ⟨a, b, c⟩ := s.env.mask (s.vl.trans h)
  exact ⟨a, b.trans s.vl, s.len, s.frame, fun j q => s.own j (c j q)⟩

theorem forFix_sim {body : PV → Env → Sto → RS} {bV : PV → VEnv → VS} {ρ0 : VEnv} (hb : ∀ x ρ st ρv, L ≤ st.length → EnvR L st ρ ρv → SimS L st ρ ρv (body x ρ st) (bV x ρv)) : ∀ (xs : List PV) (ρ : Env) (st : Sto) (ρv : VEnv), L ≤ st.length → EnvR L st ρ ρv → ρv.length = ρ0.length → SimS L st ρ ρv (forFix body xs ρ st) (forV bV ρ0 xs ρv)
  | [], ρ, st, ρv, hl, E, _ => SimS.nx (Step.refl E)
  | x :: xs, ρ, st, ρv, hl, E, hm => by
    unfold forFix forV
    refine (hb x ρ st ρv hl E).next fun ρ' st' ρv' s => ?_
    have sm := s.mask hm
    have : Step L st' ρ' ρv' st' ρ' (Z.mask ρ0 ρv') := by
      obtain ⟨a, b, c⟩ := s.env.mask (s.vl.trans hm)
      exact ⟨a, b, Nat.le_refl _, fun _ _ _ => rfl, fun j q => .inl (c j q)⟩
    exact (forFix_sim hb xs ρ' st' (Z.mask ρ0 ρv') (Nat.le_trans hl s.len) this.env (this.vl.trans (s.vl.trans hm))).up this
theorem forLive_sim {body : PV → Env → Sto → RS} {bV : PV → VEnv → VS} {ρ0 : VEnv} {j : Nat} {xs : List PV} (hb : ∀ x ρ st ρv, L ≤ st.length → EnvR L st ρ ρv → SimS L st ρ ρv (body x ρ st) (bV x ρv)) : ∀ (m k : Nat) (ρ : Env) (st : Sto) (ρv : VEnv), L ≤ st.length → EnvR L st ρ ρv → ρv.length = ρ0.length → st[j]? = some (.lst xs) → ¬ OwnJ ρ ρv j → k ≤ xs.length → xs.length + 1 ≤ m + k → SimS L st ρ ρv (forLive j body m k ρ st) (forV bV ρ0 (xs.drop k) ρv)
  | 0, k, ρ, st, ρv, hl, E, hm, hj, ho, h1, h2 => by omega
  | m + 1, k, ρ, st, ρv, hl, E, hm, hj, ho, h1, h2 => by
    unfold forLive
    rw [hj]
    simp only
    by_cases hk : k < xs.length
    · rw [List.drop_eq_getElem_cons hk, List.getElem?_eq_getElem hk]
      unfold forV
      refine (hb _ ρ st ρv hl E).next fun ρ' st' ρv' s => ?_
      have this : Step L st' ρ' ρv' st' ρ' (Z.mask ρ0 ρv') := by
        obtain ⟨a, b, c⟩ := s.env.mask (s.vl.trans hm)
        exact ⟨a, b, Nat.le_refl _, fun _ _ _ => rfl, fun j q => .inl (c j q)⟩
      have hjl := lt_of_at hj
      refine (forLive_sim hb m (k + 1) ρ' st' (Z.mask ρ0 ρv') (Nat.le_trans hl s.len) this.env (this.vl.trans (s.vl.trans hm)) ?_ ?_ hk (by omega)).up this
      · rw [s.frame j hjl ho]; exact hj
      · intro q
        rcases this.own j q with q | q
        · rcases s.own j q with q | q
          · exact ho q
          · omega
        · have := s.len
          omega
    · rw [List.drop_eq_nil_of_le (by omega), List.getElem?_eq_none (by omega)]
      exact SimS.nx (Step.refl E)
theorem whl_sim {c : Env → Sto → R PV} {body : Env → Sto → RS} {cV : VEnv → O SV} {bV : VEnv → VS} {ρ0 : VEnv} (hc : ∀ ρ st ρv, L ≤ st.length → EnvR L st ρ ρv → Sim (VR 0) st (c ρ st) (cV ρv)) (hb : ∀ ρ st ρv, L ≤ st.length → EnvR L st ρ ρv → SimS L st ρ ρv (body ρ st) (bV ρv)) : ∀ (m : Nat) (ρ : Env) (st : Sto) (ρv : VEnv), L ≤ st.length → EnvR L st ρ ρv → ρv.length = ρ0.length → SimS L st ρ ρv (whlF c body m ρ st) (whlV cV bV ρ0 m ρv)
  | 0, ρ, st, ρv, _, _, _ => trivial
  | m + 1, ρ, st, ρv, hl, E, hm => by
    unfold whlF whlV
    refine Sim.then E (hc ρ st ρv hl E) fun v st1 s p r => ?_
    replace r := r.see
    generalize s.x = x at r
    cases x <;> first | trivial | skip
    cases r.eq rfl
    rename_i t
    have l := p.length_le
    cases t with
    | false => exact SimS.nx (Step.refl (E.grow p))
    | true =>
      refine (hb ρ st1 ρv (by omega) (E.grow p)).next fun ρ' st' ρv' s => ?_
      have this : Step L st' ρ' ρv' st' ρ' (Z.mask ρ0 ρv') := by
        obtain ⟨a, b, c⟩ := s.env.mask (s.vl.trans hm)
        exact ⟨a, b, Nat.le_refl _, fun _ _ _ => rfl, fun j q => .inl (c j q)⟩
      have l2 := s.len
      exact (whl_sim hc hb m ρ' st' (Z.mask ρ0 ρv') (by omega) this.env (this.vl.trans (s.vl.trans hm))).up this
mutual
theorem assign_step : ∀ (t : Tg) (x : PV) (ρ : Env) (ρv ρv' : VEnv), EnvR L st ρ ρv → assignV t x ρv = some ρv' → ∃ ρ', assign t x ρ = some ρ' ∧ Step L st ρ ρv st ρ' ρv'
  | .name i, x, ρ, ρv, ρv', h, e => by
    simp only [assignV] at e
    cases e
    exact ⟨_, by simp only [assign], Step.putT h⟩
  | .tup l, x, ρ, ρv, ρv', h, e => by
    cases x with
    | tup xs =>
      simp only [assignV] at e
      obtain ⟨ρ', a, b⟩ := assigns_step l xs ρ ρv ρv' h e
      exact ⟨ρ', by simp only [assign]; exact a, b⟩
    | lst xs =>
      simp only [assignV] at e
      obtain ⟨ρ', a, b⟩ := assigns_step l xs ρ ρv ρv' h e
      exact ⟨ρ', by simp only [assign]; exact a, b⟩
    | _ => simp [assignV] at e
theorem assigns_step : ∀ (l : List Tg) (xs : List PV) (ρ : Env) (ρv ρv' : VEnv), EnvR L st ρ ρv → assignV.go l xs ρv = some ρv' → ∃ ρ', assign.go l xs ρ = some ρ' ∧ Step L st ρ ρv st ρ' ρv'
  | [], [], ρ, ρv, ρv', h, e => by
    simp only [assignV.go] at e
    cases e
    exact ⟨ρ, by simp only [assign.go], Step.refl h⟩
  | [], _ :: _, ρ, ρv, ρv', h, e => by simp [assignV.go] at e
  | _ :: _, [], ρ, ρv, ρv', h, e => by simp [assignV.go] at e
  | t :: l, x :: xs, ρ, ρv, ρv', h, e => by
    simp only [assignV.go] at e
    obtain ⟨ρ1, e1, e2⟩ := Option.bind_eq_some_iff.mp e
    obtain ⟨ρ', a, b⟩ := assign_step t x ρ ρv ρ1 h e1
    obtain ⟨ρ'', a', b'⟩ := assigns_step l xs ρ' ρ1 ρv' b.env e2
    exact ⟨ρ'', by simp only [assign.go, a, Option.bind_some]; exact a', b.trans b'⟩
end
/-- a value that a name may take: its own things are new -/
def SvR (n : Nat) (m : Nat) (st : Sto) (v : PV) (s : SV) : Prop := match s.kd with
  | .tree => v = s.x
  | .bor => False
  | .own => ∃ j, v = .box j ∧ n ≤ j ∧ j < m ∧ cont s.x = true ∧ st[j]? = some (po s.x)
theorem sv_ok {n : Nat} {v : PV} {s s' : SV} (h : VR n st v s) (e : s.sv = .ok s') : SvR n st.length st v s' := by
  obtain ⟨k, x⟩ := s
  cases k with
  | tree => cases e; exact h
  | own =>
    cases e
    obtain ⟨j, a, b, c, d⟩ := h
    exact ⟨j, a, b, lt_of_at d, c, d⟩
  | bor =>
    unfold SV.sv at e
    simp only at e
    split at e
    · cases e
    · rename_i q
      cases e
      exact See.eq h (by simpa using q)
theorem sv_exc {s : SV} {c : Nat} (h : s.sv = .exc c) : False := by
  obtain ⟨k, x⟩ := s
  cases k with
  | tree => cases h
  | own => cases h
  | bor =>
    unfold SV.sv at h
    simp only at h
    split at h <;> cases h
theorem SvR.grow {n m : Nat} {v : PV} {s : SV} (h : SvR n m st v s) (p : st <+: st1) : SvR n m st1 v s := by
  obtain ⟨k, x⟩ := s
  cases k with
  | tree => exact h
  | own => obtain ⟨j, a, b, c, d, e⟩ := h; exact ⟨j, a, b, c, d, pre_at p e⟩
  | bor => exact h
/-- values for names, one behind the other -/
def SvsR (n : Nat) (st : Sto) : List PV → List SV → Prop
  | [], [] => True
  | v :: vs, s :: ss => ∃ m, n ≤ m ∧ SvR n m st v s ∧ SvsR m st vs ss
  | _, _ => False
theorem SvsR.grow : ∀ {n : Nat} {vs : List PV} {ss : List SV}, SvsR n st vs ss → st <+: st1 → SvsR n st1 vs ss
  | n, [], [], h, p => trivial
  | n, v :: vs, s :: ss, h, p => by
    obtain ⟨m, a, b, c⟩ := h
    exact ⟨m, a, b.grow p, SvsR.grow c p⟩
  | n, [], _ :: _, h, p => h.elim
  | n, _ :: _, [], h, p => h.elim
theorem SvsR.mono : ∀ {n n' : Nat} {vs : List PV} {ss : List SV}, SvsR n st vs ss → n' ≤ n → SvsR n' st vs ss
  | n, n', [], [], h, p => trivial
  | n, n', v :: vs, s :: ss, h, p => by
    obtain ⟨m, a, b, c⟩ := h
    refine ⟨m, by omega, ?_, c⟩
    obtain ⟨k, x⟩ := s
    cases k with
    | tree => exact b
    | own => obtain ⟨j, e, f, g⟩ := b; exact ⟨j, e, by omega, g⟩
    | bor => exact b
  | n, n', [], _ :: _, h, p => h.elim
  | n, n', _ :: _, [], h, p => h.elim
/-- E's own things stand below n; those that follow do not -/
theorem put_one {n m : Nat} {v : PV} {s : SV} {i : Nat} (E : EnvR L st ρ ρv) (hL : L ≤ n) (ho : ∀ j, OwnJ ρ ρv j → j < n) (h : SvR n m st v s) (hnm : n ≤ m) :
    EnvR L st (ρ.set i (some v)) (ρv.set i (some s)) ∧ ∀ j, OwnJ (ρ.set i (some v)) (ρv.set i (some s)) j → (OwnJ ρ ρv j ∨ n ≤ j) ∧ j < m := by
  have r : SlotR L st v s := by
    obtain ⟨k, x⟩ := s
    cases k with
    | tree => exact h
    | own => obtain ⟨j, a, b, c, d⟩ := h; exact ⟨j, a, by omega, d⟩
    | bor => exact h.elim
  refine ⟨E.put r fun hk i' j e o => ?_, ?_⟩
  · have := ho j ⟨i', o⟩
    obtain ⟨k, x⟩ := s
    cases hk
    obtain ⟨j', a, b, _⟩ := h
    rw [e] at a
    cases a
    omega
  · rintro j ⟨i', x, a, b⟩
    rcases get_set_some a with ⟨rfl, e2, hl⟩ | ⟨ne, e2⟩
    · rcases get_set_some b with ⟨_, e3, _⟩ | ⟨ne, _⟩
      · cases e2; cases e3
        obtain ⟨j', a', b', c', _⟩ := h
        cases a'
        exact ⟨.inr b', c'⟩
      · exact absurd rfl ne
    · rcases get_set_some b with ⟨q, _⟩ | ⟨_, e3⟩
      · exact absurd q ne
      · have := ho j ⟨i', x, e2, e3⟩
        exact ⟨.inl ⟨i', x, e2, e3⟩, by omega⟩
theorem put_step {v : PV} {s : SV} {i : Nat} (E : EnvR L st ρ ρv) (p : st <+: st1) (hl : L ≤ st.length) (h : SvR st.length st1.length st1 v s) : Step L st ρ ρv st1 (ρ.set i (some v)) (ρv.set i (some s)) := by
  have l := p.length_le
  obtain ⟨E', k⟩ := put_one (i := i) (E.grow p) hl (fun j ⟨i', o⟩ => (E.ownAt o).2) h l
  exact ⟨E', List.length_set, l, fun j h _ => pre_frame p h, fun j q => (k j q).1⟩
theorem assignN_step : ∀ (is : List Nat) (vs : List PV) (ss : List SV) (ρ : Env) (ρv ρv' : VEnv) (n : Nat), L ≤ n → EnvR L st ρ ρv → (∀ j, OwnJ ρ ρv j → j < n) → SvsR n st vs ss → assignNV is ss ρv = some ρv' → ∃ ρ', assignN is vs ρ = some ρ' ∧ EnvR L st ρ' ρv' ∧ ρv'.length = ρv.length ∧ ∀ j, OwnJ ρ' ρv' j → OwnJ ρ ρv j ∨ n ≤ j
  | [], vs, ss, ρ, ρv, ρv', n, hL, E, ho, h, e => by
    match ss, vs, h with
    | [], [], _ =>
      simp only [assignNV] at e
      cases e
      exact ⟨ρ, rfl, E, rfl, fun _ q => .inl q⟩
    | _ :: _, _, _ => simp [assignNV] at e
  | i :: is, vs, ss, ρ, ρv, ρv', n, hL, E, ho, h, e => by
    match ss, vs, h with
    | [], _, _ => simp [assignNV] at e
    | s :: ss, v :: vs, h =>
      obtain ⟨m, a, b, c⟩ := h
      simp only [assignNV] at e
      obtain ⟨E', k⟩ := put_one (i := i) E hL ho b a
      obtain ⟨ρ', q1, q2, q3, q4⟩ := assignN_step is vs ss _ _ ρv' m (by omega) E' (fun j q => (k j q).2) c e
      refine ⟨ρ', q1, q2, q3.trans List.length_set, fun j q => ?_⟩
      rcases q4 j q with q | q
      · exact (k j q).1
      · exact .inr (by omega)
end
section
variable {Γ : Gam} {Γv : GamV}
theorem sndVS (hΓ : GR Γ Γv) (e : MEs) {ρ : Env} {ρv : VEnv} {st : Sto} {L lo : Nat} (h1 : lo ≤ L) (h2 : L ≤ st.length) (E : EnvR L st ρ ρv) : Sim (SvsR st.length) st (evals Γ lo e ρ st) (evalsS Γv e ρv) := by
  match e with
  | .nil => simp only [evals, evalsS]; exact Sim.done trivial
  | .cons e r =>
    simp only [evals, evalsS]
    refine (sndV hΓ e (n := st.length) h1 h2 (Nat.le_refl _) E).bind fun v st1 s p r1 => ?_
    have l := p.length_le
    cases hs : s.sv with
    | exc c => exact (sv_exc hs).elim
    | bad => trivial
    | ok s' =>
      have q := sv_ok r1 hs
      refine (sndVS hΓ r h1 (by omega) (E.grow p)).bind fun vs st2 ss p2 r2 => ?_
      exact Sim.done ⟨st1.length, l, q.grow p2, r2⟩
end
end Z

set_option maxHeartbeats 200000
set_option maxRecDepth 512
set_option maxHeartbeats 4000000
/-! The language by values is right: statements and defs as a whole. -/
namespace Z
section
variable {L : Nat} {st st1 : Sto} {ρ ρ1 : Env} {ρv ρv1 : VEnv}
theorem then_put {r : R PV} {o : O SV} {i : Nat} (E : EnvR L st ρ ρv) (hl : L ≤ st.length) (h : Sim (VR st.length) st r o) : SimS L st ρ ρv (r.then ρ fun v st1 => .nx (ρ.set i (some v)) st1) (o.then ρv fun s => s.sv.then ρv fun v => .nx (ρv.set i (some v))) := by
  cases o with
  | ok s =>
    obtain ⟨v, st', rfl, p, q⟩ := h
    simp only [O.then_ok]
    cases hs : s.sv with
    | exc c => exact (sv_exc hs).elim
    | bad => trivial
    | ok s' => exact SimS.nx (put_step E p hl (sv_ok q hs))
  | exc c => obtain ⟨st', rfl, q⟩ := h; exact ⟨ρ, st', rfl, Step.grow E q⟩
  | bad => trivial
theorem then_ret {r : R PV} {o : O SV} (E : EnvR L st ρ ρv) (hl : L ≤ st.length) (h : Sim (VR st.length) st r o) : SimS L st ρ ρv (r.then ρ fun v st1 => .ret v st1) (o.then ρv fun s => s.sv.then ρv fun v => .ret v) := by
  cases o with
  | ok s =>
    obtain ⟨v, st', rfl, p, q⟩ := h
    simp only [O.then_ok]
    cases hs : s.sv with
    | exc c => exact (sv_exc hs).elim
    | bad => trivial
    | ok s' =>
      refine ⟨v, st', rfl, ?_, p.length_le, fun j h _ => pre_frame p h⟩
      have := sv_ok q hs
      obtain ⟨k, x⟩ := s'
      cases k with
      | tree => exact this
      | own => obtain ⟨j, a, b, c, d⟩ := this; exact ⟨j, a, by omega, d⟩
      | bor => exact this.elim
  | exc c => obtain ⟨st', rfl, q⟩ := h; exact ⟨ρ, st', rfl, Step.grow E q⟩
  | bad => trivial
theorem popOf_eq {e : ME} {i : Nat} (h : popOf e = some i) : e = .bm .pop (.var i) .nil := by
  unfold popOf at h
  split at h
  · cases h; rfl
  · cases h
theorem varOf_eq {e : ME} {i : Nat} (h : varOf e = some i) : e = .var i := by
  unfold varOf at h
  split at h
  · cases h; rfl
  · cases h
theorem seqE_eq {e : MI} {i : ME} (h : seqE e = some i) : e = .seq i := by
  unfold seqE at h
  split at h
  · cases h; rfl
  · cases h
theorem seqE_none {e : MI} (h : seqE e = none) : ∀ i, e ≠ .seq i := by
  rintro i rfl
  cases h
theorem mutOf_app {e e' : ME} {i : Nat} (h : mutOf e = some (.app i e')) : e = .bm .append (.var i) (.cons e' .nil) := by
  unfold mutOf at h
  split at h <;> cases h
  rfl
theorem mutOf_ext {e e' : ME} {i : Nat} (h : mutOf e = some (.ext i e')) : e = .bm .extend (.var i) (.cons e' .nil) := by
  unfold mutOf at h
  split at h <;> cases h
  rfl
theorem mutOf_ins {e a e' : ME} {i : Nat} (h : mutOf e = some (.ins i a e')) : e = .bm .insert (.var i) (.cons a (.cons e' .nil)) := by
  unfold mutOf at h
  split at h <;> cases h
  rfl
theorem oOpt_then {α : Type} {o : Option α} {f : α → VS} {r : RS} (h : ∀ a, o = some a → SimS L st ρ ρv r (f a)) : SimS L st ρ ρv r ((oOpt o).then ρv f) := by
  cases o with
  | none => trivial
  | some a => exact h a rfl
theorem tv_then {s : SV} {v : PV} {n : Nat} {f : PV → VS} {r : RS} (hv : VR n st1 v s) (h : s.tv = .ok v → SimS L st ρ ρv r (f v)) : SimS L st ρ ρv r (s.tv.then ρv f) := by
  cases e : s.tv with
  | exc c => exact (tv_exc e).elim
  | bad => trivial
  | ok y => cases hv.tv e; exact h e
theorem bind_of {α β : Type} {r : R α} {f : α → Sto → R β} {b : β} {st' : Sto} (h : r.bind f = .ok b st') : ∃ a st1, r = .ok a st1 ∧ f a st1 = .ok b st' := by
  cases r with
  | ok a st1 => exact ⟨a, st1, rfl, h⟩
  | exc c st1 => cases h
  | bad => cases h
theorem src_fix {Γ : Gam} {lo : Nat} {s : Src} {st' : Sto} (it : MI) (hs : seqE it = none) (h : source Γ lo it ρ st = .ok s st') : ∃ xs, s = .fix xs := by
  cases it with
  | seq e => cases hs
  | range1 a =>
    simp only [source] at h
    obtain ⟨v, st1, _, h⟩ := bind_of h
    split at h
    · split at h
      · cases h; exact ⟨_, rfl⟩
      · cases h
    · cases h
  | range2 a b =>
    simp only [source] at h
    obtain ⟨v, st1, _, h⟩ := bind_of h
    obtain ⟨w, st2, _, h⟩ := bind_of h
    split at h
    · split at h
      · cases h; exact ⟨_, rfl⟩
      · cases h
    · cases h
  | enum a =>
    simp only [source] at h
    obtain ⟨v, st1, _, h⟩ := bind_of h
    split at h
    · cases h; exact ⟨_, rfl⟩
    · cases h
  | zip a b =>
    simp only [source] at h
    obtain ⟨v, st1, _, h⟩ := bind_of h
    obtain ⟨w, st2, _, h⟩ := bind_of h
    split at h
    · cases h; exact ⟨_, rfl⟩
    · cases h
/-- what a loop walks -/
theorem srcFor_sim {Γ : Gam} {Γv : GamV} (hΓ : GR Γ Γv) (it : MI) {lo : Nat} (h1 : lo ≤ L) (h2 : L ≤ st.length) (E : EnvR L st ρ ρv) : Sim (fun st' s xs => s = .fix xs ∨ ∃ j, s = .live j ∧ st'[j]? = some (.lst xs) ∧ ¬ OwnJ ρ ρv j) st (source Γ lo it ρ st) (srcFor Γv it ρv) := by
  unfold srcFor
  cases hs : seqE it with
  | none =>
    simp only
    have := sndVI hΓ it h1 h2 E
    cases ho : sourceV Γv it ρv with
    | bad => trivial
    | exc c => rw [ho] at this; exact this
    | ok xs =>
      rw [ho] at this
      obtain ⟨s, st', e1, p, r⟩ := this
      obtain ⟨ys, rfl⟩ := src_fix it hs e1
      rcases r with r | ⟨j, r, _⟩
      · exact ⟨_, st', e1, p, .inl r⟩
      · cases r
  | some e =>
    cases seqE_eq hs
    simp only
    cases hv : varOf e with
    | some i =>
      cases varOf_eq hv
      simp only [source, eval]
      cases q : ρv[i]? with
      | none => trivial
      | some o =>
        cases o with
        | none => trivial
        | some s =>
          obtain ⟨v, a, b⟩ := E.slot i s q
          simp only [a, R.bind_ok]
          split
          · trivial
          · rename_i hk
            cases hq : seqV s.x with
            | none => trivial
            | some xs =>
              obtain ⟨sr, e1, e2⟩ := seq_sim (b.rd (n := 0)).see hq
              rw [e1]
              refine Sim.done ?_
              rcases e2 with rfl | ⟨j, rfl, hj⟩
              · exact .inl rfl
              · refine .inr ⟨j, rfl, hj, fun ⟨i', o⟩ => ?_⟩
                have ho := (E.ownAt o).1
                obtain ⟨k, x⟩ := s
                cases k with
                | own => exact hk rfl
                | tree =>
                  cases b
                  cases x <;> first | (simp [seqV] at hq; done) | (simp [srcOf] at e1; done)
                | bor =>
                  rcases b with rfl | ⟨j', rfl, b1, b2, b3⟩
                  · cases v <;> first | (simp [seqV] at hq; done) | (simp [srcOf] at e1; done)
                  · simp only [srcOf, b3] at e1
                    cases x <;> simp [cont] at b2 <;> simp [po] at e1
                    omega
    | none =>
      simp only [source]
      refine (sndV hΓ e (n := st.length) h1 h2 (Nat.le_refl _) E).bind fun v st1 s p r => ?_
      split
      · trivial
      · rename_i hk
        cases hq : seqV s.x with
        | none => trivial
        | some xs =>
          obtain ⟨sr, e1, e2⟩ := seq_sim r.see hq
          rw [e1]
          refine Sim.done ?_
          rcases e2 with rfl | ⟨j, rfl, hj⟩
          · exact .inl rfl
          · refine .inr ⟨j, rfl, hj, fun ⟨i', o⟩ => ?_⟩
            have ho := (E.ownAt o).2
            obtain ⟨k, x⟩ := s
            cases k with
            | bor => exact hk rfl
            | tree =>
              cases r
              cases x <;> first | (simp [seqV] at hq; done) | (simp [srcOf] at e1; done)
            | own =>
              obtain ⟨j', rfl, b1, b2, b3⟩ := r
              simp only [srcOf, b3] at e1
              cases x <;> simp [cont] at b2 <;> simp [po] at e1
              omega
end
section
variable {Γ : Gam} {Γv : GamV}
theorem run_bm {m : Bm} {i j lo : Nat} {es : MEs} {ρ : Env} {st : Sto} (hj : ρ[i]? = some (some (.box j))) (hb : bmTy m st (.box j) = true) : eval Γ lo (.bm m (.var i) es) ρ st = (evals Γ lo es ρ st).bind fun xs st2 => bmf m lo (.box j) xs st2 := by
  simp only [eval, hj, R.bind_ok, hb, if_true]
theorem ownX_get {ρv : VEnv} {i : Nat} {x : PV} (h : ownX ρv i = some x) : ρv[i]? = some (some ⟨.own, x⟩) := by
  unfold ownX at h
  split at h
  · rename_i e
    cases h
    exact e
  · cases h
theorem R.bind_assoc {α β γ : Type} {r : R α} {f : α → Sto → R β} {g : β → Sto → R γ} : (r.bind f).bind g = r.bind fun a st => (f a st).bind g := by cases r <;> rfl
theorem R.then_bind {α β : Type} {r : R α} {f : α → Sto → R β} {ρ : Env} {g : β → Sto → RS} : (r.bind f).then ρ g = r.then ρ fun a st => (f a st).then ρ g := by cases r <;> rfl
theorem frz_sim {i lo L : Nat} {ρ : Env} {ρv : VEnv} {st : Sto} (h1 : lo ≤ L) (E : EnvR L st ρ ρv) : SimS L st ρ ρv (frzf lo i ρ st) (frzV i ρv) := by
  unfold frzV
  split
  · rename_i x hx
    obtain ⟨j, hj, hL, hc, hs⟩ := own_get E hx
    have s1 : Step L st ρ ρv (st.set j .dead) (ρ.set i (some x)) (ρv.set i (some ⟨.tree, x⟩)) := by
      have ob : OwnB ρ ρv i j := ⟨x, hx, hj⟩
      have back : ∀ i' j', OwnB (ρ.set i (some x)) (ρv.set i (some ⟨.tree, x⟩)) i' j' → i' ≠ i ∧ OwnB ρ ρv i' j' := by
        rintro i' j' ⟨y, a, b⟩
        rcases get_set_some a with ⟨rfl, e2, hl⟩ | ⟨ne, e2⟩
        · cases e2
        · rcases get_set_some b with ⟨q, _⟩ | ⟨_, e3⟩
          · exact absurd q ne
          · exact ⟨fun q => ne q.symm, y, e2, e3⟩
      refine ⟨⟨by rw [List.length_set, List.length_set]; exact E.len, fun i' s e => ?_, fun i1 i2 j' o1 o2 => E.dist _ _ _ (back _ _ o1).2 (back _ _ o2).2⟩, List.length_set, by rw [List.length_set]; exact Nat.le_refl _, fun j' h o => List.getElem?_set_ne fun e => o ⟨i, by subst e; exact ob⟩, fun j' ⟨i', q⟩ => .inl ⟨i', (back _ _ q).2⟩⟩
      rcases get_set_some e with ⟨rfl, e2, hl⟩ | ⟨ne, e2⟩
      · cases e2
        exact ⟨x, List.getElem?_set_self (by rw [E.len]; exact hl), rfl⟩
      · obtain ⟨v, a, b⟩ := E.slot i' s e2
        refine ⟨v, by rw [List.getElem?_set_ne ne]; exact a, ?_⟩
        obtain ⟨k, y⟩ := s
        cases k with
        | tree => exact b
        | own =>
          obtain ⟨j', rfl, q1, q2, q3⟩ := b
          refine ⟨j', rfl, q1, q2, ?_⟩
          rw [List.getElem?_set_ne fun z => ?_]
          · exact q3
          · subst z
            exact ne (E.dist i i' j ob ⟨y, e2, a⟩)
        | bor =>
          refine Or.imp id (fun ⟨j', q0, q1, q2, q3⟩ => ⟨j', q0, q1, q2, ?_⟩) b
          rw [List.getElem?_set_ne fun z => ?_]
          · exact q3
          · omega
    have e : frzf lo i ρ st = .nx (ρ.set i (some x)) (st.set j .dead) := by
      have hlo : lo ≤ j := by omega
      cases x <;> simp [cont] at hc
      · simp only [frzf, hj, hs, po, hlo, if_true]
      · simp only [frzf, hj, hs, po, hlo, if_true]
    rw [e]
    exact SimS.nx s1
  · rename_i x hx
    split
    · rename_i hb
      obtain ⟨v, a, b⟩ := E.slot i _ hx
      cases b
      have e : frzf lo i ρ st = .nx ρ st := by
        simp only [frzf, a]
        cases x <;> first | rfl | (simp [notBox] at hb)
      rw [e]
      exact SimS.nx (Step.refl E)
    · trivial
  · trivial
mutual
theorem sndVX (hΓ : GR Γ Γv) (e : MS) {ρ : Env} {ρv : VEnv} {st : Sto} {L lo : Nat} (h1 : lo ≤ L) (h2 : L ≤ st.length) (E : EnvR L st ρ ρv) : SimS L st ρ ρv (exec Γ lo e ρ st) (execV Γv e ρv) := by
  match e with
  | .asg tg e =>
    simp only [exec, execV]
    cases hp : popOf e with
    | some i =>
      cases popOf_eq hp
      simp only
      refine oOpt_then fun xs hx => ?_
      have hx := ownL_get hx
      obtain ⟨j, hj, hL, _, hs⟩ := own_get E hx
      rw [run_bm hj (by simp [bmTy, lstOf, hs, po])]
      simp only [evals, R.bind_ok, bmf, fPop, hs, po]
      cases hg : xs.getLast? with
      | none => trivial
      | some y =>
        simp only
        rw [show wr lo j (PO.lst xs.dropLast) y st = .ok y (st.set j (.lst xs.dropLast)) from if_pos (by omega)]
        simp only [R.then_ok]
        have s1 := Step.chg (x' := .lst xs.dropLast) E hx hj rfl
        cases ha : assignV tg y (ρv.set i (some ⟨.own, .lst xs.dropLast⟩)) with
        | none => trivial
        | some ρv' =>
          obtain ⟨ρ', e1, s2⟩ := assign_step tg y ρ _ ρv' s1.env ha
          rw [e1]
          exact SimS.nx (s1.trans s2)
    | none =>
      simp only
      cases tg with
      | name i => simp only [assign]; exact then_put E h2 (sndV hΓ e h1 h2 (Nat.le_refl _) E)
      | tup l =>
        refine Sim.then E (sndV hΓ e (n := 0) h1 h2 (Nat.zero_le _) E) fun v st1 s p r => ?_
        refine tv_then r fun _ => ?_
        cases ha : assignV (.tup l) v ρv with
        | none => trivial
        | some ρv' =>
          obtain ⟨ρ', e1, s2⟩ := assign_step (.tup l) v ρ ρv ρv' (E.grow p) ha
          rw [e1]
          exact SimS.nx s2
  | .asgN is es =>
    simp only [exec, execV]
    have := sndVS hΓ es h1 h2 E
    cases ho : evalsS Γv es ρv with
    | bad => trivial
    | exc c => rw [ho] at this; obtain ⟨st', e, q⟩ := this; rw [e]; exact ⟨ρ, st', rfl, Step.grow E q⟩
    | ok ss =>
      rw [ho] at this
      obtain ⟨vs, st', e, p, r⟩ := this
      rw [e]
      simp only [R.then_ok, O.then_ok]
      cases ha : assignNV is ss ρv with
      | none => trivial
      | some ρv' =>
        obtain ⟨ρ', e1, E', q3, q4⟩ := assignN_step is vs ss ρ ρv ρv' st.length h2 (E.grow p) (fun j ⟨i, o⟩ => (E.ownAt o).2) r ha
        rw [e1]
        exact SimS.nx ⟨E', q3, p.length_le, fun j h _ => pre_frame p h, q4⟩
  | .setItem o k v =>
    simp only [exec, execV]
    cases ho : varOf o with
    | none => trivial
    | some i =>
      cases varOf_eq ho
      simp only
      refine Sim.then E (sndV hΓ v (n := 0) h1 h2 (Nat.zero_le _) E) fun z st1 s p r => ?_
      have l := p.length_le
      refine tv_then r fun _ => ?_
      refine oOpt_then fun x hx => ?_
      have hx := ownX_get hx
      obtain ⟨j, hj, hL, hc, hs⟩ := own_get (E.grow p) hx
      simp only [eval, hj, R.then_ok]
      refine Sim.then (E.grow p) (sndV hΓ k (n := 0) h1 (by omega) (Nat.zero_le _) (E.grow p)) fun y st2 ky p2 r2 => ?_
      have hs2 := pre_at p2 hs
      cases he : setV x ky.x z with
      | none => trivial
      | some x' =>
        have key : cont x' = true ∧ setIdx lo (.box j) y z st2 = .ok .none (st2.set j (po x')) := by
          have hlo : lo ≤ j := by omega
          cases x <;> simp [cont] at hc
          · rename_i xs
            simp only [setV] at he
            split at he
            · rename_i i' hi
              split at he
              · rename_i n hn
                cases he
                have hy : y = .int i' := by
                  have := r2.see
                  rw [hi] at this
                  exact this.eq rfl
                subst hy
                refine ⟨rfl, ?_⟩
                simp only [setIdx, hs2, po, hn, wr, hlo, if_true]
              · cases he
            · cases he
          · rename_i t kvs
            simp only [setV] at he
            split at he
            · rename_i k' hk
              split at he
              · rename_i hcc
                cases he
                have hy : y = ky.x := r2.see.eq (by cases hz : ky.x <;> first | rfl | (rw [hz] at hk; simp [keyOf] at hk))
                subst hy
                refine ⟨rfl, ?_⟩
                simp only [setIdx, hs2, po, hk, wr, hlo, if_true]
                rw [if_pos hcc]
              · cases he
            · cases he
        rw [key.2]
        have E2 := (E.grow p).grow p2
        exact SimS.nx (Step.chg E2 hx hj key.1)
  | .setAttr _ _ _ => simp only [execV]; trivial
  | .expr e =>
    simp only [exec, execV]
    cases hm : mutOf e with
    | none =>
      exact Sim.then E (sndV hΓ e (n := 0) h1 h2 (Nat.zero_le _) E) fun v st1 s p r => SimS.nx (Step.refl (E.grow p))
    | some f =>
      cases f with
      | app i e' =>
        cases mutOf_app hm
        simp only
        refine oOpt_then fun xs hx => ?_
        have hx := ownL_get hx
        obtain ⟨j, hj, hL, _, hs⟩ := own_get E hx
        rw [run_bm hj (by simp [bmTy, lstOf, hs, po])]
        simp only [evals, R.bind_assoc, R.then_bind]
        refine Sim.then E (sndV hΓ e' (n := 0) h1 h2 (Nat.zero_le _) E) fun v st1 s p r => ?_
        have hs1 := pre_at p hs
        refine tv_then r fun _ => ?_
        simp only [R.then_ok, bmf, fAppend, hs1, po]
        split
        · rw [show wr lo j (PO.lst (xs ++ [v])) .none st1 = .ok .none (st1.set j (.lst (xs ++ [v]))) from if_pos (by omega)]
          exact SimS.nx (Step.chg (x' := .lst (xs ++ [v])) (E.grow p) hx hj rfl)
        · trivial
      | ext i e' =>
        cases mutOf_ext hm
        simp only
        refine oOpt_then fun xs hx => ?_
        have hx := ownL_get hx
        obtain ⟨j, hj, hL, _, hs⟩ := own_get E hx
        rw [run_bm hj (by simp [bmTy, lstOf, hs, po])]
        simp only [evals, R.bind_assoc, R.then_bind]
        refine Sim.then E (sndV hΓ e' (n := 0) h1 h2 (Nat.zero_le _) E) fun v st1 s p r => ?_
        have hs1 := pre_at p hs
        replace r := r.see
        generalize s.x = x at r
        cases x <;> first | trivial | skip
        rename_i zs
        simp only [R.then_ok, bmf, fExtend, hs1, po, see_lst r]
        split
        · rw [show wr lo j (PO.lst (xs ++ zs)) .none st1 = .ok .none (st1.set j (.lst (xs ++ zs))) from if_pos (by omega)]
          exact SimS.nx (Step.chg (x' := .lst (xs ++ zs)) (E.grow p) hx hj rfl)
        · trivial
      | ins i a e' =>
        cases mutOf_ins hm
        simp only
        cases hp : popOf e' with
        | some i' =>
          cases popOf_eq hp
          simp only
          refine oOpt_then fun xs hx => ?_
          have hx := ownL_get hx
          obtain ⟨j, hj, hL, _, hs⟩ := own_get E hx
          rw [run_bm hj (by simp [bmTy, lstOf, hs, po])]
          simp only [evals, R.bind_assoc, R.then_bind]
          refine Sim.then E (sndV hΓ a (n := 0) h1 h2 (Nat.zero_le _) E) fun v st1 s p r => ?_
          have hs1 := pre_at p hs
          replace r := r.see
          generalize s.x = x at r
          cases x <;> first | trivial | skip
          cases r.eq rfl
          rename_i k
          cases hg : xs.getLast? with
          | none => trivial
          | some y =>
            simp only
            split
            · rename_i hc
              obtain ⟨rfl, c1, c2, c3⟩ := hc
              rw [run_bm hj (by simp [bmTy, lstOf, hs1, po])]
              simp only [evals, R.bind_ok, R.then_ok, bmf, fPop, hs1, po, hg]
              rw [show wr lo j (PO.lst xs.dropLast) y st1 = .ok y (st1.set j (.lst xs.dropLast)) from if_pos (by omega)]
              simp only [R.bind_ok, R.then_ok, fInsert, List.getElem?_set_self (lt_of_at hs1)]
              rw [if_pos ⟨c1, c2, c3⟩]
              rw [show ∀ z s, wr lo j z PV.none s = .ok .none (s.set j z) from fun z s => if_pos (by omega)]
              simp only [R.then_ok, List.set_set]
              exact SimS.nx (Step.chg (x' := .lst (xs.dropLast.take k.toNat ++ y :: xs.dropLast.drop k.toNat)) (E.grow p) hx hj rfl)
            · trivial
        | none =>
          simp only
          refine oOpt_then fun xs hx => ?_
          have hx := ownL_get hx
          obtain ⟨j, hj, hL, _, hs⟩ := own_get E hx
          rw [run_bm hj (by simp [bmTy, lstOf, hs, po])]
          simp only [evals, R.bind_assoc, R.then_bind]
          refine Sim.then E (sndV hΓ a (n := 0) h1 h2 (Nat.zero_le _) E) fun v st1 s p r => ?_
          have l := p.length_le
          refine Sim.then (E.grow p) (sndV hΓ e' (n := 0) h1 (by omega) (Nat.zero_le _) (E.grow p)) fun w st2 t p2 r2 => ?_
          have hs2 := pre_at p2 (pre_at p hs)
          refine tv_then r2 fun _ => ?_
          replace r := r.see
          generalize s.x = x at r
          cases x <;> first | trivial | skip
          cases r.eq rfl
          rename_i k
          simp only [R.then_ok, bmf, fInsert, hs2, po]
          split
          · rw [show wr lo j (PO.lst (xs.take k.toNat ++ w :: xs.drop k.toNat)) .none st2 = .ok .none (st2.set j (.lst (xs.take k.toNat ++ w :: xs.drop k.toNat))) from if_pos (by omega)]
            exact SimS.nx (Step.chg (x' := .lst (xs.take k.toNat ++ w :: xs.drop k.toNat)) ((E.grow p).grow p2) hx hj rfl)
          · trivial
  | .ite c a b =>
    simp only [exec, execV]
    refine Sim.then E (sndV hΓ c (n := 0) h1 h2 (Nat.zero_le _) E) fun v st1 s p r => ?_
    have l := p.length_le
    replace r := r.see
    generalize s.x = x at r
    cases x <;> first | trivial | skip
    cases r.eq rfl
    rename_i t
    cases t with
    | false => exact sndVXs hΓ b h1 (by omega) (E.grow p)
    | true => exact sndVXs hΓ a h1 (by omega) (E.grow p)
  | .whl n c b =>
    simp only [exec, execV]
    exact whl_sim (fun ρ st ρv hl E => sndV hΓ c h1 hl (Nat.zero_le _) E) (fun ρ st ρv hl E => sndVXs hΓ b h1 hl E) n ρ st ρv h2 E rfl
  | .for_ tg it b =>
    simp only [exec, execV]
    refine Sim.then E (srcFor_sim hΓ it h1 h2 E) fun s st1 xs p r => ?_
    have l := p.length_le
    have hb : ∀ x ρ st ρv, L ≤ st.length → EnvR L st ρ ρv → SimS L st ρ ρv (match assign tg x ρ with
      | some ρ2 => execs Γ lo b ρ2 st
      | none => .bad : RS) (match assignV tg x ρv with
      | some ρ2 => execsV Γv b ρ2
      | none => .bad) := by
      intro x ρ st ρv hl E
      cases ha : assignV tg x ρv with
      | none => trivial
      | some ρv' =>
        obtain ⟨ρ', e1, s2⟩ := assign_step tg x ρ ρv ρv' E ha
        rw [e1]
        exact (sndVXs hΓ b h1 hl s2.env).up s2
    rcases r with rfl | ⟨j, rfl, hj, hn⟩
    · exact forFix_sim hb xs ρ st1 ρv (by omega) (E.grow p) rfl
    · simp only [hj]
      have := forLive_sim (ρ0 := ρv) hb (xs.length + 1) 0 ρ st1 ρv (by omega) (E.grow p) rfl hj hn (Nat.zero_le _) (by omega)
      rw [List.drop_zero] at this
      exact this
  | .ret e =>
    simp only [exec, execV]
    cases hv : varOf e with
    | some i =>
      cases varOf_eq hv
      simp only [eval]
      cases q : ρv[i]? with
      | none => trivial
      | some o =>
        cases o with
        | none => trivial
        | some s =>
          obtain ⟨v, a, b⟩ := E.slot i s q
          simp only [a, R.then_ok]
          cases hs : s.sv with
          | exc c => exact (sv_exc hs).elim
          | bad => trivial
          | ok s' =>
            refine ⟨v, st, rfl, ?_, Nat.le_refl _, fun _ _ _ => rfl⟩
            obtain ⟨k, x⟩ := s
            cases k with
            | tree => cases hs; exact b
            | own => cases hs; exact b
            | bor =>
              unfold SV.sv at hs
              simp only at hs
              split at hs
              · cases hs
              · rename_i hc
                cases hs
                rcases b with b | ⟨j, _, _, c, _⟩
                · exact b
                · exact absurd c hc
    | none => exact then_ret E h2 (sndV hΓ e h1 h2 (Nat.le_refl _) E)
  | .retN => simp only [exec, execV]; exact ⟨_, st, rfl, rfl, Nat.le_refl _, fun _ _ _ => rfl⟩
  | .raise c => simp only [exec, execV]; exact ⟨ρ, st, rfl, Step.refl E⟩
  | .tryAs b c i h =>
    simp only [exec, execV]
    have hb := sndVXs hΓ b h1 h2 E
    cases ho : execsV Γv b ρv with
    | nx ρv' => rw [ho] at hb; obtain ⟨ρ', st', e, s⟩ := hb; rw [e]; exact ⟨ρ', st', rfl, s⟩
    | ret v => rw [ho] at hb; obtain ⟨ρ', st', e, s⟩ := hb; rw [e]; exact ⟨ρ', st', rfl, s⟩
    | bad => trivial
    | exc d ρv1 =>
      rw [ho] at hb
      obtain ⟨ρ1, st1, e, s⟩ := hb
      rw [e]
      have l := s.len
      simp only
      rw [hΓ.sub]
      split
      · have p1 := Step.putT (i := i) (v := .exc d) s.env
        refine SimS.up (s.trans p1) ?_
        refine (sndVXs hΓ h h1 (by omega) p1.env).next fun ρ2 st2 ρv2 s2 => ?_
        refine SimS.nx ⟨s2.env.unset, List.length_set, Nat.le_refl _, fun _ _ _ => rfl, ?_⟩
        rintro j ⟨i', x, a, b⟩
        rcases get_set_some a with ⟨_, e2, _⟩ | ⟨ne, e2⟩
        · cases e2
        · rcases get_set_some b with ⟨q, _⟩ | ⟨_, e3⟩
          · exact absurd q ne
          · exact .inl ⟨i', x, e2, e3⟩
      · exact ⟨ρ1, st1, rfl, s⟩
  | .tryOnly b c h =>
    simp only [exec, execV]
    have hb := sndVXs hΓ b h1 h2 E
    cases ho : execsV Γv b ρv with
    | nx ρv' => rw [ho] at hb; obtain ⟨ρ', st', e, s⟩ := hb; rw [e]; exact ⟨ρ', st', rfl, s⟩
    | ret v => rw [ho] at hb; obtain ⟨ρ', st', e, s⟩ := hb; rw [e]; exact ⟨ρ', st', rfl, s⟩
    | bad => trivial
    | exc d ρv1 =>
      rw [ho] at hb
      obtain ⟨ρ1, st1, e, s⟩ := hb
      rw [e]
      have l := s.len
      simp only
      rw [hΓ.sub]
      split
      · exact SimS.up s (sndVXs hΓ h h1 (by omega) s.env)
      · exact ⟨ρ1, st1, rfl, s⟩
  | .pass => simp only [exec, execV]; exact SimS.nx (Step.refl E)
theorem sndVXs (hΓ : GR Γ Γv) (e : MSs) {ρ : Env} {ρv : VEnv} {st : Sto} {L lo : Nat} (h1 : lo ≤ L) (h2 : L ≤ st.length) (E : EnvR L st ρ ρv) : SimS L st ρ ρv (execs Γ lo e ρ st) (execsV Γv e ρv) := by
  match e with
  | .nil => simp only [execs, execsV]; exact SimS.nx (Step.refl E)
  | .cons s r =>
    simp only [execs, execsV]
    refine (sndVX hΓ s h1 h2 E).next fun ρ' st' ρv' p => ?_
    have l := p.len
    exact sndVXs hΓ r h1 (by omega) p.env
  | .frz i r =>
    simp only [execs, execsV]
    refine SimS.next ?_ fun ρ' st' ρv' p => ?_
    · exact frz_sim h1 E
    · have l := p.len
      exact sndVXs hΓ r h1 (by omega) p.env
end
theorem EnvR.start {st : Sto} : ∀ {vs : List PV} {xs : List SV} (n : Nat), Args st vs xs → EnvR st.length st (vs.map some ++ List.replicate n none) (xs.map some ++ List.replicate n none) := by
  intro vs xs n h
  have hl : vs.length = xs.length := by
    induction h with
    | nil => rfl
    | cons _ _ _ ih => simp [ih]
  have key : ∀ (i : Nat) (s : SV), xs[i]? = some s → ∃ v, vs[i]? = some v ∧ s.kd ≠ .own ∧ VR 0 st v s := by
    clear hl
    induction h with
    | nil => intro i s e; simp at e
    | cons hk h t ih =>
      intro i s e
      cases i with
      | zero =>
        simp only [List.getElem?_cons_zero, Option.some.injEq] at e ⊢
        subst e
        exact ⟨_, rfl, hk, h⟩
      | succ i =>
        simp only [List.getElem?_cons_succ] at e ⊢
        exact ih i s e
  have key2 : ∀ (i : Nat) (s : SV), (xs.map some ++ List.replicate n none)[i]? = some (some s) → xs[i]? = some s := by
    intro i s e
    by_cases hi : i < xs.length
    · rw [List.getElem?_append_left (by simpa using hi), List.getElem?_map] at e
      cases h : xs[i]? with
      | none => rw [h] at e; cases e
      | some s' => rw [h] at e; cases e; rfl
    · rw [List.getElem?_append_right (by simp; omega), List.getElem?_replicate] at e
      split at e <;> cases e
  have key3 : ∀ (i : Nat) (s : SV), (xs.map some ++ List.replicate n none)[i]? = some (some s) → ∃ v, (vs.map some ++ List.replicate n none)[i]? = some (some v) ∧ s.kd ≠ .own ∧ VR 0 st v s := by
    intro i s e
    obtain ⟨v, a, b⟩ := key i s (key2 i s e)
    have hi := (List.getElem?_eq_some_iff.mp a).1
    exact ⟨v, by rw [List.getElem?_append_left (by simpa using hi), List.getElem?_map, a]; rfl, b⟩
  refine ⟨by simp [hl], fun i s e => ?_, fun i i' j ⟨x, a, _⟩ => ?_⟩
  · obtain ⟨v, a, b, c⟩ := key3 i s e
    refine ⟨v, a, ?_⟩
    obtain ⟨k, x⟩ := s
    cases k with
    | tree => exact c
    | own => exact absurd rfl b
    | bor => exact Or.imp id (fun ⟨j, q1, q2, q3⟩ => ⟨j, q1, lt_of_at q3, q2, q3⟩) c
  · obtain ⟨v, _, b, _⟩ := key3 i _ a
    exact absurd rfl b
mutual
theorem boxLt_zero (n : Nat) : ∀ x, boxLt 0 x = true → boxLt n x = true
  | .box i, h => by simp [boxLt] at h
  | .tup xs, h => by simp only [boxLt] at h ⊢; exact boxLtL_zero n xs h
  | .lst xs, h => by simp only [boxLt] at h ⊢; exact boxLtL_zero n xs h
  | .dct _ kvs, h => by simp only [boxLt] at h ⊢; exact boxLtD_zero n kvs h
  | .none, _ => rfl
  | .bool _, _ => rfl
  | .int _, _ => rfl
  | .str _, _ => rfl
  | .exc _, _ => rfl
  | .kls _, _ => rfl
theorem boxLtL_zero (n : Nat) : ∀ xs, boxLtL 0 xs = true → boxLtL n xs = true
  | [], _ => rfl
  | x :: xs, h => by simp only [boxLtL, Bool.and_eq_true] at h ⊢; exact ⟨boxLt_zero n x h.1, boxLtL_zero n xs h.2⟩
theorem boxLtD_zero (n : Nat) : ∀ xs, boxLtD 0 xs = true → boxLtD n xs = true
  | [], _ => rfl
  | (_, x) :: xs, h => by simp only [boxLtD, Bool.and_eq_true] at h ⊢; exact ⟨boxLt_zero n x h.1, boxLtD_zero n xs h.2⟩
end
/-- a def -/
theorem sndFn (hΓ : GR Γ Γv) (d : MD) {lo : Nat} {st : Sto} {vs : List PV} {xs : List SV} (hlo : lo ≤ st.length) (h : Args st vs xs) : Sim (VR st.length) st (runFn Γ d lo vs st) (runFnV Γv d xs) := by
  unfold runFn runFnV
  have hl : vs.length = xs.length := by
    induction h with
    | nil => rfl
    | cons _ _ _ ih => simp [ih]
  rw [hl]
  split
  · have E := EnvR.start (d.slots - d.args) h
    have noOwn : ∀ j, ¬ OwnJ (vs.map some ++ List.replicate (d.slots - d.args) none) (xs.map some ++ List.replicate (d.slots - d.args) none) j := by
      rintro j ⟨i, o⟩
      have := E.ownAt o
      omega
    have pre : ∀ {st' : Sto}, st.length ≤ st'.length → (∀ j, j < st.length → ¬ OwnJ (vs.map some ++ List.replicate (d.slots - d.args) none) (xs.map some ++ List.replicate (d.slots - d.args) none) j → st'[j]? = st[j]?) → st <+: st' := by
      intro st' hl fr
      rw [List.prefix_iff_eq_take]
      refine List.ext_getElem? fun j => ?_
      rw [List.getElem?_take]
      split
      · rename_i hj
        exact (fr j hj (noOwn j)).symm
      · exact List.getElem?_eq_none (by omega)
    have hlo' : (if d.pure then st.length else lo) ≤ st.length := by split <;> omega
    have := sndVXs hΓ d.body (lo := if d.pure then st.length else lo) hlo' (Nat.le_refl _) E
    cases ho : execsV Γv d.body (xs.map some ++ List.replicate (d.slots - d.args) none) with
    | bad => trivial
    | nx ρv' =>
      rw [ho] at this
      obtain ⟨ρ', st', e, s⟩ := this
      rw [e]
      simp only [fin]
      cases d.pure with
      | true => exact Sim.done rfl
      | false => exact ⟨.none, st', rfl, pre s.len s.frame, rfl⟩
    | exc c ρv' =>
      rw [ho] at this
      obtain ⟨ρ', st', e, s⟩ := this
      rw [e]
      simp only
      split
      · exact ⟨st, rfl, List.prefix_refl _⟩
      · exact ⟨st', rfl, pre s.len s.frame⟩
    | ret s =>
      rw [ho] at this
      obtain ⟨v, st', e, f⟩ := this
      rw [e]
      simp only [fin, finV]
      cases d.pure with
      | false =>
        simp only [Bool.false_eq_true, if_false]
        exact ⟨v, st', rfl, pre f.len f.frame, f.val⟩
      | true =>
        simp only [if_true]
        by_cases hk : s.kd = .tree ∧ boxLt 0 s.x = true
        · rw [if_pos hk]
          have hv := f.val
          obtain ⟨k, x⟩ := s
          cases hk.1
          cases hv
          rw [if_pos (boxLt_zero _ _ hk.2)]
          exact Sim.done rfl
        · rw [if_neg hk]; trivial
  · trivial
end
end Z

set_option maxHeartbeats 200000
set_option maxRecDepth 512
/-! Defs by levels: how deep calls go. T: the defs by their numbers. -/
namespace Z
def fnE (T : Nat → MD) (sub : Nat → Nat → Bool) : Nat → Nat → Nat → List PV → Sto → R PV
  | 0, _ => fun _ _ _ => .bad
  | n + 1, i => runFn ⟨fnE T sub n, fun _ _ => none, fun _ => 0, sub⟩ (T i)
def fnV (T : Nat → MD) (sub : Nat → Nat → Bool) : Nat → Nat → List SV → O SV
  | 0, _ => fun _ => .bad
  | n + 1, i => runFnV ⟨fnV T sub n, sub⟩ (T i)
abbrev gamE (T : Nat → MD) (sub : Nat → Nat → Bool) (n : Nat) : Gam := ⟨fnE T sub n, fun _ _ => none, fun _ => 0, sub⟩
abbrev gamV (T : Nat → MD) (sub : Nat → Nat → Bool) (n : Nat) : GamV := ⟨fnV T sub n, sub⟩
theorem lev_sim (T : Nat → MD) (sub : Nat → Nat → Bool) : ∀ n, GR (gamE T sub n) (gamV T sub n)
  | 0 => ⟨fun _ _ _ _ _ _ _ => trivial, rfl⟩
  | n + 1 => ⟨fun f lo st vs xs hlo h => sndFn (lev_sim T sub n) (T f) hlo h, rfl⟩
theorem law_of {T : Nat → MD} {sub : Nat → Nat → Bool} {n i : Nat} {ns : List Int} (h : fnV T sub n i [⟨.tree, .kls ns⟩] = .ok ⟨.tree, .bool true⟩) : ∃ st, fnE T sub n i 0 [.kls ns] [] = .ok (.bool true) st := by
  have := (lev_sim T sub n).fn i 0 [] [.kls ns] [⟨.tree, .kls ns⟩] (Nat.le_refl _) (.cons (by simp) rfl .nil)
  rw [show (gamV T sub n).fn i [⟨.tree, .kls ns⟩] = .ok ⟨.tree, .bool true⟩ from h] at this
  obtain ⟨a, st', e, _, r⟩ := this
  cases r
  exact ⟨st', e⟩
end Z

set_option maxHeartbeats 200000
set_option maxRecDepth 512
set_option maxHeartbeats 4000000
/-! Defs one after another; the law's end. -/
namespace Z
open PySem PySem.Spec PyProof.Rows
open L2 (V HO Hp SqL SqT Rd upd upd_same upd_ne ne_of ne_of_none Cx PE PT PS PSs PA PG PGs PI PW Inv VK TE TA TS TT TG TGs RelV Vals Dp DpAll)

/-- where a def stands: its names; the defs, classes, constants that it may name -/
def ccOf (N : List Str) (s : Stmt) (fs cs : List (Nat × String)) (gs : List (String × PV)) : CC := ⟨N, L2.defScope s, fun _ => true, fun f => fs.lookup f, fun c => cs.lookup c, fun n => gs.lookup n⟩

section
variable {P : Program} {w : World} {K : PySem.W.Frag} {mg : Str → Option Value} {base : Heap}

structure KnownF (T : Nat → MD) (sub : Nat → Nat → Bool) (P : Program) (w : World) (K : PySem.W.Frag) (mg : Str → Option Value) (base : Heap) (ca : Nat → Addr) (k : Nat) (i : Nat) (n : String) : Prop where
  ex : ∃ fa fd ps j, mg (Str.ofString n) = some (.ref fa) ∧ PySem.W.keepIn K (.ref fa) = true ∧ L2.Binds K fd ps [] ∧ j ≤ k ∧ ∀ m, L2.FnOk P w K mg base (L2.CX P w) j fa fd ps (spOf K ca (fnE T sub m i))
def Known (T : Nat → MD) (sub : Nat → Nat → Bool) (P : Program) (w : World) (K : PySem.W.Frag) (mg : Str → Option Value) (base : Heap) (ca : Nat → Addr) (k : Nat) (fs : List (Nat × String)) : Prop := ∀ p ∈ fs, KnownF T sub P w K mg base ca k p.1 p.2
def glbV : PV → V → Prop := fun d v => match d with | .int i => v = .int i | .str s => v = .str (toS s) | _ => False
structure GlbF (mg : Str → Option Value) (n : String) (d : PV) : Prop where
  ex : ∃ u v, mg (Str.ofString n) = some u ∧ RelV v u ∧ (match d with | .int i => v = .int i | .str s => v = .str (toS s) | _ => False)
def GlbOk (mg : Str → Option Value) (gs : List (String × PV)) : Prop := ∀ p ∈ gs, GlbF mg p.1 p.2
theorem GlbOk.nil : GlbOk mg [] := fun p h => by simp at h
theorem GlbOk.int {gs : List (String × PV)} {n : String} {i : Int} {t : Tok} (h : mg (Str.ofString n) = some (.int i t)) (g : GlbOk mg gs) : GlbOk mg ((n, .int i) :: gs) := fun p hp => by
  rcases List.mem_cons.mp hp with rfl | hp
  · exact ⟨_, .int i, h, ⟨t, rfl⟩, rfl⟩
  · exact g p hp
theorem GlbOk.str {gs : List (String × PV)} {n : String} {s : Tx} {z : Str} {t : Tok} (h : mg (Str.ofString n) = some (.str z t)) (e : z = toS s) (g : GlbOk mg gs) : GlbOk mg ((n, .str s) :: gs) := fun p hp => by
  subst e
  rcases List.mem_cons.mp hp with rfl | hp
  · exact ⟨_, .str (toS s), h, ⟨t, rfl⟩, rfl⟩
  · exact g p hp
theorem lookup_mem {α β : Type} [BEq α] [LawfulBEq α] {gs : List (α × β)} {n : α} {d : β} (h : gs.lookup n = some d) : (n, d) ∈ gs := by
  induction gs with
  | nil => simp at h
  | cons p gs ih =>
    obtain ⟨m, e⟩ := p
    rw [List.lookup_cons] at h
    split at h
    · rename_i q
      cases h
      obtain rfl : n = m := by simpa using q
      exact List.mem_cons_self
    · exact List.mem_cons_of_mem _ (ih h)
def ExcOk (K : PySem.W.Frag) (mg : Str → Option Value) (ca : Nat → Addr) (cs : List (Nat × String)) : Prop := ∀ p ∈ cs, ExcF K mg (ca p.1) p.2
theorem ExcOk.nil {ca : Nat → Addr} : ExcOk K mg ca [] := fun p h => by simp at h
theorem ExcOk.cons {ca : Nat → Addr} {cs : List (Nat × String)} {c : Nat} {n : String} (h : ExcF K mg (ca c) n) (g : ExcOk K mg ca cs) : ExcOk K mg ca ((c, n) :: cs) := fun p hp => by
  rcases List.mem_cons.mp hp with rfl | hp
  · exact h
  · exact g p hp
variable {T : Nat → MD} {sub : Nat → Nat → Bool}
theorem Known.nil {ca : Nat → Addr} {k : Nat} : Known T sub P w K mg base ca k [] := fun p h => by simp at h
theorem Known.mono {ca : Nat → Addr} {j k : Nat} {fs : List (Nat × String)} (h : Known T sub P w K mg base ca j fs) (l : j ≤ k) : Known T sub P w K mg base ca k fs := fun p hp => by
  obtain ⟨fa, fd, ps, i, h1, h2, h3, h4, h5⟩ := (h p hp).ex
  exact ⟨fa, fd, ps, i, h1, h2, h3, Nat.le_trans h4 l, h5⟩
theorem fn_known {x : Str} {s : Stmt} {f : Addr} {fd : FuncData} {N ps : List Str} {k : Nat} {ca : Nat → Addr} {fs cs : List (Nat × String)} {gs : List (String × PV)} (i : Nat) (h : Known T sub P w K mg base ca k fs)
    (bi : ∀ n ∈ biNames, mg (Str.ofString n) = none) (ex : ExcOk K mg ca cs) (gl : GlbOk mg gs) (F : L2.Fun K x x s f fd) (S : L2.FnScope N ps (L2.defScope s)) (hm : chkSs (ccOf N s fs cs gs) (T i).body (L2.defBody s) = true) (hsl : (T i).slots = N.length) (har : (T i).args = ps.length) :
    ∀ m, L2.FnOk P w K mg base (L2.CX P w) (k + 1) f fd ps (spOf K ca (fnE T sub m i))
  | 0 => by
    have no : ∀ vs H Q E, ¬ spOf K ca (fnE T sub 0 i) vs H Q E := by
      rintro vs H Q E ⟨rs, lo, ms, st, ds, _, _, _, h⟩
      exact h.elim
    exact ⟨fun vs H Q E q => (no vs H Q E q).elim, fun A outer s H args us vs Q E hr he hb hv hs => (no vs H Q E hs).elim⟩
  | m + 1 => fn_ok ca (gamE T sub m) (ccOf N s fs cs gs) (T i) F S rfl rfl hm hsl har (fun g y e => by
    obtain ⟨fa, fd, ps, j, h1, h2, h3, h4, h5⟩ := (h (g, y) (lookup_mem e)).ex
    exact ⟨fa, fd, ps, j, h1, h2, h3, h4, h5 m⟩) bi (fun c n e => ex (c, n) (lookup_mem e)) fun n d e => (gl _ (lookup_mem e)).ex
theorem Known.add {x : String} {s : Stmt} {f : Addr} {fd : FuncData} {N ps : List Str} {k : Nat} {ca : Nat → Addr} {fs cs : List (Nat × String)} {gs : List (String × PV)} (i : Nat) (h : Known T sub P w K mg base ca k fs)
    (bi : ∀ n ∈ biNames, mg (Str.ofString n) = none) (ex : ExcOk K mg ca cs) (gl : GlbOk mg gs) (F : L2.Fun K (Str.ofString x) (Str.ofString x) s f fd) (S : L2.FnScope N ps (L2.defScope s)) (hm : chkSs (ccOf N s fs cs gs) (T i).body (L2.defBody s) = true) (hsl : (T i).slots = N.length) (har : (T i).args = ps.length)
    (hf : mg (Str.ofString x) = some (.ref f)) (hb : L2.Binds K fd ps []) : Known T sub P w K mg base ca (k + 1) ((i, x) :: fs) := fun p hp => by
  rcases List.mem_cons.mp hp with rfl | hp
  · exact ⟨f, fd, ps, k + 1, hf, F.kp, hb, Nat.le_refl _, fn_known i h bi ex gl F S hm hsl har⟩
  · exact h.mono (Nat.le_succ k) p hp
end

/-- the goal that the head leaves, by what the law's own def comes to -/
theorem law_walk {l : PySem.W.OpenLaw} {q : Program} {loose : List Str} {XP : (Str → Option Value) → Heap → Prop} {YP : World → Heap → Prop} {d : DefRec} {K : Params → PySem.W.Frag} {x : Str} {k : Nat} (D : Nat → List PV → Sto → R PV)
    (hn : l.most = some 63) (hdf : d.params.defaults = []) (hr : L2.Room k callerA) (hY : ∀ (w : World) (h : Heap), YP w h → (K w.params).In h)
    (F : ∀ (w : World) (mg : Str → Option Value) (fa : Addr) (h : Heap), (K w.params).In h → h.Ns mainGlobals mg → mg d.name = some (.ref fa) →
      ∃ (ca : Nat → Addr) (fd : FuncData), (∀ (s : Shared) (u : Value), BindsTo s fd ⟨[u], []⟩ [(x, u)]) ∧ ∀ base : Heap, (K w.params).In base → base.Ns mainGlobals mg → L2.FnOk l.prog w (K w.params) mg base (L2.CX l.prog w) k fa fd [x] (spOf (K w.params) ca D))
    (hD : ∀ ns : List Int, ns.length ≤ 63 → ∃ st, D 0 [.kls ns] [] = .ok (.bool true) st) :
    PySem.W.WalkO q loose XP YP l.row.toRowW d [] (fun f vs => PySem.call f vs) :=
  L2.walk_of (n := 63) (k := k) (x := x) (CX := fun w => L2.CX l.prog w) (sp := fun w vs H Q E => ∀ ca : Nat → Addr, spOf (K w.params) ca D vs H Q E) hn (by decide) hdf hr hY (fun w mg fa h i n e => by
    obtain ⟨ca, fd, b, f⟩ := F w mg fa h i n e
    exact ⟨fd, b, fun base i n => (f base i n).imp fun vs H Q E h => h ca⟩) (fun w H a ns hl _ hS ca => by
    obtain ⟨st', h⟩ := hD ns hl
    refine ⟨[], 0, [], [], [.kls ns], Nat.le_refl _, ⟨rfl, fun i j a ⟨o, e, _⟩ => by simp at e, fun i o a e => by simp at e, fun i a ⟨o, e, _⟩ => by simp at e, fun a h => by simp at h⟩, ?_, ?_⟩
    · simp only [RepL]
      refine ⟨.ref a, [], rfl, ?_, rfl⟩
      simp only [Rep]
      exact ⟨a, rfl, hS.imp (fun r => ⟨r, by simp, fun i ⟨o, e, _⟩ => by simp at e⟩) id⟩
    · rw [h]
      intro ms' H' u e S r
      exact rep_bool r) fun w H s e s' z => by
    obtain ⟨_, _, _, _, _, _, _, _, _, _, _, _, z⟩ := z
    exact z.elim
end Z

set_option maxHeartbeats 200000
set_option maxRecDepth 512
/-! What the small language's texts come to: steps for the mirrors. -/
namespace Z
theorem run_pure {Γ : Gam} {d : MD} {lo : Nat} {xs : List PV} {st st' : Sto} {v : PV} (hp : d.pure = true) (hl : xs.length = d.args) (h : execs Γ st.length d.body (xs.map some ++ List.replicate (d.slots - d.args) none) st = .ret v st') (hb : boxLt st.length v = true) :
    runFn Γ d lo xs st = .ok v st := by
  unfold runFn
  rw [if_pos hl]
  simp only [hp, if_true, h, fin, hb]
theorem atI_nn {α : Type} (xs : List α) (k : Int) (h : 0 ≤ k) : L2.atI xs k = xs[k.toNat]? := by
  unfold L2.atI L2.ixN
  rw [if_pos h]
  by_cases h1 : k < xs.length
  · rw [if_pos h1]; rfl
  · rw [if_neg h1]
    rw [List.getElem?_eq_none (by omega)]
    rfl
/-- the number at k of a script -/
def cell (ns : List Int) (k : Int) : Int := if k < ns.length then ns.getD k.toNat 0 else if ns = [] then 0 else ns.getD (k % ns.length).toNat 0 * 31 + k
/-- a number below m, drawn at k -/
def pick (ns : List Int) (k m : Int) : Int := (((cell ns k + 6151 * (k + 1)) * 40692 % 2147483399) * ((cell ns k + 6151 * (k + 1)) * 40692 % 2147483399) + ((cell ns k + 6151 * (k + 1)) * 40692 % 2147483399) / 31) % 2147483629 % m
theorem pick_nn (ns : List Int) (k m : Int) (h : 0 < m) : 0 ≤ pick ns k m := Int.emod_nonneg _ (by omega)
theorem pick_lt (ns : List Int) (k m : Int) (h : 0 < m) : pick ns k m < m := Int.emod_lt_of_pos _ h

section
variable {st : Sto} {bx : Bool} {i j : Int} {x y : Tx} {xs ys : List PV} {ns : List Int} {v w : PV} {lo : Nat} {b c : Bool}
@[simp] theorem szl : sizeLine = 16777216 := rfl
@[simp] theorem b_add : binop .add bx (.int i) (.int j) st = .ok (.int (i + j)) st := rfl
@[simp] theorem b_sub : binop .sub bx (.int i) (.int j) st = .ok (.int (i - j)) st := rfl
theorem b_mul : binop .mul bx (.int i) (.int j) st = if (-big < i ∧ i < big) ∨ (-big < j ∧ j < big) then .ok (.int (i * j)) st else .bad := rfl
theorem b_mulR (h : -big < j ∧ j < big) : binop .mul bx (.int i) (.int j) st = .ok (.int (i * j)) st := if_pos (.inr h)
theorem b_mulL (h : -big < i ∧ i < big) : binop .mul bx (.int i) (.int j) st = .ok (.int (i * j)) st := if_pos (.inl h)
theorem b_mod (h : 0 < j) : binop .mod bx (.int i) (.int j) st = .ok (.int (i % j)) st := if_pos h
theorem b_div (h : 0 < j ∧ j < 1073741824) : binop .fdiv bx (.int i) (.int j) st = .ok (.int (i / j)) st := if_pos h
theorem b_cat (h : x.length + y.length ≤ sizeLine) : binop .add bx (.str x) (.str y) st = .ok (.str (x ++ y)) st := if_pos h
theorem b_catL (h : xs.length + ys.length ≤ sizeLine) : binop .add bx (.lst xs) (.lst ys) st = mkLst bx (xs ++ ys) st := if_pos h
@[simp] theorem l_lt : cmpV .lt (.int i) (.int j) st = some (decide (i < j)) := rfl
@[simp] theorem l_le : cmpV .le (.int i) (.int j) st = some (decide (i ≤ j)) := rfl
@[simp] theorem l_gt : cmpV .gt (.int i) (.int j) st = some (decide (j < i)) := rfl
@[simp] theorem l_ge : cmpV .ge (.int i) (.int j) st = some (decide (j ≤ i)) := rfl
@[simp] theorem l_eqI : cmpV .eq (.int i) (.int j) st = some (decide (i = j)) := by
  simp only [cmpV, res, plain, eqv, Bool.and_self, if_true]
  rfl
@[simp] theorem l_neI : cmpV .ne (.int i) (.int j) st = some (!decide (i = j)) := by
  simp only [cmpV, res, plain, eqv, Bool.and_self, if_true]
  rfl
@[simp] theorem l_isB : cmpV .is (.bool b) (.bool c) st = some (decide (b = c)) := rfl
@[simp] theorem l_isNotB : cmpV .isNot (.bool b) (.bool c) st = some (!decide (b = c)) := rfl
@[simp] theorem f_lenL : bfn .len bx [.lst xs] st = .ok (.int xs.length) st := rfl
@[simp] theorem f_lenT : bfn .len bx [.tup xs] st = .ok (.int xs.length) st := rfl
@[simp] theorem f_lenK : bfn .len bx [.kls ns] st = .ok (.int ns.length) st := by
  show R.ok (PV.int ((ns.map PV.int).length : Nat)) st = _
  rw [List.length_map]
@[simp] theorem m_lst : mkLst false xs st = .ok (.lst xs) st := rfl
@[simp] theorem m_box : mkLst true xs st = .ok (.box st.length) (st ++ [.lst xs]) := rfl
theorem i_lst (h : 0 ≤ i) : idxf (.lst xs) (.int i) st = ofOpt xs[i.toNat]? st := by
  show ofOpt (L2.atI xs i) st = _
  rw [atI_nn _ _ h]
theorem i_tup (h : 0 ≤ i) : idxf (.tup xs) (.int i) st = ofOpt xs[i.toNat]? st := by
  show ofOpt (L2.atI xs i) st = _
  rw [atI_nn _ _ h]
theorem i_kls (h : 0 ≤ i) (h2 : i < ns.length) : idxf (.kls ns) (.int i) st = .ok (.int (ns.getD i.toNat 0)) st := by
  show ofOpt (L2.atI (ns.map PV.int) i) st = _
  have : i.toNat < ns.length := by omega
  rw [atI_nn _ _ h, List.getElem?_map, List.getElem?_eq_getElem this]
  simp [List.getD, this]
theorem last_get {st0 : Sto} {o : PO} : (st0 ++ [o])[st0.length]? = some o := by simp
theorem last_set {st0 : Sto} {o o' : PO} : (st0 ++ [o]).set st0.length o' = st0 ++ [o'] := by simp
theorem k_append (h : ys.length < sizeLine) : bmf .append st.length (.box st.length) [v] (st ++ [.lst ys]) = .ok .none (st ++ [.lst (ys ++ [v])]) := by
  simp only [bmf, fAppend, last_get, h, if_true, wr, Nat.le_refl, last_set]
@[simp] theorem k_ty : bmTy .append (st ++ [.lst ys]) (.box st.length) = true := by
  simp only [bmTy, lstOf, last_get, Option.isSome]
theorem k_extend {zs : List PV} (h : ys.length + zs.length ≤ sizeLine) : bmf .extend st.length (.box st.length) [.lst zs] (st ++ [.lst ys]) = .ok .none (st ++ [.lst (ys ++ zs)]) := by
  simp only [bmf, fExtend, last_get, lstOf, h, if_true, wr, Nat.le_refl, last_set]
@[simp] theorem k_tyE : bmTy .extend (st ++ [.lst ys]) (.box st.length) = true := by
  simp only [bmTy, lstOf, last_get, Option.isSome]
@[simp] theorem k_tyI : bmTy .insert (st ++ [.lst ys]) (.box st.length) = true := by
  simp only [bmTy, lstOf, last_get, Option.isSome]
@[simp] theorem k_tyP : bmTy .pop (st ++ [.lst ys]) (.box st.length) = true := by
  simp only [bmTy, lstOf, last_get, Option.isSome]
theorem k_insert {k : Int} (h : 0 ≤ k ∧ k ≤ ys.length ∧ ys.length < sizeLine) : bmf .insert st.length (.box st.length) [.int k, v] (st ++ [.lst ys]) = .ok .none (st ++ [.lst (ys.take k.toNat ++ v :: ys.drop k.toNat)]) := by
  simp only [bmf, fInsert, last_get, h, and_self, if_true, wr, Nat.le_refl, last_set]
theorem k_pop {y : PV} (h : ys.getLast? = some y) : bmf .pop st.length (.box st.length) [] (st ++ [.lst ys]) = .ok y (st ++ [.lst ys.dropLast]) := by
  simp only [bmf, fPop, last_get, h, wr, Nat.le_refl, if_true, last_set]
@[simp] theorem f_lenB : bfn .len bx [.box st.length] (st ++ [.lst ys]) = .ok (.int ys.length) (st ++ [.lst ys]) := by
  show (match seqOf (st ++ [.lst ys]) (.box st.length) with | some xs => R.ok (PV.int xs.length) _ | none => _) = _
  simp only [seqOf, last_get]
theorem i_box {k : Int} (h : 0 ≤ k) : idxf (.box st.length) (.int k) (st ++ [.lst ys]) = ofOpt ys[k.toNat]? (st ++ [.lst ys]) := by
  simp only [idxf, dctOf, seqOf, last_get, atI_nn _ _ h]
theorem z_frz {ρ : Env} {n : Nat} (h : ρ[n]? = some (some (.box st.length))) : frzf st.length n ρ (st ++ [.lst ys]) = .nx (ρ.set n (some (.lst ys))) (st ++ [.dead]) := by
  simp only [frzf, h, last_get, Nat.le_refl, if_true, last_set]
/-! comprehensions and loops -/
theorem comp_filter {F : PV → Sto → R (Option PV)} {p : PV → Bool} {g : PV → PV} {st : Sto} : ∀ {xs : List PV}, (∀ x ∈ xs, F x st = .ok (if p x then some (g x) else none) st) → compFix F xs st = .ok ((xs.filter p).map g) st
  | [], _ => rfl
  | x :: xs, h => by
    unfold compFix
    rw [h x List.mem_cons_self, R.bind_ok, comp_filter fun y hy => h y (List.mem_cons_of_mem _ hy), R.bind_ok]
    by_cases e : p x = true
    · simp [e]
    · simp [e]
theorem comp_map {F : PV → Sto → R (Option PV)} {g : PV → PV} {st : Sto} {xs : List PV} (h : ∀ x ∈ xs, F x st = .ok (some (g x)) st) : compFix F xs st = .ok (xs.map g) st := by
  have := comp_filter (p := fun _ => true) (g := g) (F := F) (xs := xs) (st := st) fun x hx => by rw [h x hx]; rfl
  rw [List.filter_eq_self.mpr fun _ _ => rfl] at this
  exact this
/-- one turn's element -/
def elM (Γ : Gam) (lo : Nat) (tg : Tg) (vs : List Nat) (cond : Option ME) (elt : ME) (ρ : Env) : PV → Sto → R (Option PV) := fun x st2 => match assign tg x (wipe ρ vs) with
  | some ρ' => (match cond with
    | some c => (eval Γ lo c ρ' st2).calm.bind fun b st3 => match b with
      | .bool true => (eval Γ lo elt ρ' st3).calm.bind fun y st4 => .ok (some y) st4
      | .bool false => .ok none st3
      | _ => .bad
    | none => (eval Γ lo elt ρ' st2).calm.bind fun y st4 => .ok (some y) st4)
  | none => .bad
theorem ev_fix {Γ : Gam} {lo : Nat} {tg : Tg} {vs : List Nat} {it : MI} {cond : Option ME} {elt : ME} {ρ : Env} {st : Sto} {bx : Bool} {xs ys : List PV} (hs : source Γ lo it ρ st = .ok (.fix xs) st) (hc : compFix (elM Γ lo tg vs cond elt ρ) xs st = .ok ys st) (hz : ys.length ≤ sizeLine) :
    eval Γ lo (.comp bx tg vs it cond elt) ρ st = mkLst bx ys st := by
  have e : eval Γ lo (.comp bx tg vs it cond elt) ρ st = (source Γ lo it ρ st).bind fun s st1 => (match s with
      | .fix xs => compFix (elM Γ lo tg vs cond elt ρ) xs st1
      | .live i => compLive i (elM Γ lo tg vs cond elt ρ) (match st1[i]? with | some (.lst xs) => xs.length + 1 | _ => 0) 0 st1
      | .liveE _ => .bad).bind fun ys st2 => if ys.length ≤ sizeLine then mkLst bx ys st2 else .bad := by
    rw [eval.eq_def]
    cases cond <;> rfl
  rw [e, hs, R.bind_ok]
  show (compFix (elM Γ lo tg vs cond elt ρ) xs st).bind _ = _
  rw [hc, R.bind_ok, if_pos hz]
end
end Z

set_option maxHeartbeats 200000
set_option maxRecDepth 512
namespace Z
/-! ### the defs: their numbers, their texts -/
def i_is_whole : Nat := 0
def i_is_key : Nat := 1
def i_is_row : Nat := 2
def i_look_row : Nat := 11
def i_is_log : Nat := 3
def i_look_log : Nat := 12
def i_look_moment : Nat := 42
def i_at_moment : Nat := 43
def i_history : Nat := 44
def i__law_cell : Nat := 5
def i__law_pick : Nat := 6
def i__law_key : Nat := 7
def i__law_number : Nat := 8
def i__law_rows : Nat := 9
def i_law_k83 : Nat := 45
def i_is_step : Nat := 13
def i_is_ask : Nat := 14
def i_look_ask : Nat := 15
def i_kept_alone : Nat := 16
def i_reckoned : Nat := 17
def i_by_keys : Nat := 18
def i_windows : Nat := 19
def i_stepped : Nat := 20
def i_asked : Nat := 21
def i_law_k12 : Nat := 22
def i_in_order : Nat := 4
def i_merged : Nat := 23
def i_by_keys_parted : Nat := 24
def i_from_to : Nat := 25
def i_keys_changed : Nat := 26
def i_law_k13 : Nat := 27
def i_look_two : Nat := 46
def i_weighed : Nat := 47
def i_beside : Nat := 48
def i_unlike_at : Nat := 49
def i_law_k84 : Nat := 50
def m_is_whole : MD := ⟨true, 3, 3,
 (.cons (.ret (.and (.isinst (.var 0) .int) (.and (.nt (.isinst (.var 0) .bool)) (.chain .le .le (.var 1) (.var 0) (.var 2)))))
 .nil)⟩
def c_is_key_0 : ME := (.comp false (.name 1) [1] (.seq (.var 0)) .none (.cmp .isIn (.var 1) (.glob "SMALL" (.str ['a', 'b', 'c', 'd', 'e', 'f', 'g', 'h', 'i', 'j', 'k', 'l', 'm', 'n', 'o', 'p', 'q', 'r', 's', 't', 'u', 'v', 'w', 'x', 'y', 'z']))))
@[simp] theorem poc_is_key_0 : popOf c_is_key_0 = none := rfl
@[simp] theorem vac_is_key_0 : varOf c_is_key_0 = none := rfl
def m_is_key : MD := ⟨true, 2, 1,
 (.cons (.ret (.and (.isinst (.var 0) .str) (.and (.chain .le .le (.const (.int 1)) (.bi .len false (.cons (.var 0) .nil)) (.const (.int 2))) (.bi .all false (.cons c_is_key_0 .nil)))))
 .nil)⟩
def m_is_row : MD := ⟨true, 1, 1,
 (.cons (.ite (.or (.nt (.isinst (.var 0) .tuple)) (.or (.cmp .ne (.bi .len false (.cons (.var 0) .nil)) (.const (.int 3))) (.nt (.call i_is_key (.cons (.idx (.var 0) (.const (.int 1))) .nil))))) (.cons (.ret (.const (.bool false)))
 .nil) .nil)
 (.cons (.ret (.and (.call i_is_whole (.cons (.idx (.var 0) (.const (.int 0))) (.cons (.const (.int 0)) (.cons (.glob "FARTHEST" (.int 99)) .nil)))) (.call i_is_whole (.cons (.idx (.var 0) (.const (.int 2))) (.cons (.bin .sub false (.const (.int 0)) (.glob "GREATEST" (.int 99))) (.cons (.glob "GREATEST" (.int 99)) .nil))))))
 .nil))⟩
def m_look_row : MD := ⟨true, 1, 1,
 (.cons (.ite (.nt (.call i_is_row (.cons (.var 0) .nil))) (.cons (.raise 1)
 .nil) .nil)
 .nil)⟩
def c_is_log_0 : ME := (.comp false (.tup [(.name 1), (.name 2)]) [1, 2] (.zip (.var 0) (.slice false (.var 0) (some (.const (.int 1))) .none)) .none (.cmp .le (.idx (.var 1) (.const (.int 0))) (.idx (.var 2) (.const (.int 0)))))
@[simp] theorem poc_is_log_0 : popOf c_is_log_0 = none := rfl
@[simp] theorem vac_is_log_0 : varOf c_is_log_0 = none := rfl
def m_is_log : MD := ⟨true, 3, 1,
 (.cons (.ret (.bi .all false (.cons c_is_log_0 .nil)))
 .nil)⟩
def b_look_log_0 : MSs := (.cons (.expr (.call i_look_row (.cons (.var 1) .nil)))
 .nil)
def m_look_log : MD := ⟨true, 2, 1,
 (.cons (.for_ (.name 1) (.seq (.var 0)) b_look_log_0)
 (.cons (.ite (.nt (.call i_is_log (.cons (.var 0) .nil))) (.cons (.raise 3)
 .nil) .nil)
 .nil))⟩
def m_look_moment : MD := ⟨true, 1, 1,
 (.cons (.ite (.nt (.call i_is_whole (.cons (.var 0) (.cons (.const (.int 0)) (.cons (.glob "LATEST" (.int 999)) .nil))))) (.cons (.raise 7)
 .nil) .nil)
 .nil)⟩
def b_at_moment_0 : MSs := (.cons (.ite (.cmp .le (.idx (.var 3) (.const (.int 0))) (.var 1)) (.cons (.setItem (.var 2) (.idx (.var 3) (.const (.int 1))) (.idx (.var 3) (.const (.int 2))))
 .nil) .nil)
 .nil)
def m_at_moment : MD := ⟨true, 4, 2,
 (.cons (.expr (.call i_look_log (.cons (.var 0) .nil)))
 (.cons (.expr (.call i_look_moment (.cons (.var 1) .nil)))
 (.cons (.asg (.name 2) (.dict0 false))
 (.cons (.for_ (.name 3) (.seq (.var 0)) b_at_moment_0)
 (.frz 2 (.cons (.ret (.bi .sortedItems false (.cons (.var 2) .nil)))
 .nil))))))⟩
def b_history_0 : MSs := (.cons (.ite (.cmp .eq (.idx (.var 3) (.const (.int 1))) (.var 1)) (.cons (.setItem (.var 2) (.idx (.var 3) (.const (.int 0))) (.idx (.var 3) (.const (.int 2))))
 .nil) .nil)
 .nil)
def m_history : MD := ⟨true, 4, 2,
 (.cons (.expr (.call i_look_log (.cons (.var 0) .nil)))
 (.cons (.asg (.name 2) (.dict0 false))
 (.cons (.for_ (.name 3) (.seq (.var 0)) b_history_0)
 (.frz 2 (.cons (.ret (.bi .sortedItems false (.cons (.var 2) .nil)))
 .nil)))))⟩
def m__law_cell : MD := ⟨true, 2, 2,
 (.cons (.ite (.cmp .lt (.var 1) (.bi .len false (.cons (.var 0) .nil))) (.cons (.ret (.idx (.var 0) (.var 1)))
 .nil) .nil)
 (.cons (.ite (.cmp .eq (.var 0) (.lst false .nil)) (.cons (.ret (.const (.int 0)))
 .nil) .nil)
 (.cons (.ret (.bin .add false (.bin .mul false (.idx (.var 0) (.bin .mod false (.var 1) (.bi .len false (.cons (.var 0) .nil)))) (.const (.int 31))) (.var 1)))
 .nil)))⟩
def m__law_pick : MD := ⟨true, 4, 3,
 (.cons (.asg (.name 3) (.bin .mod false (.bin .mul false (.bin .add false (.call i__law_cell (.cons (.var 0) (.cons (.var 1) .nil))) (.bin .mul false (.const (.int 6151)) (.bin .add false (.var 1) (.const (.int 1))))) (.const (.int 40692))) (.const (.int 2147483399))))
 (.cons (.ret (.bin .mod false (.bin .mod false (.bin .add false (.bin .mul false (.var 3) (.var 3)) (.bin .fdiv false (.var 3) (.const (.int 31)))) (.const (.int 2147483629))) (.var 2)))
 .nil))⟩
def m__law_key : MD := ⟨true, 5, 2,
 (.cons (.asg (.name 2) (.const (.str ['a', 'b', 'c', 'd', 'e', 'f', 'g', 'h', 'i', 'j', 'k', 'l', 'm', 'n', 'o', 'p', 'q', 'r', 's', 't', 'u', 'v', 'w', 'x', 'y', 'z'])))
 (.cons (.asg (.name 3) (.call i__law_pick (.cons (.var 0) (.cons (.var 1) (.cons (.const (.int 16)) .nil)))))
 (.cons (.ite (.cmp .gt (.var 3) (.const (.int 0))) (.cons (.ret (.idx (.lst false (.cons (.const (.str ['a'])) (.cons (.const (.str ['b'])) (.cons (.const (.str ['a', 'b'])) .nil)))) (.bin .mod false (.var 3) (.const (.int 3)))))
 .nil) .nil)
 (.cons (.asg (.name 4) (.idx (.var 2) (.call i__law_pick (.cons (.var 0) (.cons (.bin .add false (.var 1) (.const (.int 1))) (.cons (.const (.int 26)) .nil))))))
 (.cons (.ite (.cmp .eq (.call i__law_pick (.cons (.var 0) (.cons (.bin .add false (.var 1) (.const (.int 2))) (.cons (.const (.int 2)) .nil)))) (.const (.int 0))) (.cons (.ret (.var 4))
 .nil) .nil)
 (.cons (.ret (.bin .add false (.var 4) (.idx (.var 2) (.call i__law_pick (.cons (.var 0) (.cons (.bin .add false (.var 1) (.const (.int 3))) (.cons (.const (.int 26)) .nil)))))))
 .nil))))))⟩
def m__law_number : MD := ⟨true, 3, 3,
 (.cons (.ite (.cmp .eq (.call i__law_pick (.cons (.var 0) (.cons (.var 1) (.cons (.const (.int 8)) .nil)))) (.const (.int 0))) (.cons (.ret (.bin .sub false (.call i__law_pick (.cons (.var 0) (.cons (.bin .add false (.var 1) (.const (.int 1))) (.cons (.bin .add false (.bin .mul false (.const (.int 2)) (.var 2)) (.const (.int 1))) .nil)))) (.var 2)))
 .nil) .nil)
 (.cons (.ret (.bin .sub false (.call i__law_pick (.cons (.var 0) (.cons (.bin .add false (.var 1) (.const (.int 1))) (.cons (.const (.int 9)) .nil)))) (.const (.int 4))))
 .nil))⟩
def b__law_rows_0 : MSs := (.cons (.asg (.name 7) (.bin .add false (.bin .add false (.var 1) (.const (.int 10))) (.bin .mul false (.const (.int 8)) (.var 6))))
 (.cons (.asg (.name 4) (.bi .min2 false (.cons (.const (.int 99)) (.cons (.bin .add false (.var 4) (.call i__law_pick (.cons (.var 0) (.cons (.var 7) (.cons (.var 5) .nil))))) .nil))))
 (.cons (.expr (.bm .append (.var 3) (.cons (.tup (.cons (.var 4) (.cons (.call i__law_key (.cons (.var 0) (.cons (.bin .add false (.var 7) (.const (.int 1))) .nil))) (.cons (.call i__law_number (.cons (.var 0) (.cons (.bin .add false (.var 7) (.const (.int 5))) (.cons (.const (.int 99)) .nil)))) .nil)))) .nil)))
 .nil)))
def m__law_rows : MD := ⟨true, 8, 3,
 (.cons (.asg (.name 3) (.lst true .nil))
 (.cons (.asg (.name 4) (.call i__law_pick (.cons (.var 0) (.cons (.var 1) (.cons (.const (.int 9)) .nil)))))
 (.cons (.asg (.name 5) (.idx (.lst false (.cons (.const (.int 1)) (.cons (.const (.int 3)) (.cons (.const (.int 6)) (.cons (.const (.int 14)) .nil))))) (.call i__law_pick (.cons (.var 0) (.cons (.bin .add false (.var 1) (.const (.int 1))) (.cons (.const (.int 4)) .nil))))))
 (.cons (.for_ (.name 6) (.range1 (.call i__law_pick (.cons (.var 0) (.cons (.bin .add false (.var 1) (.const (.int 2))) (.cons (.bin .add false (.var 2) (.const (.int 1))) .nil))))) b__law_rows_0)
 (.frz 3 (.cons (.ret (.var 3))
 .nil))))))⟩
def c_law_k83_0 : ME := (.comp false (.name 11) [11] (.seq (.var 1)) .none (.idx (.var 11) (.const (.int 1))))
@[simp] theorem poc_law_k83_0 : popOf c_law_k83_0 = none := rfl
@[simp] theorem vac_law_k83_0 : varOf c_law_k83_0 = none := rfl
def c_law_k83_1 : ME := (.comp false (.name 11) [11] (.seq (.var 1)) .none (.idx (.var 11) (.const (.int 0))))
@[simp] theorem poc_law_k83_1 : popOf c_law_k83_1 = none := rfl
@[simp] theorem vac_law_k83_1 : varOf c_law_k83_1 = none := rfl
def c_law_k83_2 : ME := (.comp false (.name 10) [10] (.range1 (.const (.int 4))) .none (.call i__law_pick (.cons (.var 0) (.cons (.var 10) (.cons (.const (.int 110)) .nil)))))
@[simp] theorem poc_law_k83_2 : popOf c_law_k83_2 = none := rfl
@[simp] theorem vac_law_k83_2 : varOf c_law_k83_2 = none := rfl
def c_law_k83_3 : ME := (.comp false (.name 11) [11] (.seq (.var 1)) (some (.and (.cmp .eq (.idx (.var 11) (.const (.int 1))) (.var 3)) (.cmp .le (.idx (.var 11) (.const (.int 0))) (.var 2)))) (.idx (.var 11) (.const (.int 2))))
@[simp] theorem poc_law_k83_3 : popOf c_law_k83_3 = none := rfl
@[simp] theorem vac_law_k83_3 : varOf c_law_k83_3 = none := rfl
def b_law_k83_0 : MSs := (.cons (.asg (.name 7) c_law_k83_3)
 (.cons (.expr (.bm .extend (.var 6) (.cons (.ite (.cmp .ne (.var 7) (.lst false .nil)) (.lst false (.cons (.tup (.cons (.var 3) (.cons (.idx (.var 7) (.neg (.const (.int 1)))) .nil))) .nil)) (.lst false .nil)) .nil)))
 .nil))
def b_law_k83_1 : MSs := (.cons (.asg (.name 6) (.lst true .nil))
 (.cons (.for_ (.name 3) (.seq (.var 4)) b_law_k83_0)
 (.frz 6 (.cons (.ite (.cmp .ne (.call i_at_moment (.cons (.var 1) (.cons (.var 2) .nil))) (.var 6)) (.cons (.ret (.const (.bool false)))
 .nil) .nil)
 .nil))))
def c_law_k83_4 : ME := (.comp false (.name 11) [11] (.seq (.var 1)) (some (.cmp .eq (.idx (.var 11) (.const (.int 1))) (.var 3))) (.var 11))
@[simp] theorem poc_law_k83_4 : popOf c_law_k83_4 = none := rfl
@[simp] theorem vac_law_k83_4 : varOf c_law_k83_4 = none := rfl
def c_law_k83_5 : ME := (.comp false (.tup [(.name 2), (.name 9)]) [2, 9] (.seq (.var 8)) .none (.var 2))
@[simp] theorem poc_law_k83_5 : popOf c_law_k83_5 = none := rfl
@[simp] theorem vac_law_k83_5 : varOf c_law_k83_5 = none := rfl
def c_law_k83_6 : ME := (.comp false (.name 11) [11] (.seq (.var 7)) .none (.idx (.var 11) (.const (.int 0))))
@[simp] theorem poc_law_k83_6 : popOf c_law_k83_6 = none := rfl
@[simp] theorem vac_law_k83_6 : varOf c_law_k83_6 = none := rfl
def c_law_k83_7 : ME := (.comp false (.name 11) [11] (.seq (.var 7)) (some (.cmp .eq (.idx (.var 11) (.const (.int 0))) (.var 2))) (.idx (.var 11) (.const (.int 2))))
@[simp] theorem poc_law_k83_7 : popOf c_law_k83_7 = none := rfl
@[simp] theorem vac_law_k83_7 : varOf c_law_k83_7 = none := rfl
def b_law_k83_2 : MSs := (.cons (.ite (.cmp .notIn (.tup (.cons (.var 3) (.cons (.var 9) .nil))) (.call i_at_moment (.cons (.var 1) (.cons (.var 2) .nil)))) (.cons (.ret (.const (.bool false)))
 .nil) .nil)
 (.cons (.ite (.cmp .ne (.idx c_law_k83_7 (.neg (.const (.int 1)))) (.var 9)) (.cons (.ret (.const (.bool false)))
 .nil) .nil)
 .nil))
def b_law_k83_3 : MSs := (.cons (.asgN [8, 7] (.cons (.call i_history (.cons (.var 1) (.cons (.var 3) .nil))) (.cons c_law_k83_4 .nil)))
 (.cons (.ite (.cmp .ne c_law_k83_5 (.bi .sortedSet false (.cons c_law_k83_6 .nil))) (.cons (.ret (.const (.bool false)))
 .nil) .nil)
 (.cons (.for_ (.tup [(.name 2), (.name 9)]) (.seq (.var 8)) b_law_k83_2)
 .nil)))
def b_law_k83_4 : MSs := (.cons (.ite (.cmp .lt (.bi .len false (.cons (.call i_at_moment (.cons (.var 1) (.cons (.var 2) .nil))) .nil)) (.var 5)) (.cons (.ret (.const (.bool false)))
 .nil) .nil)
 (.cons (.asg (.name 5) (.bi .len false (.cons (.call i_at_moment (.cons (.var 1) (.cons (.var 2) .nil))) .nil)))
 .nil))
def m_law_k83 : MD := ⟨true, 12, 1,
 (.cons (.asg (.name 1) (.call i__law_rows (.cons (.var 0) (.cons (.const (.int 100)) (.cons (.const (.int 12)) .nil)))))
 (.cons (.asgN [4, 5] (.cons (.bi .sortedSet false (.cons c_law_k83_0 .nil)) (.cons (.neg (.const (.int 1))) .nil)))
 (.cons (.for_ (.name 2) (.seq (.bin .add false (.bin .add false (.lst false (.cons (.const (.int 0)) (.cons (.const (.int 999)) .nil))) c_law_k83_1) c_law_k83_2)) b_law_k83_1)
 (.cons (.for_ (.name 3) (.seq (.var 4)) b_law_k83_3)
 (.cons (.for_ (.name 2) (.seq (.tup (.cons (.const (.int 0)) (.cons (.const (.int 5)) (.cons (.const (.int 20)) (.cons (.const (.int 60)) (.cons (.const (.int 99)) .nil))))))) b_law_k83_4)
 (.cons (.ret (.and (.cmp .eq (.call i_at_moment (.cons (.lst false .nil) (.cons (.const (.int 5)) .nil))) (.lst false .nil)) (.cmp .eq (.call i_history (.cons (.lst false .nil) (.cons (.const (.str ['a'])) .nil))) (.lst false .nil))))
 .nil))))))⟩
def m_is_step : MD := ⟨true, 2, 1,
 (.cons (.ite (.or (.nt (.isinst (.var 0) .tuple)) (.or (.cmp .eq (.var 0) (.tup .nil)) (.nt (.isinst (.idx (.var 0) (.const (.int 0))) .str)))) (.cons (.ret (.const (.bool false)))
 .nil) .nil)
 (.cons (.asg (.name 1) (.idx (.var 0) (.const (.int 0))))
 (.cons (.ite (.cmp .isIn (.var 1) (.tup (.cons (.const (.str ['r', 'u', 'n', 'n', 'i', 'n', 'g'])) (.cons (.const (.str ['c', 'h', 'a', 'n', 'g', 'e'])) (.cons (.const (.str ['u', 'n', 'l', 'i', 'k', 'e'])) .nil))))) (.cons (.ret (.cmp .eq (.bi .len false (.cons (.var 0) .nil)) (.const (.int 1))))
 .nil) .nil)
 (.cons (.ite (.cmp .ne (.bi .len false (.cons (.var 0) .nil)) (.const (.int 2))) (.cons (.ret (.const (.bool false)))
 .nil) .nil)
 (.cons (.ite (.cmp .eq (.var 1) (.const (.str ['k', 'e', 'y']))) (.cons (.ret (.call i_is_key (.cons (.idx (.var 0) (.const (.int 1))) .nil)))
 .nil) .nil)
 (.cons (.ite (.cmp .isIn (.var 1) (.tup (.cons (.const (.str ['o', 'v', 'e', 'r'])) (.cons (.const (.str ['u', 'n', 'd', 'e', 'r'])) (.cons (.const (.str ['p', 'l', 'u', 's'])) (.cons (.const (.str ['t', 'i', 'm', 'e', 's'])) .nil)))))) (.cons (.ret (.call i_is_whole (.cons (.idx (.var 0) (.const (.int 1))) (.cons (.bin .sub false (.const (.int 0)) (.glob "LARGEST" (.int 20))) (.cons (.glob "LARGEST" (.int 20)) .nil)))))
 .nil) .nil)
 (.cons (.ret (.and (.cmp .isIn (.var 1) (.tup (.cons (.const (.str ['f', 'i', 'r', 's', 't'])) (.cons (.const (.str ['e', 'a', 'c', 'h'])) (.cons (.const (.str ['w', 'i', 'n', 'd', 'o', 'w'])) .nil))))) (.call i_is_whole (.cons (.idx (.var 0) (.const (.int 1))) (.cons (.const (.int 1)) (.cons (.glob "LARGEST" (.int 20)) .nil))))))
 .nil)))))))⟩
def c_is_ask_0 : ME := (.comp false (.name 1) [1] (.seq (.var 0)) .none (.call i_is_step (.cons (.var 1) .nil)))
@[simp] theorem poc_is_ask_0 : popOf c_is_ask_0 = none := rfl
@[simp] theorem vac_is_ask_0 : varOf c_is_ask_0 = none := rfl
def m_is_ask : MD := ⟨true, 2, 1,
 (.cons (.ret (.and (.isinst (.var 0) .tuple) (.and (.cmp .le (.bi .len false (.cons (.var 0) .nil)) (.glob "MOST_STEPS" (.int 5))) (.bi .all false (.cons c_is_ask_0 .nil)))))
 .nil)⟩
def m_look_ask : MD := ⟨true, 1, 1,
 (.cons (.ite (.nt (.call i_is_ask (.cons (.var 0) .nil))) (.cons (.raise 2)
 .nil) .nil)
 .nil)⟩
def m_kept_alone : MD := ⟨true, 3, 2,
 (.cons (.asg (.name 2) (.idx (.var 0) (.const (.int 0))))
 (.cons (.ite (.cmp .eq (.var 2) (.const (.str ['k', 'e', 'y']))) (.cons (.ret (.cmp .eq (.idx (.var 1) (.const (.int 1))) (.idx (.var 0) (.const (.int 1)))))
 .nil) .nil)
 (.cons (.ret (.ite (.cmp .eq (.var 2) (.const (.str ['o', 'v', 'e', 'r']))) (.cmp .gt (.idx (.var 1) (.const (.int 2))) (.idx (.var 0) (.const (.int 1)))) (.cmp .lt (.idx (.var 1) (.const (.int 2))) (.idx (.var 0) (.const (.int 1))))))
 .nil)))⟩
def m_reckoned : MD := ⟨true, 3, 2,
 (.cons (.asg (.name 2) (.ite (.cmp .eq (.idx (.var 0) (.const (.int 0))) (.const (.str ['p', 'l', 'u', 's']))) (.bin .add false (.idx (.var 1) (.const (.int 2))) (.idx (.var 0) (.const (.int 1)))) (.bin .mul false (.idx (.var 1) (.const (.int 2))) (.idx (.var 0) (.const (.int 1))))))
 (.cons (.ret (.tup (.cons (.idx (.var 1) (.const (.int 0))) (.cons (.idx (.var 1) (.const (.int 1))) (.cons (.var 2) .nil)))))
 .nil))⟩
def b_by_keys_0 : MSs := (.cons (.ite (.cmp .eq (.var 0) (.const (.str ['r', 'u', 'n', 'n', 'i', 'n', 'g']))) (.cons (.setItem (.var 3) (.var 5) (.bin .add false (.bm .get2 (.var 3) (.cons (.var 5) (.cons (.const (.int 0)) .nil))) (.var 6)))
 (.cons (.expr (.bm .append (.var 2) (.cons (.tup (.cons (.var 4) (.cons (.var 5) (.cons (.idx (.var 3) (.var 5)) .nil)))) .nil)))
 .nil)) (.cons (.ite (.cmp .eq (.var 0) (.const (.str ['c', 'h', 'a', 'n', 'g', 'e']))) (.cons (.ite (.cmp .isIn (.var 5) (.var 3)) (.cons (.expr (.bm .append (.var 2) (.cons (.tup (.cons (.var 4) (.cons (.var 5) (.cons (.bin .sub false (.var 6) (.idx (.var 3) (.var 5))) .nil)))) .nil)))
 .nil) .nil)
 (.cons (.setItem (.var 3) (.var 5) (.var 6))
 .nil)) (.cons (.ite (.or (.cmp .notIn (.var 5) (.var 3)) (.cmp .ne (.idx (.var 3) (.var 5)) (.var 6))) (.cons (.expr (.bm .append (.var 2) (.cons (.tup (.cons (.var 4) (.cons (.var 5) (.cons (.var 6) .nil)))) .nil)))
 .nil) .nil)
 (.cons (.setItem (.var 3) (.var 5) (.var 6))
 .nil)))
 .nil))
 .nil)
def m_by_keys : MD := ⟨true, 7, 2,
 (.cons (.asg (.name 2) (.lst true .nil))
 (.cons (.asg (.name 3) (.dict0 false))
 (.cons (.for_ (.tup [(.name 4), (.name 5), (.name 6)]) (.seq (.var 1)) b_by_keys_0)
 (.frz 3 (.frz 2 (.cons (.ret (.var 2))
 .nil))))))⟩
def b_windows_0 : MSs := (.cons (.asg (.name 6) (.tup (.cons (.bin .fdiv false (.var 3) (.var 0)) (.cons (.var 4) .nil))))
 (.cons (.setItem (.var 2) (.var 6) (.bin .add false (.bm .get2 (.var 2) (.cons (.var 6) (.cons (.const (.int 0)) .nil))) (.var 5)))
 .nil))
def c_windows_0 : ME := (.comp false (.tup [(.name 7), (.name 4)]) [7, 4] (.seq (.bi .sorted false (.cons (.bi .listOf false (.cons (.var 2) .nil)) .nil))) .none (.tup (.cons (.bin .sub false (.bin .add false (.bin .mul false (.var 7) (.var 0)) (.var 0)) (.const (.int 1))) (.cons (.var 4) (.cons (.idx (.var 2) (.tup (.cons (.var 7) (.cons (.var 4) .nil)))) .nil)))))
@[simp] theorem poc_windows_0 : popOf c_windows_0 = none := rfl
@[simp] theorem vac_windows_0 : varOf c_windows_0 = none := rfl
def m_windows : MD := ⟨true, 8, 2,
 (.cons (.asg (.name 2) (.dict0 true))
 (.cons (.for_ (.tup [(.name 3), (.name 4), (.name 5)]) (.seq (.var 1)) b_windows_0)
 (.frz 2 (.cons (.ret c_windows_0)
 .nil))))⟩
def c_stepped_0 : ME := (.comp false (.name 3) [3] (.seq (.var 1)) (some (.call i_kept_alone (.cons (.var 0) (.cons (.var 3) .nil)))) (.var 3))
@[simp] theorem poc_stepped_0 : popOf c_stepped_0 = none := rfl
@[simp] theorem vac_stepped_0 : varOf c_stepped_0 = none := rfl
def c_stepped_1 : ME := (.comp false (.name 3) [3] (.seq (.var 1)) .none (.call i_reckoned (.cons (.var 0) (.cons (.var 3) .nil))))
@[simp] theorem poc_stepped_1 : popOf c_stepped_1 = none := rfl
@[simp] theorem vac_stepped_1 : varOf c_stepped_1 = none := rfl
def c_stepped_2 : ME := (.comp false (.tup [(.name 4), (.name 3)]) [4, 3] (.enum (.var 1)) (some (.cmp .eq (.bin .mod false (.bin .add false (.var 4) (.const (.int 1))) (.idx (.var 0) (.const (.int 1)))) (.const (.int 0)))) (.var 3))
@[simp] theorem poc_stepped_2 : popOf c_stepped_2 = none := rfl
@[simp] theorem vac_stepped_2 : varOf c_stepped_2 = none := rfl
def m_stepped : MD := ⟨true, 5, 2,
 (.cons (.asg (.name 2) (.idx (.var 0) (.const (.int 0))))
 (.cons (.ite (.cmp .isIn (.var 2) (.tup (.cons (.const (.str ['k', 'e', 'y'])) (.cons (.const (.str ['o', 'v', 'e', 'r'])) (.cons (.const (.str ['u', 'n', 'd', 'e', 'r'])) .nil))))) (.cons (.ret c_stepped_0)
 .nil) .nil)
 (.cons (.ite (.cmp .isIn (.var 2) (.tup (.cons (.const (.str ['p', 'l', 'u', 's'])) (.cons (.const (.str ['t', 'i', 'm', 'e', 's'])) .nil)))) (.cons (.ret c_stepped_1)
 .nil) .nil)
 (.cons (.ite (.cmp .eq (.var 2) (.const (.str ['f', 'i', 'r', 's', 't']))) (.cons (.ret (.slice false (.var 1) .none (some (.idx (.var 0) (.const (.int 1))))))
 .nil) .nil)
 (.cons (.ite (.cmp .eq (.var 2) (.const (.str ['e', 'a', 'c', 'h']))) (.cons (.ret c_stepped_2)
 .nil) .nil)
 (.cons (.ite (.cmp .eq (.var 2) (.const (.str ['w', 'i', 'n', 'd', 'o', 'w']))) (.cons (.ret (.call i_windows (.cons (.idx (.var 0) (.const (.int 1))) (.cons (.var 1) .nil))))
 .nil) .nil)
 (.cons (.ret (.call i_by_keys (.cons (.var 2) (.cons (.var 1) .nil))))
 .nil)))))))⟩
def b_asked_0 : MSs := (.cons (.asg (.name 2) (.call i_stepped (.cons (.var 3) (.cons (.var 2) .nil))))
 .nil)
def m_asked : MD := ⟨true, 4, 2,
 (.cons (.expr (.call i_look_ask (.cons (.var 0) .nil)))
 (.cons (.expr (.call i_look_log (.cons (.var 1) .nil)))
 (.cons (.asg (.name 2) (.bi .listOf false (.cons (.var 1) .nil)))
 (.cons (.for_ (.name 3) (.seq (.var 0)) b_asked_0)
 (.cons (.ret (.var 2))
 .nil)))))⟩
def c_law_k12_0 : ME := (.comp false (.name 19) [19] (.seq (.var 2)) .none (.idx (.var 19) (.const (.int 2))))
@[simp] theorem poc_law_k12_0 : popOf c_law_k12_0 = none := rfl
@[simp] theorem vac_law_k12_0 : varOf c_law_k12_0 = none := rfl
def c_law_k12_1 : ME := (.comp false (.name 19) [19] (.seq (.var 1)) .none (.idx (.var 19) (.const (.int 2))))
@[simp] theorem poc_law_k12_1 : popOf c_law_k12_1 = none := rfl
@[simp] theorem vac_law_k12_1 : varOf c_law_k12_1 = none := rfl
def c_law_k12_2 : ME := (.comp false (.name 14) [14] (.seq (.slice false (.var 1) .none (some (.var 18)))) .none (.idx (.var 14) (.const (.int 1))))
@[simp] theorem poc_law_k12_2 : popOf c_law_k12_2 = none := rfl
@[simp] theorem vac_law_k12_2 : varOf c_law_k12_2 = none := rfl
def c_law_k12_3 : ME := (.comp false (.tup [(.name 18), (.name 19)]) [18, 19] (.enum (.var 1)) (some (.cmp .notIn (.idx (.var 19) (.const (.int 1))) c_law_k12_2)) (.var 19))
@[simp] theorem poc_law_k12_3 : popOf c_law_k12_3 = none := rfl
@[simp] theorem vac_law_k12_3 : varOf c_law_k12_3 = none := rfl
def c_law_k12_4 : ME := (.comp false (.tup [(.name 18), (.name 19)]) [18, 19] (.enum (.var 1)) (some (.cmp .isIn (.idx (.var 19) (.const (.int 1))) c_law_k12_2)) (.var 19))
@[simp] theorem poc_law_k12_4 : popOf c_law_k12_4 = none := rfl
@[simp] theorem vac_law_k12_4 : varOf c_law_k12_4 = none := rfl
def c_law_k12_5 : ME := (.comp false (.name 19) [19] (.seq (.var 3)) .none (.tup (.cons (.idx (.var 19) (.const (.int 1))) (.cons (.idx (.var 19) (.const (.int 2))) .nil))))
@[simp] theorem poc_law_k12_5 : popOf c_law_k12_5 = none := rfl
@[simp] theorem vac_law_k12_5 : varOf c_law_k12_5 = none := rfl
def c_law_k12_6 : ME := (.comp false (.name 19) [19] (.seq (.var 4)) .none (.tup (.cons (.idx (.var 19) (.const (.int 0))) (.cons (.idx (.var 19) (.const (.int 1))) (.cons (.bin .sub false (.idx (.var 19) (.const (.int 2))) (.idx (.var 5) (.idx (.var 19) (.const (.int 1))))) .nil)))))
@[simp] theorem poc_law_k12_6 : popOf c_law_k12_6 = none := rfl
@[simp] theorem vac_law_k12_6 : varOf c_law_k12_6 = none := rfl
def c_law_k12_7 : ME := (.comp false (.name 19) [19] (.seq (.var 6)) (some (.cmp .eq (.idx (.var 19) (.const (.int 1))) (.var 7))) (.idx (.var 19) (.const (.int 2))))
@[simp] theorem poc_law_k12_7 : popOf c_law_k12_7 = none := rfl
@[simp] theorem vac_law_k12_7 : varOf c_law_k12_7 = none := rfl
def c_law_k12_8 : ME := (.comp false (.name 18) [18] (.range2 (.const (.int 1)) (.bi .len false (.cons (.var 11) .nil))) (some (.cmp .eq (.idx (.var 11) (.var 18)) (.idx (.var 11) (.bin .sub false (.var 18) (.const (.int 1)))))) (.var 18))
@[simp] theorem poc_law_k12_8 : popOf c_law_k12_8 = none := rfl
@[simp] theorem vac_law_k12_8 : varOf c_law_k12_8 = none := rfl
def c_law_k12_9 : ME := (.comp false (.name 19) [19] (.seq (.var 1)) (some (.cmp .eq (.idx (.var 19) (.const (.int 1))) (.var 7))) (.idx (.var 19) (.const (.int 2))))
@[simp] theorem poc_law_k12_9 : popOf c_law_k12_9 = none := rfl
@[simp] theorem vac_law_k12_9 : varOf c_law_k12_9 = none := rfl
def c_law_k12_10 : ME := (.comp false (.tup [(.name 18), (.name 20)]) [18, 20] (.enum (.var 12)) (some (.or (.cmp .eq (.var 18) (.const (.int 0))) (.cmp .ne (.idx (.var 12) (.bin .sub false (.var 18) (.const (.int 1)))) (.var 20)))) (.var 20))
@[simp] theorem poc_law_k12_10 : popOf c_law_k12_10 = none := rfl
@[simp] theorem vac_law_k12_10 : varOf c_law_k12_10 = none := rfl
def b_law_k12_0 : MSs := (.cons (.asg (.name 11) c_law_k12_7)
 (.cons (.ite (.cmp .ne c_law_k12_8 (.lst false .nil)) (.cons (.ret (.const (.bool false)))
 .nil) .nil)
 (.cons (.asg (.name 12) c_law_k12_9)
 (.cons (.asg (.name 13) c_law_k12_10)
 (.cons (.ite (.cmp .ne (.var 11) (.var 13)) (.cons (.ret (.const (.bool false)))
 .nil) .nil)
 .nil)))))
def m_law_k12 : MD := ⟨true, 21, 1,
 (.cons (.asg (.name 1) (.call i__law_rows (.cons (.var 0) (.cons (.const (.int 100)) (.cons (.const (.int 12)) .nil)))))
 (.cons (.asgN [9, 10] (.cons (.bin .add false (.const (.int 1)) (.call i__law_pick (.cons (.var 0) (.cons (.const (.int 0)) (.cons (.const (.int 5)) .nil))))) (.cons (.bin .add false (.const (.int 1)) (.call i__law_pick (.cons (.var 0) (.cons (.const (.int 1)) (.cons (.const (.int 4)) .nil))))) .nil)))
 (.cons (.asg (.name 2) (.call i_asked (.cons (.tup (.cons (.tup (.cons (.const (.str ['w', 'i', 'n', 'd', 'o', 'w'])) (.cons (.var 9) .nil))) .nil)) (.cons (.var 1) .nil))))
 (.cons (.ite (.cmp .ne (.call i_asked (.cons (.tup (.cons (.tup (.cons (.const (.str ['w', 'i', 'n', 'd', 'o', 'w'])) (.cons (.var 9) .nil))) (.cons (.tup (.cons (.const (.str ['w', 'i', 'n', 'd', 'o', 'w'])) (.cons (.bin .mul false (.var 9) (.var 10)) .nil))) .nil))) (.cons (.var 1) .nil))) (.call i_asked (.cons (.tup (.cons (.tup (.cons (.const (.str ['w', 'i', 'n', 'd', 'o', 'w'])) (.cons (.bin .mul false (.var 9) (.var 10)) .nil))) .nil)) (.cons (.var 1) .nil)))) (.cons (.ret (.const (.bool false)))
 .nil) .nil)
 (.cons (.ite (.cmp .ne (.bi .sum false (.cons c_law_k12_0 .nil)) (.bi .sum false (.cons c_law_k12_1 .nil))) (.cons (.ret (.const (.bool false)))
 .nil) .nil)
 (.cons (.asg (.name 3) c_law_k12_3)
 (.cons (.asg (.name 4) c_law_k12_4)
 (.cons (.ite (.cmp .ne (.call i_asked (.cons (.tup (.cons (.tup (.cons (.const (.str ['r', 'u', 'n', 'n', 'i', 'n', 'g'])) .nil)) (.cons (.tup (.cons (.const (.str ['c', 'h', 'a', 'n', 'g', 'e'])) .nil)) .nil))) (.cons (.var 1) .nil))) (.var 4)) (.cons (.ret (.const (.bool false)))
 .nil) .nil)
 (.cons (.asg (.name 5) (.bi .dictOf false (.cons c_law_k12_5 .nil)))
 (.cons (.ite (.cmp .ne (.call i_asked (.cons (.tup (.cons (.tup (.cons (.const (.str ['c', 'h', 'a', 'n', 'g', 'e'])) .nil)) (.cons (.tup (.cons (.const (.str ['r', 'u', 'n', 'n', 'i', 'n', 'g'])) .nil)) .nil))) (.cons (.var 1) .nil))) c_law_k12_6) (.cons (.ret (.const (.bool false)))
 .nil) .nil)
 (.cons (.asg (.name 6) (.call i_asked (.cons (.tup (.cons (.tup (.cons (.const (.str ['u', 'n', 'l', 'i', 'k', 'e'])) .nil)) .nil)) (.cons (.var 1) .nil))))
 (.cons (.for_ (.name 7) (.seq (.var 5)) b_law_k12_0)
 (.cons (.asg (.tup [(.name 14), (.name 15)]) (.tup (.cons (.bin .add false (.const (.int 1)) (.call i__law_pick (.cons (.var 0) (.cons (.const (.int 2)) (.cons (.const (.int 4)) .nil))))) (.cons (.bin .add false (.const (.int 1)) (.call i__law_pick (.cons (.var 0) (.cons (.const (.int 3)) (.cons (.const (.int 4)) .nil))))) .nil))))
 (.cons (.ite (.cmp .ne (.call i_asked (.cons (.tup (.cons (.tup (.cons (.const (.str ['e', 'a', 'c', 'h'])) (.cons (.var 14) .nil))) (.cons (.tup (.cons (.const (.str ['e', 'a', 'c', 'h'])) (.cons (.var 15) .nil))) .nil))) (.cons (.var 1) .nil))) (.call i_asked (.cons (.tup (.cons (.tup (.cons (.const (.str ['e', 'a', 'c', 'h'])) (.cons (.bin .mul false (.var 14) (.var 15)) .nil))) .nil)) (.cons (.var 1) .nil)))) (.cons (.ret (.const (.bool false)))
 .nil) .nil)
 (.cons (.ite (.cmp .ne (.call i_asked (.cons (.tup (.cons (.tup (.cons (.const (.str ['f', 'i', 'r', 's', 't'])) (.cons (.var 14) .nil))) (.cons (.tup (.cons (.const (.str ['f', 'i', 'r', 's', 't'])) (.cons (.var 15) .nil))) .nil))) (.cons (.var 1) .nil))) (.slice false (.var 1) .none (some (.bi .min2 false (.cons (.var 14) (.cons (.var 15) .nil)))))) (.cons (.ret (.const (.bool false)))
 .nil) .nil)
 (.cons (.asg (.name 8) (.bin .sub false (.call i__law_pick (.cons (.var 0) (.cons (.const (.int 4)) (.cons (.const (.int 9)) .nil)))) (.const (.int 4))))
 (.cons (.asgN [16, 17] (.cons (.call i_asked (.cons (.tup (.cons (.tup (.cons (.const (.str ['o', 'v', 'e', 'r'])) (.cons (.var 8) .nil))) .nil)) (.cons (.var 1) .nil))) (.cons (.call i_asked (.cons (.tup (.cons (.tup (.cons (.const (.str ['u', 'n', 'd', 'e', 'r'])) (.cons (.bin .add false (.var 8) (.const (.int 1))) .nil))) .nil)) (.cons (.var 1) .nil))) .nil)))
 (.cons (.ret (.and (.cmp .eq (.bin .add false (.bi .len false (.cons (.var 16) .nil)) (.bi .len false (.cons (.var 17) .nil))) (.bi .len false (.cons (.var 1) .nil))) (.cmp .eq (.call i_asked (.cons (.tup (.cons (.tup (.cons (.const (.str ['p', 'l', 'u', 's'])) (.cons (.var 8) .nil))) (.cons (.tup (.cons (.const (.str ['p', 'l', 'u', 's'])) (.cons (.bin .sub false (.const (.int 0)) (.var 8)) .nil))) .nil))) (.cons (.var 1) .nil))) (.var 1))))
 .nil))))))))))))))))))⟩
def w_in_order_0 : ME := (.and (.cmp .gt (.var 3) (.const (.int 0))) (.cmp .gt (.idx (.idx (.var 1) (.bin .sub false (.var 3) (.const (.int 1)))) (.const (.int 0))) (.idx (.var 2) (.const (.int 0)))))
def b_in_order_0 : MSs := (.cons (.asg (.name 3) (.bin .sub false (.var 3) (.const (.int 1))))
 .nil)
def b_in_order_1 : MSs := (.cons (.asg (.name 3) (.bi .len false (.cons (.var 1) .nil)))
 (.cons (.whl 1000 w_in_order_0 b_in_order_0)
 (.cons (.expr (.bm .insert (.var 1) (.cons (.var 3) (.cons (.var 2) .nil))))
 .nil)))
def m_in_order : MD := ⟨true, 4, 1,
 (.cons (.asg (.name 1) (.lst true .nil))
 (.cons (.for_ (.name 2) (.seq (.var 0)) b_in_order_1)
 (.frz 1 (.cons (.ret (.var 1))
 .nil))))⟩
def b_merged_0 : MSs := (.cons (.expr (.call i_look_log (.cons (.var 2) .nil)))
 (.cons (.expr (.bm .extend (.var 1) (.cons (.var 2) .nil)))
 .nil))
def m_merged : MD := ⟨true, 3, 1,
 (.cons (.asg (.name 1) (.lst true .nil))
 (.cons (.for_ (.name 2) (.seq (.var 0)) b_merged_0)
 (.frz 1 (.cons (.ret (.call i_in_order (.cons (.var 1) .nil)))
 .nil))))⟩
def c_by_keys_parted_0 : ME := (.comp false (.name 2) [2] (.seq (.var 0)) .none (.idx (.var 2) (.const (.int 1))))
@[simp] theorem poc_by_keys_parted_0 : popOf c_by_keys_parted_0 = none := rfl
@[simp] theorem vac_by_keys_parted_0 : varOf c_by_keys_parted_0 = none := rfl
def c_by_keys_parted_1 : ME := (.comp false (.name 2) [2] (.seq (.var 0)) (some (.cmp .eq (.idx (.var 2) (.const (.int 1))) (.var 1))) (.var 2))
@[simp] theorem poc_by_keys_parted_1 : popOf c_by_keys_parted_1 = none := rfl
@[simp] theorem vac_by_keys_parted_1 : varOf c_by_keys_parted_1 = none := rfl
def c_by_keys_parted_2 : ME := (.comp false (.name 1) [1] (.seq (.bi .sortedSet false (.cons c_by_keys_parted_0 .nil))) .none (.tup (.cons (.var 1) (.cons c_by_keys_parted_1 .nil))))
@[simp] theorem poc_by_keys_parted_2 : popOf c_by_keys_parted_2 = none := rfl
@[simp] theorem vac_by_keys_parted_2 : varOf c_by_keys_parted_2 = none := rfl
def m_by_keys_parted : MD := ⟨true, 3, 1,
 (.cons (.expr (.call i_look_log (.cons (.var 0) .nil)))
 (.cons (.ret c_by_keys_parted_2)
 .nil))⟩
def c_from_to_0 : ME := (.comp false (.name 3) [3] (.seq (.var 0)) (some (.chain .le .lt (.var 1) (.idx (.var 3) (.const (.int 0))) (.var 2))) (.var 3))
@[simp] theorem poc_from_to_0 : popOf c_from_to_0 = none := rfl
@[simp] theorem vac_from_to_0 : varOf c_from_to_0 = none := rfl
def m_from_to : MD := ⟨true, 4, 3,
 (.cons (.expr (.call i_look_log (.cons (.var 0) .nil)))
 (.cons (.ite (.or (.nt (.call i_is_whole (.cons (.var 1) (.cons (.const (.int 0)) (.cons (.const (.int 999)) .nil))))) (.nt (.call i_is_whole (.cons (.var 2) (.cons (.const (.int 0)) (.cons (.const (.int 999)) .nil)))))) (.cons (.raise 7)
 .nil) .nil)
 (.cons (.ret c_from_to_0)
 .nil)))⟩
def c_keys_changed_0 : ME := (.comp false (.tup [(.name 3), (.name 4), (.name 5)]) [3, 4, 5] (.seq (.var 0)) .none (.tup (.cons (.var 3) (.cons (.ite (.cmp .eq (.var 4) (.var 1)) (.var 2) (.var 4)) (.cons (.var 5) .nil)))))
@[simp] theorem poc_keys_changed_0 : popOf c_keys_changed_0 = none := rfl
@[simp] theorem vac_keys_changed_0 : varOf c_keys_changed_0 = none := rfl
def m_keys_changed : MD := ⟨true, 6, 3,
 (.cons (.expr (.call i_look_log (.cons (.var 0) .nil)))
 (.cons (.ite (.or (.nt (.call i_is_key (.cons (.var 1) .nil))) (.nt (.call i_is_key (.cons (.var 2) .nil)))) (.cons (.raise 1)
 .nil) .nil)
 (.cons (.ret c_keys_changed_0)
 .nil)))⟩
def c_law_k13_0 : ME := (.comp false (.name 15) [15] (.range1 (.call i__law_pick (.cons (.var 0) (.cons (.const (.int 900)) (.cons (.const (.int 4)) .nil))))) .none (.call i__law_rows (.cons (.var 0) (.cons (.bin .mul false (.const (.int 200)) (.var 15)) (.cons (.const (.int 4)) .nil)))))
@[simp] theorem poc_law_k13_0 : popOf c_law_k13_0 = none := rfl
@[simp] theorem vac_law_k13_0 : varOf c_law_k13_0 = none := rfl
def c_law_k13_1 : ME := (.comp false (.name 16) [16] (.seq (.var 3)) (some (.cmp .eq (.idx (.var 16) (.const (.int 0))) (.var 2))) (.var 16))
@[simp] theorem poc_law_k13_1 : popOf c_law_k13_1 = none := rfl
@[simp] theorem vac_law_k13_1 : varOf c_law_k13_1 = none := rfl
def b_law_k13_0 : MSs := (.cons (.expr (.bm .extend (.var 8) (.cons c_law_k13_1 .nil)))
 .nil)
def b_law_k13_1 : MSs := (.cons (.for_ (.name 3) (.seq (.var 1)) b_law_k13_0)
 .nil)
def c_law_k13_2 : ME := (.comp false (.tup [(.name 9), (.name 10)]) [9, 10] (.seq (.var 4)) .none (.var 9))
@[simp] theorem poc_law_k13_2 : popOf c_law_k13_2 = none := rfl
@[simp] theorem vac_law_k13_2 : varOf c_law_k13_2 = none := rfl
def c_law_k13_3 : ME := (.comp false (.name 16) [16] (.seq (.var 3)) .none (.idx (.var 16) (.const (.int 1))))
@[simp] theorem poc_law_k13_3 : popOf c_law_k13_3 = none := rfl
@[simp] theorem vac_law_k13_3 : varOf c_law_k13_3 = none := rfl
def c_law_k13_4 : ME := (.comp false (.name 16) [16] (.seq (.var 3)) (some (.cmp .eq (.idx (.var 16) (.const (.int 1))) (.var 9))) (.var 16))
@[simp] theorem poc_law_k13_4 : popOf c_law_k13_4 = none := rfl
@[simp] theorem vac_law_k13_4 : varOf c_law_k13_4 = none := rfl
def b_law_k13_2 : MSs := (.cons (.ite (.cmp .ne (.var 10) c_law_k13_4) (.cons (.ret (.const (.bool false)))
 .nil) .nil)
 .nil)
def c_law_k13_5 : ME := (.comp false (.tup [(.name 9), (.name 10)]) [9, 10] (.seq (.var 4)) .none (.var 10))
@[simp] theorem poc_law_k13_5 : popOf c_law_k13_5 = none := rfl
@[simp] theorem vac_law_k13_5 : varOf c_law_k13_5 = none := rfl
def c_law_k13_6 : ME := (.comp false (.name 16) [16] (.seq (.var 3)) (some (.and (.cmp .le (.var 11) (.idx (.var 16) (.const (.int 0)))) (.cmp .lt (.idx (.var 16) (.const (.int 0))) (.var 12)))) (.var 16))
@[simp] theorem poc_law_k13_6 : popOf c_law_k13_6 = none := rfl
@[simp] theorem vac_law_k13_6 : varOf c_law_k13_6 = none := rfl
def c_law_k13_7 : ME := (.comp false (.name 16) [16] (.seq (.var 3)) .none (.tup (.cons (.idx (.var 16) (.const (.int 0))) (.cons (.ite (.cmp .eq (.idx (.var 16) (.const (.int 1))) (.var 13)) (.var 14) (.idx (.var 16) (.const (.int 1)))) (.cons (.idx (.var 16) (.const (.int 2))) .nil)))))
@[simp] theorem poc_law_k13_7 : popOf c_law_k13_7 = none := rfl
@[simp] theorem vac_law_k13_7 : varOf c_law_k13_7 = none := rfl
def m_law_k13 : MD := ⟨true, 17, 1,
 (.cons (.asg (.name 1) c_law_k13_0)
 (.cons (.asgN [7, 8] (.cons (.call i_merged (.cons (.var 1) .nil)) (.cons (.lst true .nil) .nil)))
 (.cons (.for_ (.name 2) (.range1 (.const (.int 100))) b_law_k13_1)
 (.frz 8 (.cons (.ite (.or (.cmp .ne (.var 7) (.var 8)) (.or (.cmp .ne (.call i_merged (.cons (.bi .tupleOf false (.cons (.var 1) .nil)) .nil)) (.var 8)) (.cmp .isNot (.call i_is_log (.cons (.var 7) .nil)) (.const (.bool true))))) (.cons (.ret (.const (.bool false)))
 .nil) .nil)
 (.cons (.asg (.name 3) (.call i__law_rows (.cons (.var 0) (.cons (.const (.int 1200)) (.cons (.const (.int 12)) .nil)))))
 (.cons (.asg (.name 4) (.call i_by_keys_parted (.cons (.var 3) .nil)))
 (.cons (.ite (.cmp .ne c_law_k13_2 (.bi .sortedSet false (.cons c_law_k13_3 .nil))) (.cons (.ret (.const (.bool false)))
 .nil) .nil)
 (.cons (.for_ (.tup [(.name 9), (.name 10)]) (.seq (.var 4)) b_law_k13_2)
 (.cons (.ite (.cmp .ne (.bi .sorted false (.cons (.call i_merged (.cons c_law_k13_5 .nil)) .nil)) (.bi .sorted false (.cons (.var 3) .nil))) (.cons (.ret (.const (.bool false)))
 .nil) .nil)
 (.cons (.asg (.tup [(.name 11), (.name 12)]) (.bi .sorted false (.cons (.lst false (.cons (.call i__law_pick (.cons (.var 0) (.cons (.const (.int 901)) (.cons (.const (.int 60)) .nil)))) (.cons (.call i__law_pick (.cons (.var 0) (.cons (.const (.int 902)) (.cons (.const (.int 120)) .nil)))) .nil))) .nil)))
 (.cons (.asg (.name 5) (.lst false (.cons (.call i_from_to (.cons (.var 3) (.cons (.const (.int 0)) (.cons (.var 11) .nil)))) (.cons (.call i_from_to (.cons (.var 3) (.cons (.var 11) (.cons (.var 12) .nil)))) (.cons (.call i_from_to (.cons (.var 3) (.cons (.var 12) (.cons (.const (.int 999)) .nil)))) .nil)))))
 (.cons (.ite (.or (.cmp .ne (.bin .add false (.bin .add false (.idx (.var 5) (.const (.int 0))) (.idx (.var 5) (.const (.int 1)))) (.idx (.var 5) (.const (.int 2)))) (.var 3)) (.cmp .ne (.call i_from_to (.cons (.var 3) (.cons (.var 12) (.cons (.var 11) .nil)))) (.lst false .nil))) (.cons (.ret (.const (.bool false)))
 .nil) .nil)
 (.cons (.ite (.cmp .ne (.idx (.var 5) (.const (.int 1))) c_law_k13_6) (.cons (.ret (.const (.bool false)))
 .nil) .nil)
 (.cons (.ite (.cmp .ne (.call i_merged (.cons (.var 5) .nil)) (.var 3)) (.cons (.ret (.const (.bool false)))
 .nil) .nil)
 (.cons (.asg (.tup [(.name 13), (.name 14)]) (.tup (.cons (.call i__law_key (.cons (.var 0) (.cons (.const (.int 903)) .nil))) (.cons (.call i__law_key (.cons (.var 0) (.cons (.const (.int 910)) .nil))) .nil))))
 (.cons (.asg (.name 6) (.call i_keys_changed (.cons (.var 3) (.cons (.var 13) (.cons (.var 14) .nil)))))
 (.cons (.ite (.cmp .ne (.var 6) c_law_k13_7) (.cons (.ret (.const (.bool false)))
 .nil) .nil)
 (.cons (.ite (.cmp .ne (.call i_keys_changed (.cons (.var 3) (.cons (.var 13) (.cons (.var 13) .nil)))) (.var 3)) (.cons (.ret (.const (.bool false)))
 .nil) .nil)
 (.cons (.ret (.or (.cmp .isIn (.var 14) c_law_k13_3) (.cmp .eq (.call i_keys_changed (.cons (.var 6) (.cons (.var 14) (.cons (.var 13) .nil)))) (.var 3))))
 .nil))))))))))))))))))))⟩
def b_look_two_0 : MSs := (.cons (.expr (.call i_look_row (.cons (.var 2) .nil)))
 .nil)
def m_look_two : MD := ⟨true, 3, 2,
 (.cons (.for_ (.name 2) (.seq (.bin .add false (.bi .listOf false (.cons (.var 0) .nil)) (.bi .listOf false (.cons (.var 1) .nil)))) b_look_two_0)
 (.cons (.expr (.call i_look_log (.cons (.var 0) .nil)))
 (.cons (.expr (.call i_look_log (.cons (.var 1) .nil)))
 .nil)))⟩
def c_weighed_0 : ME := (.comp false (.name 6) [6] (.seq (.var 0)) .none (.idx (.var 6) (.const (.int 1))))
@[simp] theorem poc_weighed_0 : popOf c_weighed_0 = none := rfl
@[simp] theorem vac_weighed_0 : varOf c_weighed_0 = none := rfl
def c_weighed_1 : ME := (.comp false (.tup [(.name 7), (.name 8)]) [7, 8] (.seq (.slice false (.var 4) (some (.const (.int 1))) .none)) .none (.var 7))
@[simp] theorem poc_weighed_1 : popOf c_weighed_1 = none := rfl
@[simp] theorem vac_weighed_1 : varOf c_weighed_1 = none := rfl
def c_weighed_2 : ME := (.comp false (.tup [(.tup [(.name 7), (.name 8)]), (.name 9)]) [7, 8, 9] (.zip (.var 4) (.var 5)) .none (.bin .mul false (.var 8) (.bin .sub false (.var 9) (.var 7))))
@[simp] theorem poc_weighed_2 : popOf c_weighed_2 = none := rfl
@[simp] theorem vac_weighed_2 : varOf c_weighed_2 = none := rfl
def b_weighed_0 : MSs := (.cons (.asg (.name 4) (.call i_history (.cons (.var 0) (.cons (.var 3) .nil))))
 (.cons (.asg (.name 5) (.bin .add false c_weighed_1 (.lst false (.cons (.var 1) .nil))))
 (.cons (.expr (.bm .append (.var 2) (.cons (.tup (.cons (.var 3) (.cons (.bi .sum false (.cons c_weighed_2 .nil)) .nil))) .nil)))
 .nil)))
def m_weighed : MD := ⟨true, 10, 2,
 (.cons (.expr (.call i_look_log (.cons (.var 0) .nil)))
 (.cons (.expr (.call i_look_moment (.cons (.var 1) .nil)))
 (.cons (.ite (.and (.cmp .ne (.var 0) (.lst false .nil)) (.cmp .gt (.idx (.idx (.var 0) (.neg (.const (.int 1)))) (.const (.int 0))) (.var 1))) (.cons (.raise 7)
 .nil) .nil)
 (.cons (.asg (.name 2) (.lst true .nil))
 (.cons (.for_ (.name 3) (.seq (.bi .sortedSet false (.cons c_weighed_0 .nil))) b_weighed_0)
 (.frz 2 (.cons (.ret (.var 2))
 .nil)))))))⟩
def b_beside_0 : MSs := (.cons (.expr (.bm .append (.var 2) (.cons (.tup (.cons (.var 3) (.cons (.var 4) (.cons (.var 5) (.cons (.bm .get (.bi .dictOf false (.cons (.call i_at_moment (.cons (.var 1) (.cons (.var 3) .nil))) .nil)) (.cons (.var 4) .nil)) .nil))))) .nil)))
 .nil)
def m_beside : MD := ⟨true, 6, 2,
 (.cons (.expr (.call i_look_two (.cons (.var 0) (.cons (.var 1) .nil))))
 (.cons (.asg (.name 2) (.lst true .nil))
 (.cons (.for_ (.tup [(.name 3), (.name 4), (.name 5)]) (.seq (.var 0)) b_beside_0)
 (.frz 2 (.cons (.ret (.var 2))
 .nil)))))⟩
def c_unlike_at_0 : ME := (.comp false (.name 5) [5] (.seq (.bi .sortedSet false (.cons (.bin .add false (.bi .listOf false (.cons (.var 3) .nil)) (.bi .listOf false (.cons (.var 4) .nil))) .nil))) (some (.cmp .ne (.bm .get (.var 3) (.cons (.var 5) .nil)) (.bm .get (.var 4) (.cons (.var 5) .nil)))) (.var 5))
@[simp] theorem poc_unlike_at_0 : popOf c_unlike_at_0 = none := rfl
@[simp] theorem vac_unlike_at_0 : varOf c_unlike_at_0 = none := rfl
def m_unlike_at : MD := ⟨true, 6, 3,
 (.cons (.expr (.call i_look_two (.cons (.var 0) (.cons (.var 1) .nil))))
 (.cons (.asg (.tup [(.name 3), (.name 4)]) (.tup (.cons (.bi .dictOf false (.cons (.call i_at_moment (.cons (.var 0) (.cons (.var 2) .nil))) .nil)) (.cons (.bi .dictOf false (.cons (.call i_at_moment (.cons (.var 1) (.cons (.var 2) .nil))) .nil)) .nil))))
 (.cons (.ret c_unlike_at_0)
 .nil)))⟩
def c_law_k84_0 : ME := (.comp false (.name 15) [15] (.seq (.var 6)) .none (.tup (.cons (.idx (.var 15) (.const (.int 1))) (.cons (.const (.int 0)) .nil))))
@[simp] theorem poc_law_k84_0 : popOf c_law_k84_0 = none := rfl
@[simp] theorem vac_law_k84_0 : varOf c_law_k84_0 = none := rfl
def b_law_k84_0 : MSs := (.cons (.setItem (.var 2) (.var 8) (.bin .add false (.idx (.var 2) (.var 8)) (.var 9)))
 .nil)
def b_law_k84_1 : MSs := (.cons (.for_ (.tup [(.name 8), (.name 9)]) (.seq (.call i_at_moment (.cons (.var 6) (.cons (.var 3) .nil)))) b_law_k84_0)
 .nil)
def c_law_k84_1 : ME := (.comp false (.name 13) [13] (.seq (.var 4)) .none (.slice false (.var 13) .none (some (.const (.int 3)))))
@[simp] theorem poc_law_k84_1 : popOf c_law_k84_1 = none := rfl
@[simp] theorem vac_law_k84_1 : varOf c_law_k84_1 = none := rfl
def c_law_k84_2 : ME := (.comp false (.name 15) [15] (.seq (.var 7)) (some (.and (.cmp .eq (.idx (.var 15) (.const (.int 1))) (.var 8)) (.cmp .le (.idx (.var 15) (.const (.int 0))) (.var 3)))) (.idx (.var 15) (.const (.int 2))))
@[simp] theorem poc_law_k84_2 : popOf c_law_k84_2 = none := rfl
@[simp] theorem vac_law_k84_2 : varOf c_law_k84_2 = none := rfl
def b_law_k84_2 : MSs := (.cons (.asg (.name 11) c_law_k84_2)
 (.cons (.ite (.cmp .ne (.var 10) (.ite (.cmp .ne (.var 11) (.lst false .nil)) (.idx (.var 11) (.neg (.const (.int 1)))) (.const .none))) (.cons (.ret (.const (.bool false)))
 .nil) .nil)
 .nil))
def c_law_k84_3 : ME := (.comp false (.name 8) [8] (.seq (.bi .sortedSet false (.cons (.bin .add false (.bi .listOf false (.cons (.var 13) .nil)) (.bi .listOf false (.cons (.var 14) .nil))) .nil))) (some (.cmp .ne (.bm .get (.var 13) (.cons (.var 8) .nil)) (.bm .get (.var 14) (.cons (.var 8) .nil)))) (.var 8))
@[simp] theorem poc_law_k84_3 : popOf c_law_k84_3 = none := rfl
@[simp] theorem vac_law_k84_3 : varOf c_law_k84_3 = none := rfl
def b_law_k84_3 : MSs := (.cons (.asg (.name 3) (.call i__law_pick (.cons (.var 0) (.cons (.bin .add false (.const (.int 1)) (.var 5)) (.cons (.const (.int 105)) .nil)))))
 (.cons (.asg (.tup [(.name 13), (.name 14)]) (.tup (.cons (.bi .dictOf false (.cons (.call i_at_moment (.cons (.var 6) (.cons (.var 3) .nil))) .nil)) (.cons (.bi .dictOf false (.cons (.call i_at_moment (.cons (.var 7) (.cons (.var 3) .nil))) .nil)) .nil))))
 (.cons (.asg (.name 12) c_law_k84_3)
 (.cons (.ite (.or (.cmp .ne (.call i_unlike_at (.cons (.var 6) (.cons (.var 7) (.cons (.var 3) .nil)))) (.var 12)) (.cmp .ne (.call i_unlike_at (.cons (.var 7) (.cons (.var 6) (.cons (.var 3) .nil)))) (.var 12))) (.cons (.ret (.const (.bool false)))
 .nil) .nil)
 .nil))))
def c_law_k84_4 : ME := (.comp false (.name 15) [15] (.seq (.var 6)) .none (.bin .add false (.var 15) (.tup (.cons (.const .none) .nil))))
@[simp] theorem poc_law_k84_4 : popOf c_law_k84_4 = none := rfl
@[simp] theorem vac_law_k84_4 : varOf c_law_k84_4 = none := rfl
def m_law_k84 : MD := ⟨true, 16, 1,
 (.cons (.asgN [6, 7] (.cons (.call i__law_rows (.cons (.var 0) (.cons (.const (.int 100)) (.cons (.const (.int 12)) .nil)))) (.cons (.call i__law_rows (.cons (.var 0) (.cons (.const (.int 500)) (.cons (.const (.int 12)) .nil)))) .nil)))
 (.cons (.asg (.name 1) (.bin .add false (.ite (.cmp .ne (.var 6) (.lst false .nil)) (.idx (.idx (.var 6) (.neg (.const (.int 1)))) (.const (.int 0))) (.const (.int 0))) (.call i__law_pick (.cons (.var 0) (.cons (.const (.int 0)) (.cons (.const (.int 20)) .nil))))))
 (.cons (.asg (.name 2) (.bi .dictOf true (.cons c_law_k84_0 .nil)))
 (.cons (.for_ (.name 3) (.range1 (.var 1)) b_law_k84_1)
 (.frz 2 (.cons (.ite (.cmp .ne (.call i_weighed (.cons (.var 6) (.cons (.var 1) .nil))) (.bi .sortedItems false (.cons (.var 2) .nil))) (.cons (.ret (.const (.bool false)))
 .nil) .nil)
 (.cons (.asg (.name 4) (.call i_beside (.cons (.var 6) (.cons (.var 7) .nil))))
 (.cons (.ite (.cmp .ne c_law_k84_1 (.var 6)) (.cons (.ret (.const (.bool false)))
 .nil) .nil)
 (.cons (.for_ (.tup [(.name 3), (.name 8), (.name 9), (.name 10)]) (.seq (.var 4)) b_law_k84_2)
 (.cons (.for_ (.name 5) (.range1 (.const (.int 4))) b_law_k84_3)
 (.cons (.ret (.and (.cmp .eq (.call i_unlike_at (.cons (.var 6) (.cons (.var 6) (.cons (.const (.int 99)) .nil)))) (.lst false .nil)) (.cmp .eq (.call i_beside (.cons (.var 6) (.cons (.lst false .nil) .nil))) c_law_k84_4)))
 .nil)))))))))))⟩
def mdOf : Nat → MD
  | 0 => m_is_whole
  | 1 => m_is_key
  | 2 => m_is_row
  | 11 => m_look_row
  | 3 => m_is_log
  | 12 => m_look_log
  | 42 => m_look_moment
  | 43 => m_at_moment
  | 44 => m_history
  | 5 => m__law_cell
  | 6 => m__law_pick
  | 7 => m__law_key
  | 8 => m__law_number
  | 9 => m__law_rows
  | 45 => m_law_k83
  | 13 => m_is_step
  | 14 => m_is_ask
  | 15 => m_look_ask
  | 16 => m_kept_alone
  | 17 => m_reckoned
  | 18 => m_by_keys
  | 19 => m_windows
  | 20 => m_stepped
  | 21 => m_asked
  | 22 => m_law_k12
  | 4 => m_in_order
  | 23 => m_merged
  | 24 => m_by_keys_parted
  | 25 => m_from_to
  | 26 => m_keys_changed
  | 27 => m_law_k13
  | 46 => m_look_two
  | 47 => m_weighed
  | 48 => m_beside
  | 49 => m_unlike_at
  | 50 => m_law_k84
  | _ => ⟨true, 0, 0, .nil⟩
def subX (c d : Nat) : Bool := c == d || d == 0
abbrev fv (n i : Nat) : List SV → O SV := fnV mdOf subX n i
abbrev gv (n : Nat) : GamV := gamV mdOf subX n
theorem fv_is_whole (n : Nat) (xs : List SV) : fv (n + 1) i_is_whole xs = runFnV (gv n) m_is_whole xs := rfl
theorem fv_is_key (n : Nat) (xs : List SV) : fv (n + 1) i_is_key xs = runFnV (gv n) m_is_key xs := rfl
theorem fv_is_row (n : Nat) (xs : List SV) : fv (n + 1) i_is_row xs = runFnV (gv n) m_is_row xs := rfl
theorem fv_look_row (n : Nat) (xs : List SV) : fv (n + 1) i_look_row xs = runFnV (gv n) m_look_row xs := rfl
theorem fv_is_log (n : Nat) (xs : List SV) : fv (n + 1) i_is_log xs = runFnV (gv n) m_is_log xs := rfl
theorem fv_look_log (n : Nat) (xs : List SV) : fv (n + 1) i_look_log xs = runFnV (gv n) m_look_log xs := rfl
theorem fv_look_moment (n : Nat) (xs : List SV) : fv (n + 1) i_look_moment xs = runFnV (gv n) m_look_moment xs := rfl
theorem fv_at_moment (n : Nat) (xs : List SV) : fv (n + 1) i_at_moment xs = runFnV (gv n) m_at_moment xs := rfl
theorem fv_history (n : Nat) (xs : List SV) : fv (n + 1) i_history xs = runFnV (gv n) m_history xs := rfl
theorem fv__law_cell (n : Nat) (xs : List SV) : fv (n + 1) i__law_cell xs = runFnV (gv n) m__law_cell xs := rfl
theorem fv__law_pick (n : Nat) (xs : List SV) : fv (n + 1) i__law_pick xs = runFnV (gv n) m__law_pick xs := rfl
theorem fv__law_key (n : Nat) (xs : List SV) : fv (n + 1) i__law_key xs = runFnV (gv n) m__law_key xs := rfl
theorem fv__law_number (n : Nat) (xs : List SV) : fv (n + 1) i__law_number xs = runFnV (gv n) m__law_number xs := rfl
theorem fv__law_rows (n : Nat) (xs : List SV) : fv (n + 1) i__law_rows xs = runFnV (gv n) m__law_rows xs := rfl
theorem fv_law_k83 (n : Nat) (xs : List SV) : fv (n + 1) i_law_k83 xs = runFnV (gv n) m_law_k83 xs := rfl
theorem fv_is_step (n : Nat) (xs : List SV) : fv (n + 1) i_is_step xs = runFnV (gv n) m_is_step xs := rfl
theorem fv_is_ask (n : Nat) (xs : List SV) : fv (n + 1) i_is_ask xs = runFnV (gv n) m_is_ask xs := rfl
theorem fv_look_ask (n : Nat) (xs : List SV) : fv (n + 1) i_look_ask xs = runFnV (gv n) m_look_ask xs := rfl
theorem fv_kept_alone (n : Nat) (xs : List SV) : fv (n + 1) i_kept_alone xs = runFnV (gv n) m_kept_alone xs := rfl
theorem fv_reckoned (n : Nat) (xs : List SV) : fv (n + 1) i_reckoned xs = runFnV (gv n) m_reckoned xs := rfl
theorem fv_by_keys (n : Nat) (xs : List SV) : fv (n + 1) i_by_keys xs = runFnV (gv n) m_by_keys xs := rfl
theorem fv_windows (n : Nat) (xs : List SV) : fv (n + 1) i_windows xs = runFnV (gv n) m_windows xs := rfl
theorem fv_stepped (n : Nat) (xs : List SV) : fv (n + 1) i_stepped xs = runFnV (gv n) m_stepped xs := rfl
theorem fv_asked (n : Nat) (xs : List SV) : fv (n + 1) i_asked xs = runFnV (gv n) m_asked xs := rfl
theorem fv_law_k12 (n : Nat) (xs : List SV) : fv (n + 1) i_law_k12 xs = runFnV (gv n) m_law_k12 xs := rfl
theorem fv_in_order (n : Nat) (xs : List SV) : fv (n + 1) i_in_order xs = runFnV (gv n) m_in_order xs := rfl
theorem fv_merged (n : Nat) (xs : List SV) : fv (n + 1) i_merged xs = runFnV (gv n) m_merged xs := rfl
theorem fv_by_keys_parted (n : Nat) (xs : List SV) : fv (n + 1) i_by_keys_parted xs = runFnV (gv n) m_by_keys_parted xs := rfl
theorem fv_from_to (n : Nat) (xs : List SV) : fv (n + 1) i_from_to xs = runFnV (gv n) m_from_to xs := rfl
theorem fv_keys_changed (n : Nat) (xs : List SV) : fv (n + 1) i_keys_changed xs = runFnV (gv n) m_keys_changed xs := rfl
theorem fv_law_k13 (n : Nat) (xs : List SV) : fv (n + 1) i_law_k13 xs = runFnV (gv n) m_law_k13 xs := rfl
theorem fv_look_two (n : Nat) (xs : List SV) : fv (n + 1) i_look_two xs = runFnV (gv n) m_look_two xs := rfl
theorem fv_weighed (n : Nat) (xs : List SV) : fv (n + 1) i_weighed xs = runFnV (gv n) m_weighed xs := rfl
theorem fv_beside (n : Nat) (xs : List SV) : fv (n + 1) i_beside xs = runFnV (gv n) m_beside xs := rfl
theorem fv_unlike_at (n : Nat) (xs : List SV) : fv (n + 1) i_unlike_at xs = runFnV (gv n) m_unlike_at xs := rfl
theorem fv_law_k84 (n : Nat) (xs : List SV) : fv (n + 1) i_law_k84 xs = runFnV (gv n) m_law_k84 xs := rfl
end Z

set_option maxHeartbeats 200000
set_option maxRecDepth 512
set_option maxRecDepth 100000
/-! Steps for what the small language's texts come to, by values. -/
namespace Z

@[simp] theorem as_name {i : Nat} {v : PV} {ρ : VEnv} : assignV (.name i) v ρ = some (ρ.set i (some ⟨.tree, v⟩)) := by simp only [assignV]
@[simp] theorem as_tup {l : List Tg} {xs : List PV} {ρ : VEnv} : assignV (.tup l) (.tup xs) ρ = assignV.go l xs ρ := by simp only [assignV]
@[simp] theorem as_lst {l : List Tg} {xs : List PV} {ρ : VEnv} : assignV (.tup l) (.lst xs) ρ = assignV.go l xs ρ := by simp only [assignV]
@[simp] theorem as_nil {ρ : VEnv} : assignV.go [] [] ρ = some ρ := by simp only [assignV.go]
@[simp] theorem as_cons {t : Tg} {l : List Tg} {x : PV} {xs : List PV} {ρ : VEnv} : assignV.go (t :: l) (x :: xs) ρ = (assignV t x ρ).bind fun ρ' => assignV.go l xs ρ' := by simp only [assignV.go]
theorem boxLtL_map {α : Type} {n : Nat} (e : α → PV) (h : ∀ a, boxLt n (e a) = true) : ∀ xs : List α, boxLtL n (xs.map e) = true
  | [] => rfl
  | x :: xs => by simp [boxLtL, h, boxLtL_map e h xs]
theorem boxLtL_all {n : Nat} : ∀ {xs : List PV}, boxLtL n xs = true ↔ ∀ x ∈ xs, boxLt n x = true
  | [] => by simp [boxLtL]
  | x :: xs => by simp [boxLtL, boxLtL_all (xs := xs)]
theorem plainL_map {α : Type} {n : Nat} (e : α → PV) (h : ∀ a, plain n (e a) = true) : ∀ xs : List α, plainL n (xs.map e) = true
  | [] => rfl
  | x :: xs => by simp [plainL, h, plainL_map e h xs]
theorem plainL_all {n : Nat} : ∀ {xs : List PV}, plainL n xs = true ↔ ∀ x ∈ xs, plain n x = true
  | [] => by simp [plainL]
  | x :: xs => by simp [plainL, plainL_all (xs := xs)]

mutual
theorem eqv_rfl : ∀ (n : Nat) (x : PV), plain n x = true → eqv x x = true
  | _, .none, _ => by simp only [eqv]
  | _, .bool b, _ => by simp only [eqv, beq_self_eq_true]
  | _, .int b, _ => by simp only [eqv, beq_self_eq_true]
  | _, .str b, _ => by simp only [eqv, beq_self_eq_true]
  | n + 1, .tup xs, h => by simp only [plain] at h; simp only [eqv]; exact eqvL_rfl n xs h
  | n + 1, .lst xs, h => by simp only [plain] at h; simp only [eqv]; exact eqvL_rfl n xs h
theorem eqvL_rfl : ∀ (n : Nat) (xs : List PV), plainL n xs = true → eqvL xs xs = true
  | _, [], _ => by simp only [eqvL]
  | n, x :: xs, h => by simp only [plainL, Bool.and_eq_true] at h; simp only [eqvL, eqv_rfl n x h.1, eqvL_rfl n xs h.2, Bool.and_self]
end
/-- no truth value in it: equal is the same -/
def clean : PV → Bool
  | .none | .int _ | .str _ => true
  | .tup xs | .lst xs => cleanL xs
  | _ => false
where cleanL : List PV → Bool
  | [] => true
  | x :: xs => clean x && cleanL xs
theorem clean_all : ∀ {xs : List PV}, clean.cleanL xs = true ↔ ∀ x ∈ xs, clean x = true
  | [] => by simp [clean.cleanL]
  | x :: xs => by simp [clean.cleanL, clean_all (xs := xs)]
mutual
theorem eqv_clean : ∀ (x y : PV), clean x = true → clean y = true → eqv x y = true → x = y
  | .none, y, _, hy, h => by cases y <;> simp_all [eqv]
  | .int i, y, _, hy, h => by cases y <;> simp_all [eqv, clean]
  | .str i, y, _, hy, h => by cases y <;> simp_all [eqv, clean]
  | .tup xs, y, hx, hy, h => by
    cases y with
    | tup ys =>
      simp only [eqv] at h
      rw [clean] at hx hy
      rw [eqvL_clean xs ys hx hy h]
    | _ => simp [eqv] at h
  | .lst xs, y, hx, hy, h => by
    cases y with
    | lst ys =>
      simp only [eqv] at h
      rw [clean] at hx hy
      rw [eqvL_clean xs ys hx hy h]
    | _ => simp [eqv] at h
theorem eqvL_clean : ∀ (xs ys : List PV), clean.cleanL xs = true → clean.cleanL ys = true → eqvL xs ys = true → xs = ys
  | [], ys, _, _, h => by cases ys <;> simp_all [eqvL]
  | x :: xs, ys, hx, hy, h => by
    cases ys with
    | nil => simp [eqvL] at h
    | cons y ys =>
      simp only [eqvL, Bool.and_eq_true] at h
      simp only [clean.cleanL, Bool.and_eq_true] at hx hy
      rw [eqv_clean x y hx.1 hy.1 h.1, eqvL_clean xs ys hx.2 hy.2 h.2]
end
/-- equal, or not, as values are -/
theorem l_eqc {a b : PV} (ha : plain 60 a = true) (hb : plain 60 b = true) (ca : clean a = true) (cb : clean b = true) (p : Prop) [Decidable p] (h : a = b ↔ p) : cmpV .eq a b [] = some (decide p) := by
  have ra : res [] a = a := by cases a <;> simp_all [plain, res]
  have rb : res [] b = b := by cases b <;> simp_all [plain, res]
  simp only [cmpV, ra, rb, ha, hb, Bool.and_self, if_true]
  congr 1
  by_cases e : a = b
  · subst e
    rw [eqv_rfl 60 a ha]
    simp [h.mp rfl]
  · have : eqv a b = false := by
      cases q : eqv a b with
      | false => rfl
      | true => exact absurd (eqv_clean a b ca cb q) e
    have np : ¬ p := fun q => e (h.mpr q)
    simp [this, np]
theorem l_nec {a b : PV} (ha : plain 60 a = true) (hb : plain 60 b = true) (ca : clean a = true) (cb : clean b = true) (p : Prop) [Decidable p] (h : a = b ↔ p) : cmpV .ne a b [] = some (!decide p) := by
  have := l_eqc ha hb ca cb p h
  simp only [cmpV] at this ⊢
  split at this
  · rename_i q
    rw [if_pos q]
    simpa using this
  · cases this
theorem l_eqT {a b : PV} (h : a = b) (ha : plain 60 a = true) : cmpV .eq a b [] = some true := by
  subst h
  have ra : res [] a = a := by cases a <;> simp_all [plain, res]
  simp [cmpV, ra, ha, eqv_rfl 60 a ha]
theorem l_neT {a b : PV} (h : a = b) (ha : plain 60 a = true) : cmpV .ne a b [] = some false := by
  subst h
  have ra : res [] a = a := by cases a <;> simp_all [plain, res]
  simp [cmpV, ra, ha, eqv_rfl 60 a ha]
@[simp] theorem l_eqS {a b : Tx} : cmpV .eq (.str a) (.str b) [] = some (decide (a = b)) := by
  rw [l_eqc (p := a = b)] <;> simp [plain, clean]
@[simp] theorem l_neS {a b : Tx} : cmpV .ne (.str a) (.str b) [] = some (!decide (a = b)) := by
  rw [l_nec (p := a = b)] <;> simp [plain, clean]
@[simp] theorem l_isN : cmpV .is .none .none [] = some true := rfl
@[simp] theorem l_isNotN : cmpV .isNot .none .none [] = some false := rfl
theorem l_isV {v : PV} (h : v ≠ .none) : cmpV .is v .none [] = some false := by cases v <;> simp_all [cmpV, isV]
@[simp] theorem l_isT {v : List PV} : cmpV .is (.tup v) .none [] = some false := rfl
@[simp] theorem l_isNotT {v : List PV} : cmpV .isNot (.tup v) .none [] = some true := rfl
@[simp] theorem l_isI {v : Int} : cmpV .is (.int v) .none [] = some false := rfl
@[simp] theorem l_isNotI {v : Int} : cmpV .isNot (.int v) .none [] = some true := rfl
@[simp] theorem l_isNotNB {v : Bool} : cmpV .isNot (.bool v) .none [] = some true := rfl

/-! what is no such text -/
@[simp] theorem popOf_const {x0} : popOf (.const x0) = none := rfl
@[simp] theorem varOf_const {x0} : varOf (.const x0) = none := rfl
@[simp] theorem mutOf_const {x0} : mutOf (.const x0) = none := rfl
@[simp] theorem popOf_var {x0} : popOf (.var x0) = none := rfl
@[simp] theorem varOf_var {x0} : varOf (.var x0) = some x0 := rfl
@[simp] theorem mutOf_var {x0} : mutOf (.var x0) = none := rfl
@[simp] theorem popOf_glob {x0 x1} : popOf (.glob x0 x1) = none := rfl
@[simp] theorem varOf_glob {x0 x1} : varOf (.glob x0 x1) = none := rfl
@[simp] theorem mutOf_glob {x0 x1} : mutOf (.glob x0 x1) = none := rfl
@[simp] theorem popOf_bin {x0 x1 x2 x3} : popOf (.bin x0 x1 x2 x3) = none := rfl
@[simp] theorem varOf_bin {x0 x1 x2 x3} : varOf (.bin x0 x1 x2 x3) = none := rfl
@[simp] theorem mutOf_bin {x0 x1 x2 x3} : mutOf (.bin x0 x1 x2 x3) = none := rfl
@[simp] theorem popOf_neg {x0} : popOf (.neg x0) = none := rfl
@[simp] theorem varOf_neg {x0} : varOf (.neg x0) = none := rfl
@[simp] theorem mutOf_neg {x0} : mutOf (.neg x0) = none := rfl
@[simp] theorem popOf_nt {x0} : popOf (.nt x0) = none := rfl
@[simp] theorem varOf_nt {x0} : varOf (.nt x0) = none := rfl
@[simp] theorem mutOf_nt {x0} : mutOf (.nt x0) = none := rfl
@[simp] theorem popOf_and {x0 x1} : popOf (.and x0 x1) = none := rfl
@[simp] theorem varOf_and {x0 x1} : varOf (.and x0 x1) = none := rfl
@[simp] theorem mutOf_and {x0 x1} : mutOf (.and x0 x1) = none := rfl
@[simp] theorem popOf_or {x0 x1} : popOf (.or x0 x1) = none := rfl
@[simp] theorem varOf_or {x0 x1} : varOf (.or x0 x1) = none := rfl
@[simp] theorem mutOf_or {x0 x1} : mutOf (.or x0 x1) = none := rfl
@[simp] theorem popOf_cmp {x0 x1 x2} : popOf (.cmp x0 x1 x2) = none := rfl
@[simp] theorem varOf_cmp {x0 x1 x2} : varOf (.cmp x0 x1 x2) = none := rfl
@[simp] theorem mutOf_cmp {x0 x1 x2} : mutOf (.cmp x0 x1 x2) = none := rfl
@[simp] theorem popOf_chain {x0 x1 x2 x3 x4} : popOf (.chain x0 x1 x2 x3 x4) = none := rfl
@[simp] theorem varOf_chain {x0 x1 x2 x3 x4} : varOf (.chain x0 x1 x2 x3 x4) = none := rfl
@[simp] theorem mutOf_chain {x0 x1 x2 x3 x4} : mutOf (.chain x0 x1 x2 x3 x4) = none := rfl
@[simp] theorem popOf_ite {x0 x1 x2} : popOf (.ite x0 x1 x2) = none := rfl
@[simp] theorem varOf_ite {x0 x1 x2} : varOf (.ite x0 x1 x2) = none := rfl
@[simp] theorem mutOf_ite {x0 x1 x2} : mutOf (.ite x0 x1 x2) = none := rfl
@[simp] theorem popOf_tup {x0} : popOf (.tup x0) = none := rfl
@[simp] theorem varOf_tup {x0} : varOf (.tup x0) = none := rfl
@[simp] theorem mutOf_tup {x0} : mutOf (.tup x0) = none := rfl
@[simp] theorem popOf_lst {x0 x1} : popOf (.lst x0 x1) = none := rfl
@[simp] theorem varOf_lst {x0 x1} : varOf (.lst x0 x1) = none := rfl
@[simp] theorem mutOf_lst {x0 x1} : mutOf (.lst x0 x1) = none := rfl
@[simp] theorem popOf_dict0 {x0} : popOf (.dict0 x0) = none := rfl
@[simp] theorem varOf_dict0 {x0} : varOf (.dict0 x0) = none := rfl
@[simp] theorem mutOf_dict0 {x0} : mutOf (.dict0 x0) = none := rfl
@[simp] theorem popOf_call {x0 x1} : popOf (.call x0 x1) = none := rfl
@[simp] theorem varOf_call {x0 x1} : varOf (.call x0 x1) = none := rfl
@[simp] theorem mutOf_call {x0 x1} : mutOf (.call x0 x1) = none := rfl
@[simp] theorem popOf_make {x0 x1} : popOf (.make x0 x1) = none := rfl
@[simp] theorem varOf_make {x0 x1} : varOf (.make x0 x1) = none := rfl
@[simp] theorem mutOf_make {x0 x1} : mutOf (.make x0 x1) = none := rfl
@[simp] theorem popOf_meth {x0 x1 x2} : popOf (.meth x0 x1 x2) = none := rfl
@[simp] theorem varOf_meth {x0 x1 x2} : varOf (.meth x0 x1 x2) = none := rfl
@[simp] theorem mutOf_meth {x0 x1 x2} : mutOf (.meth x0 x1 x2) = none := rfl
@[simp] theorem popOf_attr {x0 x1} : popOf (.attr x0 x1) = none := rfl
@[simp] theorem varOf_attr {x0 x1} : varOf (.attr x0 x1) = none := rfl
@[simp] theorem mutOf_attr {x0 x1} : mutOf (.attr x0 x1) = none := rfl
@[simp] theorem popOf_bi {x0 x1 x2} : popOf (.bi x0 x1 x2) = none := rfl
@[simp] theorem varOf_bi {x0 x1 x2} : varOf (.bi x0 x1 x2) = none := rfl
@[simp] theorem mutOf_bi {x0 x1 x2} : mutOf (.bi x0 x1 x2) = none := rfl
@[simp] theorem popOf_isinst {x0 x1} : popOf (.isinst x0 x1) = none := rfl
@[simp] theorem varOf_isinst {x0 x1} : varOf (.isinst x0 x1) = none := rfl
@[simp] theorem mutOf_isinst {x0 x1} : mutOf (.isinst x0 x1) = none := rfl
@[simp] theorem popOf_idx {x0 x1} : popOf (.idx x0 x1) = none := rfl
@[simp] theorem varOf_idx {x0 x1} : varOf (.idx x0 x1) = none := rfl
@[simp] theorem mutOf_idx {x0 x1} : mutOf (.idx x0 x1) = none := rfl
@[simp] theorem popOf_slice {x0 x1 x2 x3} : popOf (.slice x0 x1 x2 x3) = none := rfl
@[simp] theorem varOf_slice {x0 x1 x2 x3} : varOf (.slice x0 x1 x2 x3) = none := rfl
@[simp] theorem mutOf_slice {x0 x1 x2 x3} : mutOf (.slice x0 x1 x2 x3) = none := rfl
@[simp] theorem popOf_comp {x0 x1 x2 x3 x4 x5} : popOf (.comp x0 x1 x2 x3 x4 x5) = none := rfl
@[simp] theorem varOf_comp {x0 x1 x2 x3 x4 x5} : varOf (.comp x0 x1 x2 x3 x4 x5) = none := rfl
@[simp] theorem mutOf_comp {x0 x1 x2 x3 x4 x5} : mutOf (.comp x0 x1 x2 x3 x4 x5) = none := rfl
@[simp] theorem varOf_append {x0 x1} : varOf (.bm .append x0 x1) = none := rfl
@[simp] theorem popOf_append {x0 x1} : popOf (.bm .append x0 x1) = none := rfl
@[simp] theorem varOf_extend {x0 x1} : varOf (.bm .extend x0 x1) = none := rfl
@[simp] theorem popOf_extend {x0 x1} : popOf (.bm .extend x0 x1) = none := rfl
@[simp] theorem varOf_insert {x0 x1} : varOf (.bm .insert x0 x1) = none := rfl
@[simp] theorem popOf_insert {x0 x1} : popOf (.bm .insert x0 x1) = none := rfl
@[simp] theorem varOf_pop {x0 x1} : varOf (.bm .pop x0 x1) = none := rfl
@[simp] theorem mutOf_pop {x0 x1} : mutOf (.bm .pop x0 x1) = none := rfl
@[simp] theorem varOf_reverse {x0 x1} : varOf (.bm .reverse x0 x1) = none := rfl
@[simp] theorem popOf_reverse {x0 x1} : popOf (.bm .reverse x0 x1) = none := rfl
@[simp] theorem mutOf_reverse {x0 x1} : mutOf (.bm .reverse x0 x1) = none := rfl
@[simp] theorem varOf_get {x0 x1} : varOf (.bm .get x0 x1) = none := rfl
@[simp] theorem popOf_get {x0 x1} : popOf (.bm .get x0 x1) = none := rfl
@[simp] theorem mutOf_get {x0 x1} : mutOf (.bm .get x0 x1) = none := rfl
@[simp] theorem varOf_get2 {x0 x1} : varOf (.bm .get2 x0 x1) = none := rfl
@[simp] theorem popOf_get2 {x0 x1} : popOf (.bm .get2 x0 x1) = none := rfl
@[simp] theorem mutOf_get2 {x0 x1} : mutOf (.bm .get2 x0 x1) = none := rfl
@[simp] theorem varOf_items {x0 x1} : varOf (.bm .items x0 x1) = none := rfl
@[simp] theorem popOf_items {x0 x1} : popOf (.bm .items x0 x1) = none := rfl
@[simp] theorem mutOf_items {x0 x1} : mutOf (.bm .items x0 x1) = none := rfl
@[simp] theorem varOf_join {x0 x1} : varOf (.bm .join x0 x1) = none := rfl
@[simp] theorem popOf_join {x0 x1} : popOf (.bm .join x0 x1) = none := rfl
@[simp] theorem mutOf_join {x0 x1} : mutOf (.bm .join x0 x1) = none := rfl
@[simp] theorem varOf_split {x0 x1} : varOf (.bm .split x0 x1) = none := rfl
@[simp] theorem popOf_split {x0 x1} : popOf (.bm .split x0 x1) = none := rfl
@[simp] theorem mutOf_split {x0 x1} : mutOf (.bm .split x0 x1) = none := rfl
@[simp] theorem varOf_partition {x0 x1} : varOf (.bm .partition x0 x1) = none := rfl
@[simp] theorem popOf_partition {x0 x1} : popOf (.bm .partition x0 x1) = none := rfl
@[simp] theorem mutOf_partition {x0 x1} : mutOf (.bm .partition x0 x1) = none := rfl
@[simp] theorem varOf_upper {x0 x1} : varOf (.bm .upper x0 x1) = none := rfl
@[simp] theorem popOf_upper {x0 x1} : popOf (.bm .upper x0 x1) = none := rfl
@[simp] theorem mutOf_upper {x0 x1} : mutOf (.bm .upper x0 x1) = none := rfl
@[simp] theorem varOf_count {x0 x1} : varOf (.bm .count x0 x1) = none := rfl
@[simp] theorem popOf_count {x0 x1} : popOf (.bm .count x0 x1) = none := rfl
@[simp] theorem mutOf_count {x0 x1} : mutOf (.bm .count x0 x1) = none := rfl
@[simp] theorem varOf_index {x0 x1} : varOf (.bm .index x0 x1) = none := rfl
@[simp] theorem popOf_index {x0 x1} : popOf (.bm .index x0 x1) = none := rfl
@[simp] theorem mutOf_index {x0 x1} : mutOf (.bm .index x0 x1) = none := rfl
@[simp] theorem popOf_pop {i} : popOf (.bm .pop (.var i) .nil) = some i := rfl
@[simp] theorem mutOf_append {i e} : mutOf (.bm .append (.var i) (.cons e .nil)) = some (.app i e) := rfl
@[simp] theorem mutOf_extend {i e} : mutOf (.bm .extend (.var i) (.cons e .nil)) = some (.ext i e) := rfl
@[simp] theorem mutOf_insert {i a e} : mutOf (.bm .insert (.var i) (.cons a (.cons e .nil))) = some (.ins i a e) := rfl
/-! comprehensions -/
def compW {α β : Type} (f : α → O (Option β)) : List α → O (List β)
  | [] => .ok []
  | x :: r => (f x).bind fun o => (compW f r).bind fun ys => .ok (match o with | some y => y :: ys | none => ys)
@[simp] theorem compV_map {α : Type} (f : PV → O (Option PV)) (e : α → PV) : ∀ xs : List α, compV f (xs.map e) = compW (fun a => f (e a)) xs
  | [] => rfl
  | x :: xs => by
    simp only [List.map_cons, compV, compW, compV_map f e xs]
    congr 1
    funext o
    congr 1
    funext ys
    cases o <;> rfl
theorem compW_congr {α β : Type} {f g : α → O (Option β)} {xs ys : List α} (e : xs = ys) (h : ∀ a, a ∈ ys → f a = g a) : compW f xs = compW g ys := by
  subst e
  induction xs with
  | nil => rfl
  | cons x xs ih => simp only [compW, h x List.mem_cons_self, ih fun a ha => h a (List.mem_cons_of_mem _ ha)]
@[simp] theorem compW_map {α β : Type} (g : α → β) : ∀ xs : List α, compW (fun a => .ok (some (g a))) xs = .ok (xs.map g)
  | [] => rfl
  | x :: xs => by simp only [compW, O.bind_ok, compW_map g xs, List.map_cons]
@[simp] theorem compW_filter {α β : Type} (g : α → β) (p : α → Prop) [DecidablePred p] : ∀ xs : List α, compW (fun a => if p a then .ok (some (g a)) else .ok none) xs = .ok ((xs.filter fun a => decide (p a)).map g)
  | [] => rfl
  | x :: xs => by
    simp only [compW, compW_filter g p xs]
    by_cases h : p x <;> simp [h]
@[simp] theorem compW_filter2 {α β : Type} (g : α → β) (p q : α → Prop) [DecidablePred p] [DecidablePred q] (xs : List α) : compW (fun a => if p a then if q a then .ok (some (g a)) else .ok none else .ok none) xs = .ok ((xs.filter fun a => decide (p a ∧ q a)).map g) := by
  rw [← compW_filter]
  congr 1
  funext a
  by_cases h : p a <;> simp [h]
theorem compW_of {α β : Type} {f : α → O (Option β)} {xs : List α} (g : α → Option β) (h : ∀ a ∈ xs, f a = .ok (g a)) : compW f xs = .ok (xs.filterMap g) := by
  induction xs with
  | nil => rfl
  | cons x xs ih =>
    simp only [compW, h x List.mem_cons_self, O.bind_ok, ih fun a ha => h a (List.mem_cons_of_mem _ ha)]
    cases e : g x <;> simp [e]
theorem comp_len {α : Type} {p : α → Bool} {xs : List α} {n : Nat} (h : xs.length ≤ n) : (xs.filter p).length ≤ n := Nat.le_trans (List.length_filter_le _ _) h

/-! loops -/
def optV (o : Option VEnv) (f : VEnv → VS) : VS := match o with
  | some ρ => f ρ
  | none => .bad
@[simp] theorem optV_some {ρ : VEnv} {f : VEnv → VS} : optV (some ρ) f = f ρ := rfl
/-- a loop's turn -/
def bodyV (Γ : GamV) (tg : Tg) (b : MSs) : PV → VEnv → VS := fun x ρ => optV (assignV tg x ρ) (execsV Γ b)
@[simp] theorem bodyV_name {Γ : GamV} {i : Nat} {b : MSs} {x : PV} {ρ : VEnv} : bodyV Γ (.name i) b x ρ = execsV Γ b (ρ.set i (some ⟨.tree, x⟩)) := by
  unfold bodyV
  rw [as_name]
  rfl
theorem bodyV_tup {Γ : GamV} {l : List Tg} {b : MSs} {x : PV} {ρ : VEnv} : bodyV Γ (.tup l) b x ρ = optV (assignV (.tup l) x ρ) (execsV Γ b) := rfl
@[simp high] theorem ex_for {Γ : GamV} {tg : Tg} {it : MI} {b : MSs} {ρ : VEnv} : execV Γ (.for_ tg it b) ρ = (srcFor Γ it ρ).then ρ fun xs => forV (bodyV Γ tg b) ρ xs ρ := by
  rw [execV]
  rfl
/-- names that were unbound ahead of the loop are so behind the turn -/
def VS.msk (r : VS) (ρ0 : VEnv) : VS := r.next fun ρ' => .nx (mask ρ0 ρ')
@[simp] theorem msk_nx {ρ ρ0 : VEnv} : (VS.nx ρ).msk ρ0 = .nx (mask ρ0 ρ) := rfl
@[simp] theorem msk_ret {s : SV} {ρ0 : VEnv} : (VS.ret s).msk ρ0 = .ret s := rfl
@[simp] theorem msk_exc {c : Nat} {ρ ρ0 : VEnv} : (VS.exc c ρ).msk ρ0 = .exc c ρ := rfl
@[simp] theorem msk_ite {p : Prop} [Decidable p] {a b : VS} {ρ0 : VEnv} : (if p then a else b).msk ρ0 = if p then a.msk ρ0 else b.msk ρ0 := by split <;> rfl
theorem forV_cons {b : PV → VEnv → VS} {ρ0 ρ : VEnv} {x : PV} {r : List PV} : forV b ρ0 (x :: r) ρ = ((b x ρ).msk ρ0).next fun ρ' => forV b ρ0 r ρ' := by
  simp only [forV]
  cases b x ρ <;> rfl
theorem forV_inv {α σ : Type} {b : PV → VEnv → VS} {ρ0 : VEnv} (E : σ → VEnv) (step : σ → α → σ) (I : List α → σ → Prop) (e : α → PV)
    (h : ∀ x r s, I (x :: r) s → (b (e x) (E s)).msk ρ0 = .nx (E (step s x)) ∧ I r (step s x)) : ∀ (xs : List α) (s : σ), I xs s → forV b ρ0 (xs.map e) (E s) = .nx (E (xs.foldl step s)) ∧ I [] (xs.foldl step s)
  | [], s, i => ⟨rfl, i⟩
  | x :: r, s, i => by
    obtain ⟨h1, h3⟩ := h x r s i
    simp only [List.map_cons, forV_cons, h1, VS.next_nx, List.foldl_cons]
    exact forV_inv E step I e h r _ h3
theorem forV_fold {α σ : Type} {b : PV → VEnv → VS} {ρ0 : VEnv} (E : σ → VEnv) (step : σ → α → σ) (e : α → PV) {xs : List α}
    (h : ∀ x ∈ xs, ∀ s, (b (e x) (E s)).msk ρ0 = .nx (E (step s x))) : ∀ (s : σ), forV b ρ0 (xs.map e) (E s) = .nx (E (xs.foldl step s)) := by
  induction xs with
  | nil => intro s; rfl
  | cons x r ih =>
    intro s
    have h1 := h x List.mem_cons_self s
    simp only [List.map_cons, forV_cons, h1, VS.next_nx, List.foldl_cons]
    exact ih (fun y hy => h y (List.mem_cons_of_mem _ hy)) _
/-- a loop that changes nothing -/
theorem forV_same {α : Type} {b : PV → VEnv → VS} {ρ : VEnv} (e : α → PV) : ∀ {xs : List α}, (∀ x ∈ xs, (b (e x) ρ).msk ρ = .nx ρ) → forV b ρ (xs.map e) ρ = .nx ρ
  | [], _ => rfl
  | x :: r, h => by
    simp only [List.map_cons, forV_cons, h x List.mem_cons_self, VS.next_nx]
    exact forV_same e fun y hy => h y (List.mem_cons_of_mem _ hy)
/-- a loop that raises at some thing, and changes nothing else -/
theorem forV_exc {b : PV → VEnv → VS} {ρ : VEnv} {c : Nat} (ok : PV → Bool) : ∀ {xs : List PV}, (∀ x ∈ xs, if ok x then (b x ρ).msk ρ = .nx ρ else ∃ ρ', b x ρ = .exc c ρ') → if xs.all ok then forV b ρ xs ρ = .nx ρ else ∃ ρ', forV b ρ xs ρ = .exc c ρ'
  | [], _ => by simp [forV]
  | x :: r, h => by
    have h0 := h x List.mem_cons_self
    cases e : ok x with
    | true =>
      rw [if_pos e] at h0
      simp only [forV_cons, h0, VS.next_nx, List.all_cons, e, Bool.true_and]
      exact forV_exc ok fun y hy => h y (List.mem_cons_of_mem _ hy)
    | false =>
      rw [if_neg (by simp [e])] at h0
      obtain ⟨ρ', h1⟩ := h0
      simp only [forV_cons, h1, msk_exc, VS.next_exc, List.all_cons, e, Bool.false_and]
      exact ⟨ρ', rfl⟩
/-- a loop that ends at the first thing that is so -/
theorem forV_find {α : Type} {b : PV → VEnv → VS} {ρ : VEnv} {s : SV} (e : α → PV) (p : α → Bool) : ∀ {xs : List α}, (∀ x ∈ xs, (b (e x) ρ).msk ρ = if p x then .ret s else .nx ρ) → forV b ρ (xs.map e) ρ = if xs.any p then .ret s else .nx ρ
  | [], _ => by simp [forV]
  | x :: r, h => by
    have h0 := h x List.mem_cons_self
    cases q : p x with
    | true =>
      rw [if_pos q] at h0
      simp only [List.map_cons, forV_cons, h0, VS.next_ret, List.any_cons, q, Bool.true_or, if_true]
    | false =>
      rw [if_neg (by simp [q])] at h0
      simp only [List.map_cons, forV_cons, h0, VS.next_nx, List.any_cons, q, Bool.false_or]
      exact forV_find e p fun y hy => h y (List.mem_cons_of_mem _ hy)

/-! operators -/
section
variable {a b i j : Int} {xs ys : List PV} {s t : Tx} {v : PV}
@[simp] theorem v_slice1 : slicef false (.lst xs) (some 1) none [] = .ok (.lst xs.tail) [] := by
  have : cut xs (some 1) none = xs.tail := by
    cases xs with
    | nil => rfl
    | cons x xs =>
      have e1 : HT.sIx (x :: xs).length 0 (some 1) = 1 := by simp [HT.sIx]
      have e2 : HT.sIx (x :: xs).length (x :: xs).length none = (x :: xs).length := rfl
      unfold cut
      rw [e1, e2]
      simp
  show mkLst false (cut xs (some 1) none) [] = _
  rw [this]
  rfl
@[simp] theorem idx_t0 {r : List PV} : idxf (.tup (v :: r)) (.int 0) [] = .ok v [] := by rw [i_tup (by decide)]; rfl
@[simp] theorem idx_t1 {u : PV} {r : List PV} : idxf (.tup (u :: v :: r)) (.int 1) [] = .ok v [] := by rw [i_tup (by decide)]; rfl
@[simp] theorem idx_t2 {u w : PV} {r : List PV} : idxf (.tup (u :: w :: v :: r)) (.int 2) [] = .ok v [] := by rw [i_tup (by decide)]; rfl
@[simp] theorem idx_t3 {u w z : PV} {r : List PV} : idxf (.tup (u :: w :: z :: v :: r)) (.int 3) [] = .ok v [] := by rw [i_tup (by decide)]; rfl
@[simp] theorem f_lenS (h : s.length ≤ sizeLine) : bfn .len false [.str s] [] = .ok (.int s.length) [] := if_pos h
@[simp] theorem f_lenD {kvs : List (DK × PV)} : bfn .len false [.dct false kvs] [] = .ok (.int kvs.length) [] := rfl
@[simp] theorem f_min2 : bfn .min2 false [.int a, .int b] [] = .ok (.int (if b < a then b else a)) [] := rfl
@[simp] theorem f_max2 : bfn .max2 false [.int a, .int b] [] = .ok (.int (if b > a then b else a)) [] := rfl
@[simp] theorem f_abs : bfn .abs false [.int a] [] = .ok (.int (if a < 0 then -a else a)) [] := rfl
theorem boolsOf_map {α : Type} (p : α → Bool) : ∀ xs : List α, boolsOf (xs.map fun a => .bool (p a)) = some (xs.map p)
  | [] => rfl
  | x :: xs => by simp only [List.map_cons, boolsOf, boolsOf_map p xs, Option.map_some]
theorem intsOf_map {α : Type} (p : α → Int) : ∀ xs : List α, intsOf (xs.map fun a => .int (p a)) = some (xs.map p)
  | [] => rfl
  | x :: xs => by simp only [List.map_cons, intsOf, intsOf_map p xs, Option.map_some]
@[simp] theorem f_all {α : Type} (p : α → Bool) (xs : List α) : bfn .all false [.lst (xs.map fun a => .bool (p a))] [] = .ok (.bool (xs.all p)) [] := by
  show (match (lstOf [] (.lst (xs.map fun a => PV.bool (p a)))).bind boolsOf with | some bs => R.ok (PV.bool (bs.all id)) [] | none => .bad) = _
  simp only [lstOf, Option.bind_some, boolsOf_map, List.all_map, Function.id_comp]
@[simp] theorem f_sum {α : Type} (p : α → Int) (xs : List α) : bfn .sum false [.lst (xs.map fun a => .int (p a))] [] = .ok (.int (xs.map p).sum) [] := by
  show (match (lstOf [] (.lst (xs.map fun a => PV.int (p a)))).bind intsOf with | some bs => R.ok (PV.int bs.sum) [] | none => .bad) = _
  simp only [lstOf, Option.bind_some, intsOf_map]
@[simp] theorem f_list : bfn .listOf false [.lst xs] [] = .ok (.lst xs) [] := rfl
@[simp] theorem f_tuple : bfn .tupleOf false [.lst xs] [] = .ok (.tup xs) [] := rfl
@[simp] theorem ty_II : isTy Γ [] (.int i) .int = some true := rfl
end
theorem zipV_map {α β : Type} (f : α → PV) (g : β → PV) : ∀ (xs : List α) (ys : List β), zipV (xs.map f) (ys.map g) = (xs.zip ys).map fun p => .tup [f p.1, g p.2]
  | [], _ => rfl
  | _ :: _, [] => rfl
  | x :: xs, y :: ys => by simp only [List.map_cons, zipV, zipV_map f g xs ys, List.zip_cons_cons]
theorem zipV_tail {α : Type} (f : α → PV) (xs : List α) : zipV (xs.map f) (xs.map f).tail = (xs.zip xs.tail).map fun p => .tup [f p.1, f p.2] := by
  rw [← List.map_tail, zipV_map]
theorem pairs_map {α : Type} (f : α → PV) : ∀ (xs : List α) (k : Nat), pairs k (xs.map f) = (xs.zipIdx k).map fun p => .tup [.int p.2, f p.1]
  | [], _ => rfl
  | x :: xs, k => by simp only [List.map_cons, pairs, pairs_map f xs (k + 1), List.zipIdx_cons]
end Z

set_option maxHeartbeats 200000
set_option maxRecDepth 512
set_option maxRecDepth 100000
/-! rows: what the defs come to. -/
namespace Z
@[simp] theorem gv_fn {n f : Nat} {xs : List SV} : (gv n).fn f xs = fv n f xs := rfl
@[simp] theorem gv_sub {n : Nat} : (gv n).sub = subX := rfl
@[simp] theorem gvE_fn {n f : Nat} {xs : List SV} : (gamV mdOf subX n).fn f xs = fv n f xs := rfl

/-- no thing of the store, no exception, no dict -/
def flat : PV → Bool
  | .none | .bool _ | .int _ | .str _ | .tup _ | .lst _ => true
  | _ => false
def wholeV (v : PV) (a b : Int) : Bool := match v with | .int i => decide (a ≤ i) && decide (i ≤ b) | _ => false
theorem v_is_whole (n : Nat) (v : PV) (a b : Int) (hv : flat v = true) : fv (n + 1) i_is_whole [⟨.tree, v⟩, ⟨.tree, .int a⟩, ⟨.tree, .int b⟩] = .ok ⟨.tree, .bool (wholeV v a b)⟩ := by
  cases v with
  | int i => by_cases h : a ≤ i <;> simp [fv_is_whole, m_is_whole, runFnV, execsV, execV.eq_1, execV.eq_2, execV.eq_3, execV.eq_4, execV.eq_6, execV.eq_7, execV.eq_8, execV.eq_10, execV.eq_11, execV.eq_12, execV.eq_13, execV.eq_14, execV.eq_15, evalV, evalsT, evalsA, evalsS, evalOV, sourceV, srcFor, seqE, wipeV, assignNV, ownL, ownX, frzV, notBox, finV, seqV, partI, pureM, mask, boxLt, boxLtL, boxLtD, isTy, wholeV, h]
  | bool i => simp [fv_is_whole, m_is_whole, runFnV, execsV, execV.eq_1, execV.eq_2, execV.eq_3, execV.eq_4, execV.eq_6, execV.eq_7, execV.eq_8, execV.eq_10, execV.eq_11, execV.eq_12, execV.eq_13, execV.eq_14, execV.eq_15, evalV, evalsT, evalsA, evalsS, evalOV, sourceV, srcFor, seqE, wipeV, assignNV, ownL, ownX, frzV, notBox, finV, seqV, partI, pureM, mask, boxLt, boxLtL, boxLtD, isTy, wholeV]
  | none => simp [fv_is_whole, m_is_whole, runFnV, execsV, execV.eq_1, execV.eq_2, execV.eq_3, execV.eq_4, execV.eq_6, execV.eq_7, execV.eq_8, execV.eq_10, execV.eq_11, execV.eq_12, execV.eq_13, execV.eq_14, execV.eq_15, evalV, evalsT, evalsA, evalsS, evalOV, sourceV, srcFor, seqE, wipeV, assignNV, ownL, ownX, frzV, notBox, finV, seqV, partI, pureM, mask, boxLt, boxLtL, boxLtD, isTy, wholeV]
  | str s => simp [fv_is_whole, m_is_whole, runFnV, execsV, execV.eq_1, execV.eq_2, execV.eq_3, execV.eq_4, execV.eq_6, execV.eq_7, execV.eq_8, execV.eq_10, execV.eq_11, execV.eq_12, execV.eq_13, execV.eq_14, execV.eq_15, evalV, evalsT, evalsA, evalsS, evalOV, sourceV, srcFor, seqE, wipeV, assignNV, ownL, ownX, frzV, notBox, finV, seqV, partI, pureM, mask, boxLt, boxLtL, boxLtD, isTy, wholeV]
  | tup s => simp [fv_is_whole, m_is_whole, runFnV, execsV, execV.eq_1, execV.eq_2, execV.eq_3, execV.eq_4, execV.eq_6, execV.eq_7, execV.eq_8, execV.eq_10, execV.eq_11, execV.eq_12, execV.eq_13, execV.eq_14, execV.eq_15, evalV, evalsT, evalsA, evalsS, evalOV, sourceV, srcFor, seqE, wipeV, assignNV, ownL, ownX, frzV, notBox, finV, seqV, partI, pureM, mask, boxLt, boxLtL, boxLtD, isTy, wholeV]
  | lst s => simp [fv_is_whole, m_is_whole, runFnV, execsV, execV.eq_1, execV.eq_2, execV.eq_3, execV.eq_4, execV.eq_6, execV.eq_7, execV.eq_8, execV.eq_10, execV.eq_11, execV.eq_12, execV.eq_13, execV.eq_14, execV.eq_15, evalV, evalsT, evalsA, evalsS, evalOV, sourceV, srcFor, seqE, wipeV, assignNV, ownL, ownX, frzV, notBox, finV, seqV, partI, pureM, mask, boxLt, boxLtL, boxLtD, isTy, wholeV]
  | _ => simp [flat] at hv
abbrev abc : Tx := ['a', 'b', 'c', 'd', 'e', 'f', 'g', 'h', 'i', 'j', 'k', 'l', 'm', 'n', 'o', 'p', 'q', 'r', 's', 't', 'u', 'v', 'w', 'x', 'y', 'z']
def keyT (s : Tx) : Bool := decide (1 ≤ s.length) && decide (s.length ≤ 2) && s.all fun c => decide (c ∈ abc)
def keyV (v : PV) : Bool := match v with | .str s => keyT s | _ => false
@[simp] theorem in_abc {c : Char} {y : Tx} : cmpV .isIn (.str [c]) (.str y) [] = some (decide (c ∈ y)) := rfl
theorem v_is_key (n : Nat) (v : PV) (hv : flat v = true) (hz : ∀ s, v = .str s → s.length ≤ 1000) : fv (n + 1) i_is_key [⟨.tree, v⟩] = .ok ⟨.tree, .bool (keyV v)⟩ := by
  cases v with
  | str s =>
    have hs : s.length ≤ sizeLine := Nat.le_trans (hz s rfl) (by decide)
    have hs' : s.length ≤ 16777216 := hs
    by_cases h1 : 1 ≤ s.length
    · by_cases h2 : s.length ≤ 2
      · have h1' : decide ((1 : Int) ≤ s.length) = true := by simp; omega
        have h2' : decide ((s.length : Int) ≤ 2) = true := by simp; omega
        simp [fv_is_key, m_is_key, c_is_key_0, runFnV, execsV, execV.eq_1, execV.eq_2, execV.eq_3, execV.eq_4, execV.eq_6, execV.eq_7, execV.eq_8, execV.eq_10, execV.eq_11, execV.eq_12, execV.eq_13, execV.eq_14, execV.eq_15, evalV, evalsT, evalsA, evalsS, evalOV, sourceV, srcFor, seqE, wipeV, assignNV, ownL, ownX, frzV, notBox, finV, seqV, partI, pureM, mask, boxLt, boxLtL, boxLtD, isTy, keyV, keyT, f_lenS hs, hs', h1, h2, h1', h2', -List.mem_cons]
      · have h1' : decide ((1 : Int) ≤ s.length) = true := by simp; omega
        have h2' : decide ((s.length : Int) ≤ 2) = false := by simp; omega
        simp [fv_is_key, m_is_key, runFnV, execsV, execV.eq_1, execV.eq_2, execV.eq_3, execV.eq_4, execV.eq_6, execV.eq_7, execV.eq_8, execV.eq_10, execV.eq_11, execV.eq_12, execV.eq_13, execV.eq_14, execV.eq_15, evalV, evalsT, evalsA, evalsS, evalOV, sourceV, srcFor, seqE, wipeV, assignNV, ownL, ownX, frzV, notBox, finV, seqV, partI, pureM, mask, boxLt, boxLtL, boxLtD, isTy, keyV, keyT, f_lenS hs, h1, h2, h1', h2']
    · have h1' : decide ((1 : Int) ≤ s.length) = false := by simp; omega
      simp [fv_is_key, m_is_key, runFnV, execsV, execV.eq_1, execV.eq_2, execV.eq_3, execV.eq_4, execV.eq_6, execV.eq_7, execV.eq_8, execV.eq_10, execV.eq_11, execV.eq_12, execV.eq_13, execV.eq_14, execV.eq_15, evalV, evalsT, evalsA, evalsS, evalOV, sourceV, srcFor, seqE, wipeV, assignNV, ownL, ownX, frzV, notBox, finV, seqV, partI, pureM, mask, boxLt, boxLtL, boxLtD, isTy, keyV, keyT, f_lenS hs, h1, h1']
  | int i => simp [fv_is_key, m_is_key, runFnV, execsV, execV.eq_1, execV.eq_2, execV.eq_3, execV.eq_4, execV.eq_6, execV.eq_7, execV.eq_8, execV.eq_10, execV.eq_11, execV.eq_12, execV.eq_13, execV.eq_14, execV.eq_15, evalV, evalsT, evalsA, evalsS, evalOV, sourceV, srcFor, seqE, wipeV, assignNV, ownL, ownX, frzV, notBox, finV, seqV, partI, pureM, mask, boxLt, boxLtL, boxLtD, isTy, keyV]
  | bool i => simp [fv_is_key, m_is_key, runFnV, execsV, execV.eq_1, execV.eq_2, execV.eq_3, execV.eq_4, execV.eq_6, execV.eq_7, execV.eq_8, execV.eq_10, execV.eq_11, execV.eq_12, execV.eq_13, execV.eq_14, execV.eq_15, evalV, evalsT, evalsA, evalsS, evalOV, sourceV, srcFor, seqE, wipeV, assignNV, ownL, ownX, frzV, notBox, finV, seqV, partI, pureM, mask, boxLt, boxLtL, boxLtD, isTy, keyV]
  | none => simp [fv_is_key, m_is_key, runFnV, execsV, execV.eq_1, execV.eq_2, execV.eq_3, execV.eq_4, execV.eq_6, execV.eq_7, execV.eq_8, execV.eq_10, execV.eq_11, execV.eq_12, execV.eq_13, execV.eq_14, execV.eq_15, evalV, evalsT, evalsA, evalsS, evalOV, sourceV, srcFor, seqE, wipeV, assignNV, ownL, ownX, frzV, notBox, finV, seqV, partI, pureM, mask, boxLt, boxLtL, boxLtD, isTy, keyV]
  | tup s => simp [fv_is_key, m_is_key, runFnV, execsV, execV.eq_1, execV.eq_2, execV.eq_3, execV.eq_4, execV.eq_6, execV.eq_7, execV.eq_8, execV.eq_10, execV.eq_11, execV.eq_12, execV.eq_13, execV.eq_14, execV.eq_15, evalV, evalsT, evalsA, evalsS, evalOV, sourceV, srcFor, seqE, wipeV, assignNV, ownL, ownX, frzV, notBox, finV, seqV, partI, pureM, mask, boxLt, boxLtL, boxLtD, isTy, keyV]
  | lst s => simp [fv_is_key, m_is_key, runFnV, execsV, execV.eq_1, execV.eq_2, execV.eq_3, execV.eq_4, execV.eq_6, execV.eq_7, execV.eq_8, execV.eq_10, execV.eq_11, execV.eq_12, execV.eq_13, execV.eq_14, execV.eq_15, evalV, evalsT, evalsA, evalsS, evalOV, sourceV, srcFor, seqE, wipeV, assignNV, ownL, ownX, frzV, notBox, finV, seqV, partI, pureM, mask, boxLt, boxLtL, boxLtD, isTy, keyV]
  | _ => simp [flat] at hv
def small (v : PV) : Bool := flat v && (match v with | .str s => decide (s.length ≤ 1000) | _ => true)
def rowOk (v : PV) : Bool := match v with | .tup [a, b, c] => keyV b && (wholeV a 0 99 && wholeV c (-99) 99) | _ => false
theorem small_flat {v : PV} (h : small v = true) : flat v = true := by simp only [small, Bool.and_eq_true] at h; exact h.1
theorem small_str {v : PV} (h : small v = true) : ∀ s, v = .str s → s.length ≤ 1000 := by
  rintro s rfl
  simpa [small, flat] using h
theorem v_is_row3 (n : Nat) (a b c : PV) (ha : small a = true) (hb : small b = true) (hc : small c = true) : fv (n + 2) i_is_row [⟨.tree, .tup [a, b, c]⟩] = .ok ⟨.tree, .bool (rowOk (.tup [a, b, c]))⟩ := by
  have e1 := v_is_key n b (small_flat hb) (small_str hb)
  have e2 := v_is_whole n a 0 99 (small_flat ha)
  have e3 := v_is_whole n c (-99) 99 (small_flat hc)
  cases h1 : keyV b <;> cases h2 : wholeV a 0 99 <;> simp [fv_is_row, m_is_row, runFnV, execsV, execV.eq_1, execV.eq_2, execV.eq_3, execV.eq_4, execV.eq_6, execV.eq_7, execV.eq_8, execV.eq_10, execV.eq_11, execV.eq_12, execV.eq_13, execV.eq_14, execV.eq_15, evalV, evalsT, evalsA, evalsS, evalOV, sourceV, srcFor, seqE, wipeV, assignNV, ownL, ownX, frzV, notBox, finV, seqV, partI, pureM, mask, boxLt, boxLtL, boxLtD, isTy, e1, e2, e3, h1, h2, rowOk]
theorem v_is_rowN (n : Nat) (xs : List PV) (h : xs.length ≠ 3) : fv (n + 2) i_is_row [⟨.tree, .tup xs⟩] = .ok ⟨.tree, .bool false⟩ := by
  have h' : ¬ ((xs.length : Int) = 3) := by omega
  simp [fv_is_row, m_is_row, runFnV, execsV, execV.eq_1, execV.eq_2, execV.eq_3, execV.eq_4, execV.eq_6, execV.eq_7, execV.eq_8, execV.eq_10, execV.eq_11, execV.eq_12, execV.eq_13, execV.eq_14, execV.eq_15, evalV, evalsT, evalsA, evalsS, evalOV, sourceV, srcFor, seqE, wipeV, assignNV, ownL, ownX, frzV, notBox, finV, seqV, partI, pureM, mask, boxLt, boxLtL, boxLtD, isTy, h']
theorem v_is_row0 (n : Nat) (v : PV) (h : flat v = true) (h2 : ∀ xs, v ≠ .tup xs) : fv (n + 2) i_is_row [⟨.tree, v⟩] = .ok ⟨.tree, .bool false⟩ := by
  cases v with
  | tup xs => exact absurd rfl (h2 xs)
  | int i => simp [fv_is_row, m_is_row, runFnV, execsV, execV.eq_1, execV.eq_2, execV.eq_3, execV.eq_4, execV.eq_6, execV.eq_7, execV.eq_8, execV.eq_10, execV.eq_11, execV.eq_12, execV.eq_13, execV.eq_14, execV.eq_15, evalV, evalsT, evalsA, evalsS, evalOV, sourceV, srcFor, seqE, wipeV, assignNV, ownL, ownX, frzV, notBox, finV, seqV, partI, pureM, mask, boxLt, boxLtL, boxLtD, isTy]
  | bool i => simp [fv_is_row, m_is_row, runFnV, execsV, execV.eq_1, execV.eq_2, execV.eq_3, execV.eq_4, execV.eq_6, execV.eq_7, execV.eq_8, execV.eq_10, execV.eq_11, execV.eq_12, execV.eq_13, execV.eq_14, execV.eq_15, evalV, evalsT, evalsA, evalsS, evalOV, sourceV, srcFor, seqE, wipeV, assignNV, ownL, ownX, frzV, notBox, finV, seqV, partI, pureM, mask, boxLt, boxLtL, boxLtD, isTy]
  | none => simp [fv_is_row, m_is_row, runFnV, execsV, execV.eq_1, execV.eq_2, execV.eq_3, execV.eq_4, execV.eq_6, execV.eq_7, execV.eq_8, execV.eq_10, execV.eq_11, execV.eq_12, execV.eq_13, execV.eq_14, execV.eq_15, evalV, evalsT, evalsA, evalsS, evalOV, sourceV, srcFor, seqE, wipeV, assignNV, ownL, ownX, frzV, notBox, finV, seqV, partI, pureM, mask, boxLt, boxLtL, boxLtD, isTy]
  | str s => simp [fv_is_row, m_is_row, runFnV, execsV, execV.eq_1, execV.eq_2, execV.eq_3, execV.eq_4, execV.eq_6, execV.eq_7, execV.eq_8, execV.eq_10, execV.eq_11, execV.eq_12, execV.eq_13, execV.eq_14, execV.eq_15, evalV, evalsT, evalsA, evalsS, evalOV, sourceV, srcFor, seqE, wipeV, assignNV, ownL, ownX, frzV, notBox, finV, seqV, partI, pureM, mask, boxLt, boxLtL, boxLtD, isTy]
  | lst s => simp [fv_is_row, m_is_row, runFnV, execsV, execV.eq_1, execV.eq_2, execV.eq_3, execV.eq_4, execV.eq_6, execV.eq_7, execV.eq_8, execV.eq_10, execV.eq_11, execV.eq_12, execV.eq_13, execV.eq_14, execV.eq_15, evalV, evalsT, evalsA, evalsS, evalOV, sourceV, srcFor, seqE, wipeV, assignNV, ownL, ownX, frzV, notBox, finV, seqV, partI, pureM, mask, boxLt, boxLtL, boxLtD, isTy]
  | _ => simp [flat] at h
/-- a thing that is_row can look at -/
def seen (v : PV) : Bool := flat v && (match v with | .tup xs => xs.all small | _ => true)
theorem v_is_row (n : Nat) (v : PV) (h : seen v = true) : fv (n + 2) i_is_row [⟨.tree, v⟩] = .ok ⟨.tree, .bool (rowOk v)⟩ := by
  simp only [seen, Bool.and_eq_true] at h
  cases v with
  | tup xs =>
    by_cases h3 : xs.length = 3
    · obtain ⟨a, b, c, rfl⟩ : ∃ a b c, xs = [a, b, c] := by
        match xs, h3 with
        | [a, b, c], _ => exact ⟨a, b, c, rfl⟩
      have hh := h.2
      simp only [List.all_cons, Bool.and_eq_true] at hh
      exact v_is_row3 n a b c hh.1 hh.2.1 hh.2.2.1
    · have e : rowOk (.tup xs) = false := by
        unfold rowOk
        split
        · rename_i h4
          cases h4
          exact absurd rfl h3
        · rfl
      rw [e]
      exact v_is_rowN n xs h3
  | _ => exact v_is_row0 n _ h.1 (by simp)
theorem v_look_row (n : Nat) (v : PV) (h : seen v = true) : fv (n + 3) i_look_row [⟨.tree, v⟩] = if rowOk v then .ok ⟨.tree, .none⟩ else .exc 1 := by
  have e := v_is_row n v h
  cases r : rowOk v <;> simp [fv_look_row, m_look_row, runFnV, execsV, execV.eq_1, execV.eq_2, execV.eq_3, execV.eq_4, execV.eq_6, execV.eq_7, execV.eq_8, execV.eq_10, execV.eq_11, execV.eq_12, execV.eq_13, execV.eq_14, execV.eq_15, evalV, evalsT, evalsA, evalsS, evalOV, sourceV, srcFor, seqE, wipeV, assignNV, ownL, ownX, frzV, notBox, finV, seqV, partI, pureM, mask, boxLt, boxLtL, boxLtD, e, r]

/-- a row: moment, key, number -/
abbrev Row := Int × Tx × Int
def rowV (r : Row) : PV := .tup [.int r.1, .str r.2.1, .int r.2.2]
@[simp] theorem row_box {n : Nat} {r : Row} : boxLt n (rowV r) = true := by simp [rowV, boxLt, boxLtL]
@[simp] theorem rows_box {n : Nat} {l : List Row} : boxLtL n (l.map rowV) = true := boxLtL_map _ (fun _ => row_box) _
@[simp] theorem row_0 {r : Row} : idxf (rowV r) (.int 0) [] = .ok (.int r.1) [] := idx_t0
@[simp] theorem row_1 {r : Row} : idxf (rowV r) (.int 1) [] = .ok (.str r.2.1) [] := idx_t1
@[simp] theorem row_2 {r : Row} : idxf (rowV r) (.int 2) [] = .ok (.int r.2.2) [] := idx_t2
@[simp] theorem row_tv {k : Kd} {r : Row} : (SV.mk k (rowV r)).tv = .ok (rowV r) := tv_of rfl
theorem row_plain {n : Nat} {r : Row} : plain (n + 1) (rowV r) = true := by simp [rowV, plain, plainL]
theorem row_clean {r : Row} : clean (rowV r) = true := by simp [rowV, clean, clean.cleanL]
theorem rowV_inj {r q : Row} : rowV r = rowV q ↔ r = q := by
  obtain ⟨a, b, c⟩ := r
  obtain ⟨d, e, f⟩ := q
  simp [rowV]
theorem rowsV_inj {l m : List Row} : l.map rowV = m.map rowV ↔ l = m := ⟨fun h => by
  induction l generalizing m with
  | nil => cases m <;> simp_all
  | cons a l ih => cases m with
    | nil => simp at h
    | cons b m =>
      simp only [List.map_cons, List.cons.injEq, rowV_inj] at h ⊢
      exact ⟨h.1, ih h.2⟩, fun h => by rw [h]⟩
def sortedB : List Row → Bool
  | a :: b :: r => decide (a.1 ≤ b.1) && sortedB (b :: r)
  | _ => true
theorem sortedB_zip : ∀ l : List Row, (l.zip l.tail).all (fun p => decide (p.1.1 ≤ p.2.1)) = sortedB l
  | [] => rfl
  | [_] => rfl
  | a :: b :: r => by
    have := sortedB_zip (b :: r)
    simp only [List.tail_cons, List.zip_cons_cons, List.all_cons, sortedB] at this ⊢
    rw [this]
theorem v_is_log (n : Nat) (l : List Row) (hl : l.length ≤ 16777216) : fv (n + 1) i_is_log [⟨.tree, .lst (l.map rowV)⟩] = .ok ⟨.tree, .bool (sortedB l)⟩ := by
  have h2 : l.length ≤ 16777217 := by omega
  simp [fv_is_log, m_is_log, c_is_log_0, runFnV, execsV, execV.eq_1, execV.eq_2, execV.eq_3, execV.eq_4, execV.eq_6, execV.eq_7, execV.eq_8, execV.eq_10, execV.eq_11, execV.eq_12, execV.eq_13, execV.eq_14, execV.eq_15, evalV, evalsT, evalsA, evalsS, evalOV, sourceV, srcFor, seqE, wipeV, assignNV, ownL, ownX, frzV, notBox, finV, seqV, partI, pureM, mask, boxLt, boxLtL, boxLtD, zipV_tail, h2, sortedB_zip]
end Z

set_option maxHeartbeats 200000
set_option maxRecDepth 512
set_option maxRecDepth 100000
/-! what a law draws of its script. -/
namespace Z
theorem getD_at {α : Type} {l : List α} {i : Nat} (h : i < l.length) (d : α) : l.getD i d = l[i] := by simp [List.getD, h]
theorem v__law_cell (n : Nat) (ns : List Int) (k : Int) (hk : 0 ≤ k) : fv (n + 1) i__law_cell [⟨.tree, .kls ns⟩, ⟨.tree, .int k⟩] = .ok ⟨.tree, .int (cell ns k)⟩ := by
  unfold cell
  by_cases h1 : k < ns.length
  · simp [fv__law_cell, m__law_cell, runFnV, execsV, execV.eq_1, execV.eq_2, execV.eq_3, execV.eq_4, execV.eq_6, execV.eq_7, execV.eq_8, execV.eq_10, execV.eq_11, execV.eq_12, execV.eq_13, execV.eq_14, execV.eq_15, evalV, evalsT, evalsA, evalsS, evalOV, sourceV, srcFor, seqE, wipeV, assignNV, ownL, ownX, frzV, notBox, finV, seqV, partI, pureM, mask, boxLt, boxLtL, boxLtD, h1, i_kls hk h1]
  · have h1' : decide (k < (ns.length : Int)) = false := by simp; omega
    rw [if_neg h1]
    by_cases h2 : ns = []
    · subst h2
      have h3 : cmpV .eq (.kls []) (.lst []) [] = some true := rfl
      simp [fv__law_cell, m__law_cell, runFnV, execsV, execV.eq_1, execV.eq_2, execV.eq_3, execV.eq_4, execV.eq_6, execV.eq_7, execV.eq_8, execV.eq_10, execV.eq_11, execV.eq_12, execV.eq_13, execV.eq_14, execV.eq_15, evalV, evalsT, evalsA, evalsS, evalOV, sourceV, srcFor, seqE, wipeV, assignNV, ownL, ownX, frzV, notBox, finV, seqV, partI, pureM, mask, boxLt, boxLtL, boxLtD, Int.not_lt.mpr hk, h3]
    · have h3 : cmpV .eq (.kls ns) (.lst []) [] = some false := by
        cases ns with
        | nil => exact absurd rfl h2
        | cons n ns =>
          have := plainL_map (n := 59) PV.int (fun _ => rfl) (n :: ns)
          simp only [cmpV, res, plain, this, plainL, Bool.and_self, if_true]
          rfl
      have h4 : 0 < (ns.length : Int) := by have := List.length_pos_iff.mpr h2; omega
      rw [if_neg h2]
      simp [fv__law_cell, m__law_cell, runFnV, execsV, execV.eq_1, execV.eq_2, execV.eq_3, execV.eq_4, execV.eq_6, execV.eq_7, execV.eq_8, execV.eq_10, execV.eq_11, execV.eq_12, execV.eq_13, execV.eq_14, execV.eq_15, evalV, evalsT, evalsA, evalsS, evalOV, sourceV, srcFor, seqE, wipeV, assignNV, ownL, ownX, frzV, notBox, finV, seqV, partI, pureM, mask, boxLt, boxLtL, boxLtD, h1', h3, b_mod h4, i_kls (Int.emod_nonneg k (by omega)) (Int.emod_lt_of_pos k h4), b_mulR (j := 31) (by decide)]
theorem v__law_pick (n : Nat) (ns : List Int) (k m : Int) (hk : 0 ≤ k) (hm : 0 < m) : fv (n + 2) i__law_pick [⟨.tree, .kls ns⟩, ⟨.tree, .int k⟩, ⟨.tree, .int m⟩] = .ok ⟨.tree, .int (pick ns k m)⟩ := by
  have e1 := v__law_cell n ns k hk
  have h0 : 0 ≤ (cell ns k + 6151 * (k + 1)) * 40692 % 2147483399 := Int.emod_nonneg _ (by decide)
  have h1 : (cell ns k + 6151 * (k + 1)) * 40692 % 2147483399 < 2147483399 := Int.emod_lt_of_pos _ (by decide)
  unfold pick
  generalize hd : (cell ns k + 6151 * (k + 1)) * 40692 % 2147483399 = d at h0 h1
  have hd' : -big < d ∧ d < big := by unfold big; omega
  simp [fv__law_pick, m__law_pick, runFnV, execsV, execV.eq_1, execV.eq_2, execV.eq_3, execV.eq_4, execV.eq_6, execV.eq_7, execV.eq_8, execV.eq_10, execV.eq_11, execV.eq_12, execV.eq_13, execV.eq_14, execV.eq_15, evalV, evalsT, evalsA, evalsS, evalOV, sourceV, srcFor, seqE, wipeV, assignNV, ownL, ownX, frzV, notBox, finV, seqV, partI, pureM, mask, boxLt, boxLtL, boxLtD, e1, b_mulL (i := 6151) (by decide), b_mulR (j := 40692) (by decide), b_mod (j := 2147483399) (by decide), hd, b_mulL hd', b_div (j := 31) (by decide), b_mod (j := 2147483629) (by decide), b_mod hm]
def letter (i : Int) : Char := abc.getD i.toNat 'a'
theorem i_abc {i : Int} (h : 0 ≤ i) (h2 : i < 26) : idxf (.str abc) (.int i) [] = .ok (.str [letter i]) [] := by
  have h3 : i.toNat < abc.length := by show i.toNat < 26; omega
  show (if abc.length ≤ sizeLine then (match L2.atI abc i with | some c => R.ok (PV.str [c]) [] | none => .bad) else .bad) = _
  rw [atI_nn _ _ h, List.getElem?_eq_getElem h3, if_pos (by decide)]
  show R.ok (PV.str [abc[i.toNat]]) [] = R.ok (PV.str [abc.getD i.toNat 'a']) []
  rw [getD_at h3]
def drawKey (ns : List Int) (k : Int) : Tx := if pick ns k 16 > 0 then (if pick ns k 16 % 3 = 0 then ['a'] else if pick ns k 16 % 3 = 1 then ['b'] else ['a', 'b'])
  else if pick ns (k + 2) 2 = 0 then [letter (pick ns (k + 1) 26)] else [letter (pick ns (k + 1) 26), letter (pick ns (k + 3) 26)]
theorem v__law_key (n : Nat) (ns : List Int) (k : Int) (hk : 0 ≤ k) : fv (n + 3) i__law_key [⟨.tree, .kls ns⟩, ⟨.tree, .int k⟩] = .ok ⟨.tree, .str (drawKey ns k)⟩ := by
  unfold drawKey
  have e1 := v__law_pick n ns k 16 hk (by decide)
  have e2 := v__law_pick n ns (k + 1) 26 (by omega) (by decide)
  have e3 := v__law_pick n ns (k + 2) 2 (by omega) (by decide)
  have e4 := v__law_pick n ns (k + 3) 26 (by omega) (by decide)
  have n1 := pick_nn ns (k + 1) 26 (by decide)
  have n2 := pick_lt ns (k + 1) 26 (by decide)
  have n3 := pick_nn ns (k + 3) 26 (by decide)
  have n4 := pick_lt ns (k + 3) 26 (by decide)
  by_cases h : pick ns k 16 > 0
  · have h0 := Int.emod_nonneg (pick ns k 16) (by decide : (3 : Int) ≠ 0)
    have h1 := Int.emod_lt_of_pos (pick ns k 16) (by decide : (0 : Int) < 3)
    have h5 : (pick ns k 16 % 3 = 0) ∨ (pick ns k 16 % 3 = 1) ∨ (pick ns k 16 % 3 = 2) := by omega
    rcases h5 with h5 | h5 | h5 <;> simp [fv__law_key, m__law_key, runFnV, execsV, execV.eq_1, execV.eq_2, execV.eq_3, execV.eq_4, execV.eq_6, execV.eq_7, execV.eq_8, execV.eq_10, execV.eq_11, execV.eq_12, execV.eq_13, execV.eq_14, execV.eq_15, evalV, evalsT, evalsA, evalsS, evalOV, sourceV, srcFor, seqE, wipeV, assignNV, ownL, ownX, frzV, notBox, finV, seqV, partI, pureM, mask, boxLt, boxLtL, boxLtD, e1, h, b_mod (j := 3) (by decide), h5, i_lst]
  · by_cases h6 : pick ns (k + 2) 2 = 0
    · simp [fv__law_key, m__law_key, runFnV, execsV, execV.eq_1, execV.eq_2, execV.eq_3, execV.eq_4, execV.eq_6, execV.eq_7, execV.eq_8, execV.eq_10, execV.eq_11, execV.eq_12, execV.eq_13, execV.eq_14, execV.eq_15, evalV, evalsT, evalsA, evalsS, evalOV, sourceV, srcFor, seqE, wipeV, assignNV, ownL, ownX, frzV, notBox, finV, seqV, partI, pureM, mask, boxLt, boxLtL, boxLtD, e1, e2, e3, h, i_abc n1 n2, h6]
    · simp [fv__law_key, m__law_key, runFnV, execsV, execV.eq_1, execV.eq_2, execV.eq_3, execV.eq_4, execV.eq_6, execV.eq_7, execV.eq_8, execV.eq_10, execV.eq_11, execV.eq_12, execV.eq_13, execV.eq_14, execV.eq_15, evalV, evalsT, evalsA, evalsS, evalOV, sourceV, srcFor, seqE, wipeV, assignNV, ownL, ownX, frzV, notBox, finV, seqV, partI, pureM, mask, boxLt, boxLtL, boxLtD, e1, e2, e3, e4, h, i_abc n1 n2, i_abc n3 n4, h6, b_cat]
def drawNum (ns : List Int) (k most : Int) : Int := if pick ns k 8 = 0 then pick ns (k + 1) (2 * most + 1) - most else pick ns (k + 1) 9 - 4
theorem v__law_number (n : Nat) (ns : List Int) (k most : Int) (hk : 0 ≤ k) (hm : 0 ≤ most) : fv (n + 3) i__law_number [⟨.tree, .kls ns⟩, ⟨.tree, .int k⟩, ⟨.tree, .int most⟩] = .ok ⟨.tree, .int (drawNum ns k most)⟩ := by
  unfold drawNum
  have e1 := v__law_pick n ns k 8 hk (by decide)
  have e2 := v__law_pick n ns (k + 1) (2 * most + 1) (by omega) (by omega)
  have e3 := v__law_pick n ns (k + 1) 9 (by omega) (by decide)
  by_cases h : pick ns k 8 = 0 <;> simp [fv__law_number, m__law_number, runFnV, execsV, execV.eq_1, execV.eq_2, execV.eq_3, execV.eq_4, execV.eq_6, execV.eq_7, execV.eq_8, execV.eq_10, execV.eq_11, execV.eq_12, execV.eq_13, execV.eq_14, execV.eq_15, evalV, evalsT, evalsA, evalsS, evalOV, sourceV, srcFor, seqE, wipeV, assignNV, ownL, ownX, frzV, notBox, finV, seqV, partI, pureM, mask, boxLt, boxLtL, boxLtD, e1, e2, e3, h, b_mulL (i := 2) (by decide)]
def nextMo (ns : List Int) (p far : Int) (k : Nat) (mo : Int) : Int := if mo + pick ns (p + 10 + 8 * k) far < 99 then mo + pick ns (p + 10 + 8 * k) far else 99
def rowsFrom (ns : List Int) (p far : Int) : Nat → Nat → Int → List Row
  | 0, _, _ => []
  | n + 1, k, mo => (nextMo ns p far k mo, drawKey ns (p + 10 + 8 * k + 1), drawNum ns (p + 10 + 8 * k + 5) 99) :: rowsFrom ns p far n (k + 1) (nextMo ns p far k mo)
def farOf (i : Int) : Int := if i = 0 then 1 else if i = 1 then 3 else if i = 2 then 6 else 14
def drawRows (ns : List Int) (p most : Int) : List Row := rowsFrom ns p (farOf (pick ns (p + 1) 4)) (pick ns (p + 2) (most + 1)).toNat 0 (pick ns p 9)
theorem rowsFrom_len (ns : List Int) (p far : Int) : ∀ (n k : Nat) (mo : Int), (rowsFrom ns p far n k mo).length = n
  | 0, _, _ => rfl
  | n + 1, k, mo => by simp [rowsFrom, rowsFrom_len ns p far n]
theorem far_idx {i : Int} (h : 0 ≤ i) (h2 : i < 4) : idxf (.lst [.int 1, .int 3, .int 6, .int 14]) (.int i) [] = .ok (.int (farOf i)) [] := by
  have h3 : i = 0 ∨ i = 1 ∨ i = 2 ∨ i = 3 := by omega
  rcases h3 with rfl | rfl | rfl | rfl <;> rfl
theorem far_pos (i : Int) : 0 < farOf i := by unfold farOf; split <;> (try split) <;> (try split) <;> decide
def rowsE (ns : List Int) (p most far : Int) (s : Int × List Row) : VEnv := [some ⟨.tree, .kls ns⟩, some ⟨.tree, .int p⟩, some ⟨.tree, .int most⟩, some ⟨.own, .lst (s.2.map rowV)⟩, some ⟨.tree, .int s.1⟩, some ⟨.tree, .int far⟩, none, none]
def rowsStep (ns : List Int) (p far : Int) (s : Int × List Row) (k : Nat) : Int × List Row := (nextMo ns p far k s.1, s.2 ++ [(nextMo ns p far k s.1, drawKey ns (p + 10 + 8 * k + 1), drawNum ns (p + 10 + 8 * k + 5) 99)])
theorem rows_fold (ns : List Int) (p far : Int) : ∀ (n k : Nat) (mo : Int) (acc : List Row), ((List.range' k n).foldl (rowsStep ns p far) (mo, acc)).2 = acc ++ rowsFrom ns p far n k mo
  | 0, k, mo, acc => by simp [rowsFrom]
  | n + 1, k, mo, acc => by
    rw [List.range'_succ, List.foldl_cons]
    show ((List.range' (k + 1) n).foldl (rowsStep ns p far) (nextMo ns p far k mo, _)).2 = _
    rw [rows_fold ns p far n (k + 1)]
    simp [rowsFrom]
theorem v__law_rows (n : Nat) (ns : List Int) (p most : Int) (hp : 0 ≤ p) (hm : 0 ≤ most) (hm2 : most ≤ 900) : fv (n + 4) i__law_rows [⟨.tree, .kls ns⟩, ⟨.tree, .int p⟩, ⟨.tree, .int most⟩] = .ok ⟨.tree, .lst ((drawRows ns p most).map rowV)⟩ := by
  have n1 := pick_nn ns (p + 2) (most + 1) (by omega)
  have n2 := pick_lt ns (p + 2) (most + 1) (by omega)
  have e1 := v__law_pick (n + 1) ns p 9 hp (by decide)
  have e2 := v__law_pick (n + 1) ns (p + 1) 4 (by omega) (by decide)
  have e3 := v__law_pick (n + 1) ns (p + 2) (most + 1) (by omega) (by omega)
  have e4 := far_idx (pick_nn ns (p + 1) 4 (by decide)) (pick_lt ns (p + 1) 4 (by decide))
  have hr : (pick ns (p + 2) (most + 1) < 1000000000 ∧ -1000000000 < pick ns (p + 2) (most + 1)) := by omega
  have hf := far_pos (pick ns (p + 1) 4)
  generalize hF : farOf (pick ns (p + 1) 4) = far at e4 hf
  have loop := forV_inv (b := bodyV (gv ((n + 3))) (.name 6) b__law_rows_0) (ρ0 := rowsE ns p most far (pick ns p 9, [])) (rowsE ns p most far) (rowsStep ns p far) (fun r s => s.2.length + r.length ≤ 1000) (fun (k : Nat) => .int k) (fun k r s hs => by
      have f1 := v__law_pick (n + 1) ns (p + 10 + 8 * k) far (by omega) hf
      have f2 := v__law_key n ns (p + 10 + 8 * k + 1) (by omega)
      have f3 := v__law_number n ns (p + 10 + 8 * k + 5) 99 (by omega) (by decide)
      have hz : s.2.length < 16777216 := by simp only [List.length_cons] at hs; omega
      constructor
      · simp [b__law_rows_0, rowsE, runFnV, execsV, execV.eq_1, execV.eq_2, execV.eq_3, execV.eq_4, execV.eq_6, execV.eq_7, execV.eq_8, execV.eq_10, execV.eq_11, execV.eq_12, execV.eq_13, execV.eq_14, execV.eq_15, evalV, evalsT, evalsA, evalsS, evalOV, sourceV, srcFor, seqE, wipeV, assignNV, ownL, ownX, frzV, notBox, finV, seqV, partI, pureM, mask, boxLt, boxLtL, boxLtD, b_mulL (i := 8) (by decide), f1, f2, f3, hz, rowsStep, rowV, nextMo]
      · simp only [rowsStep, List.length_append, List.length_cons, List.length_nil] at hs ⊢
        omega) (List.range (pick ns (p + 2) (most + 1)).toNat) (pick ns p 9, []) (by simp; omega)
  have loop := loop.1
  rw [List.range_eq_range'] at loop
  have fold := rows_fold ns p far (pick ns (p + 2) (most + 1)).toNat 0 (pick ns p 9) []
  generalize (List.foldl (rowsStep ns p far) (pick ns p 9, []) (List.range' 0 (pick ns (p + 2) (most + 1)).toNat)) = z at loop fold
  rw [← List.range_eq_range'] at loop
  simp only [rowsE, List.map_nil] at loop
  simp [fv__law_rows, m__law_rows, runFnV, execsV, execV.eq_1, execV.eq_2, execV.eq_3, execV.eq_4, execV.eq_6, execV.eq_7, execV.eq_8, execV.eq_10, execV.eq_11, execV.eq_12, execV.eq_13, execV.eq_14, execV.eq_15, evalV, evalsT, evalsA, evalsS, evalOV, sourceV, srcFor, seqE, wipeV, assignNV, ownL, ownX, frzV, notBox, finV, seqV, partI, pureM, mask, boxLt, boxLtL, boxLtD, e1, e2, e3, e4, hr, hF, loop, drawRows, fold]
end Z

set_option maxHeartbeats 200000
set_option maxRecDepth 512
set_option maxRecDepth 100000
/-! sorted lists, sets, dicts with typed keys. -/
namespace Z
/-- what can be a key, and be sorted -/
class OK (κ : Type) where
  e : κ → PV
  d : κ → DK
  lt : κ → κ → Bool
  dec : DecidableEq κ
  irr : ∀ a, lt a a = false
  tra : ∀ a b c, lt a b = true → lt b c = true → lt a c = true
  tri : ∀ a b, lt a b = true ∨ a = b ∨ lt b a = true
  ltE : ∀ a b, ltP (e a) (e b) = lt a b
  eqE : ∀ a b, eqv (e a) (e b) = decide (a = b)
  like : ∀ a b, likeP (e a) (e b) = true
  plain : ∀ a n, Z.plain (n + 3) (e a) = true
  kd : ∀ a, dkV (d a) = e a
  inj : ∀ a b, d a = d b → a = b
  isA : ∀ a, isT (d a) = false
  ato : ∀ a, atomP (e a) = true
  key : ∀ a, keyOf (e a) = some (d a)
  bx : ∀ a n, boxLt n (e a) = true
instance {κ : Type} [o : OK κ] : DecidableEq κ := o.dec
instance iInt : OK Int where
  e := .int
  d i := .a (.i i)
  lt a b := decide (a < b)
  dec := inferInstance
  irr a := by simp
  tra a b c := by simp; omega
  tri a b := by simp; omega
  ltE a b := by simp only [ltP]
  eqE a b := by simp only [eqv]; rfl
  like a b := by simp only [likeP]
  plain a n := by simp only [Z.plain]
  kd a := rfl
  inj a b h := by simpa using h
  isA a := rfl
  ato a := rfl
  key a := rfl
  bx a n := by simp only [boxLt]
theorem tx_inj {a b : Tx} (h : a.map Char.toNat = b.map Char.toNat) : a = b := by
  induction a generalizing b with
  | nil => cases b <;> simp_all
  | cons x a ih => cases b with
    | nil => simp at h
    | cons y b =>
      simp only [List.map_cons, List.cons.injEq] at h
      have : x = y := Char.ext (by
        have := h.1
        unfold Char.toNat at this
        exact UInt32.toNat_inj.mp this)
      rw [this, ih h.2]
instance iTx : OK Tx where
  e := .str
  d i := .a (.s i)
  lt a b := ltTx a b
  dec := inferInstance
  irr a := by simp [ltTx, List.lt_irrefl]
  tra a b c := by simp only [ltTx, decide_eq_true_eq]; exact List.lt_trans
  tri a b := by
    simp only [ltTx, decide_eq_true_eq]
    by_cases h1 : a.map Char.toNat < b.map Char.toNat
    · exact .inl h1
    · by_cases h2 : b.map Char.toNat < a.map Char.toNat
      · exact .inr (.inr h2)
      · refine .inr (.inl (tx_inj (List.le_antisymm (List.not_lt.mp h2) (List.not_lt.mp h1))))
  ltE a b := by simp only [ltP]
  eqE a b := by simp only [eqv]; by_cases h : a = b <;> simp [h]
  like a b := by simp only [likeP]
  plain a n := by simp only [Z.plain]
  kd a := rfl
  inj a b h := by simpa using h
  isA a := rfl
  ato a := rfl
  key a := rfl
  bx a n := by simp only [boxLt]
section
variable {κ β : Type} [o : OK κ]
theorem OK.asy {a b : κ} (h : OK.lt a b = true) : OK.lt b a = false := by
  cases q : OK.lt b a with
  | false => rfl
  | true => exact absurd (OK.tra a b a h q) (by rw [OK.irr]; decide)
/-- strictly sorted lists of the same things are the same -/
theorem eq_strict {α : Type} {R : α → α → Prop} (irr : ∀ a, ¬ R a a) (tra : ∀ a b c, R a b → R b c → R a c) : ∀ {A B : List α}, A.Pairwise R → B.Pairwise R → (∀ x, x ∈ A ↔ x ∈ B) → A = B
  | [], [], _, _, _ => rfl
  | [], b :: B, _, _, h => absurd ((h b).mpr List.mem_cons_self) (by simp)
  | a :: A, [], _, _, h => absurd ((h a).mp List.mem_cons_self) (by simp)
  | a :: A, b :: B, hA, hB, h => by
    have pA := List.pairwise_cons.mp hA
    have pB := List.pairwise_cons.mp hB
    have e : a = b := by
      rcases List.mem_cons.mp ((h a).mp List.mem_cons_self) with e | m
      · exact e
      · rcases List.mem_cons.mp ((h b).mpr List.mem_cons_self) with e | m2
        · exact e.symm
        · exact absurd (tra _ _ _ (pB.1 a m) (pA.1 b m2)) (irr b)
    subst e
    rw [eq_strict irr tra pA.2 pB.2 fun x => ?_]
    constructor
    · intro m
      rcases List.mem_cons.mp ((h x).mp (List.mem_cons_of_mem _ m)) with rfl | m2
      · exact absurd (pA.1 x m) (irr x)
      · exact m2
    · intro m
      rcases List.mem_cons.mp ((h x).mpr (List.mem_cons_of_mem _ m)) with rfl | m2
      · exact absurd (pB.1 x m) (irr x)
      · exact m2
/-- each thing once -/
def once : List κ → List κ
  | [] => []
  | x :: xs => if x ∈ once xs then once xs else x :: once xs
theorem mem_once {x : κ} : ∀ {xs : List κ}, x ∈ once xs ↔ x ∈ xs
  | [] => Iff.rfl
  | y :: xs => by
    unfold once
    have ih := mem_once (x := x) (xs := xs)
    split
    · rename_i h
      rw [List.mem_cons, ih]
      constructor
      · exact .inr
      · rintro (rfl | h2)
        · exact mem_once.mp h
        · exact h2
    · rw [List.mem_cons, List.mem_cons, ih]
theorem once_nodup : ∀ xs : List κ, (once xs).Nodup
  | [] => List.nodup_nil
  | y :: xs => by
    unfold once
    split
    · exact once_nodup xs
    · rename_i h
      exact List.nodup_cons.mpr ⟨h, once_nodup xs⟩
theorem once_len : ∀ xs : List κ, (once xs).length ≤ xs.length
  | [] => Nat.le_refl _
  | y :: xs => by
    have := once_len xs
    unfold once
    split
    · simp; omega
    · simp; omega
theorem onceP_map : ∀ xs : List κ, onceP (xs.map OK.e) = (once xs).map OK.e
  | [] => rfl
  | x :: xs => by
    have a : ((once xs).map OK.e).any (eqv (OK.e x)) = decide (x ∈ once xs) := by
      rw [List.any_map]
      induction once xs with
      | nil => rfl
      | cons y ys ih =>
        rw [List.any_cons, ih]
        simp only [Function.comp, OK.eqE, List.mem_cons]
        by_cases h : x = y <;> simp [h]
    simp only [List.map_cons, onceP, onceP_map xs, a, once]
    by_cases h : x ∈ once xs <;> simp [h]
def leK (a b : κ) : Bool := !OK.lt b a
theorem leK_tra (a b c : κ) (h1 : leK a b = true) (h2 : leK b c = true) : leK a c = true := by
  simp only [leK, Bool.not_eq_true'] at h1 h2 ⊢
  cases q : OK.lt c a with
  | false => rfl
  | true =>
    rcases OK.tri b c with h | rfl | h
    · rw [OK.tra b c a h q] at h1
      cases h1
    · rw [q] at h1
      cases h1
    · rw [h] at h2
      cases h2
theorem leK_tot (a b : κ) : (leK a b || leK b a) = true := by
  simp only [leK]
  cases q : OK.lt b a with
  | false => rfl
  | true => rw [OK.asy q]; rfl
/-- a set, sorted -/
def sset (xs : List κ) : List κ := (once xs).mergeSort leK
theorem mem_sset {x : κ} {xs : List κ} : x ∈ sset xs ↔ x ∈ xs := by
  unfold sset
  rw [List.mem_mergeSort, mem_once]
theorem sset_len (xs : List κ) : (sset xs).length ≤ xs.length := by
  unfold sset
  rw [List.length_mergeSort]
  exact once_len xs
theorem sorted_strict {α : Type} (f : α → κ) {l : List α} (hn : (l.map f).Nodup) : (l.mergeSort fun a b => leK (f a) (f b)).Pairwise fun a b => OK.lt (f a) (f b) = true := by
  have h1 := List.pairwise_mergeSort (le := fun a b => leK (f a) (f b)) (fun a b c => leK_tra (f a) (f b) (f c)) (fun a b => leK_tot (f a) (f b)) l
  have h2 : ((l.mergeSort fun a b => leK (f a) (f b)).map f).Nodup := ((List.mergeSort_perm l _).map f).nodup_iff.mpr hn
  have h3 : (l.mergeSort fun a b => leK (f a) (f b)).Pairwise fun a b => f a ≠ f b := List.pairwise_map.mp h2
  refine (h1.and h3).imp fun {a b} h => ?_
  have h4 := h.1
  simp only [leK, Bool.not_eq_true'] at h4
  rcases OK.tri (f a) (f b) with q | q | q
  · exact q
  · exact absurd q h.2
  · rw [q] at h4
    cases h4
theorem sset_strict (xs : List κ) : (sset xs).Pairwise fun a b => OK.lt a b = true := sorted_strict id (by rw [List.map_id]; exact once_nodup xs)
theorem sset_unique {xs ys : List κ} (h : ys.Pairwise fun a b => OK.lt a b = true) (m : ∀ x, x ∈ ys ↔ x ∈ xs) : sset xs = ys :=
  eq_strict (R := fun a b => OK.lt a b = true) (fun a => by rw [OK.irr]; decide) OK.tra (sset_strict xs) h fun x => by rw [mem_sset, m]
theorem sortP_map (xs : List κ) : sortP (xs.map OK.e) = (xs.mergeSort leK).map OK.e := by
  unfold sortP
  exact (List.map_mergeSort (r := leK) (s := leP) (f := OK.e) (l := xs) fun a _ b _ => by simp only [leK, leP, OK.ltE]).symm
theorem f_sortedSet {xs : List κ} (h : xs.length ≤ 1000) : bfn .sortedSet false [.lst (xs.map OK.e)] [] = .ok (.lst ((sset xs).map OK.e)) [] := by
  have c : okSet (xs.map OK.e) = true := by
    simp only [okSet, Bool.and_eq_true, decide_eq_true_eq, List.length_map, List.all_map, List.all_eq_true, Function.comp]
    exact ⟨⟨h, fun a _ b _ => OK.like a b⟩, fun a _ => OK.ato a⟩
  show (if okSet (xs.map OK.e) = true then mkLst false (sortP (onceP (xs.map OK.e))) [] else .bad) = _
  rw [if_pos c, onceP_map, sortP_map]
  rfl
theorem f_lenSet {xs : List κ} (h : xs.length ≤ 1000) : bfn .lenSet false [.lst (xs.map OK.e)] [] = .ok (.int (once xs).length) [] := by
  have c : okSet (xs.map OK.e) = true := by
    simp only [okSet, Bool.and_eq_true, decide_eq_true_eq, List.length_map, List.all_map, List.all_eq_true, Function.comp]
    exact ⟨⟨h, fun a _ b _ => OK.like a b⟩, fun a _ => OK.ato a⟩
  show (if okSet (xs.map OK.e) = true then R.ok (PV.int (onceP (xs.map OK.e)).length) [] else .bad) = _
  rw [if_pos c, onceP_map, List.length_map]

/-! dicts -/
def aput (l : List (κ × β)) (k : κ) (v : β) : List (κ × β) := if (l.any fun p => decide (p.1 = k)) = true then l.map (fun p => if p.1 = k then (p.1, v) else p) else l ++ [(k, v)]
def aget (l : List (κ × β)) (k : κ) : Option β := (l.find? fun p => decide (p.1 = k)).map (·.2)
def encD (f : β → PV) (l : List (κ × β)) : List (DK × PV) := l.map fun p => (OK.d p.1, f p.2)
theorem d_iff {a b : κ} : (OK.d a = OK.d b) ↔ a = b := ⟨OK.inj a b, fun h => by rw [h]⟩
theorem dput_enc (f : β → PV) (l : List (κ × β)) (k : κ) (v : β) : dput (encD f l) (OK.d k) (f v) = encD f (aput l k v) := by
  have e : ((encD f l).any fun p => decide (p.1 = OK.d k)) = l.any fun p => decide (p.1 = k) := by
    unfold encD
    rw [List.any_map]
    congr 1
    funext p
    simp only [Function.comp, d_iff]
  unfold dput aput
  rw [e]
  split
  · unfold encD
    rw [List.map_map, List.map_map]
    refine List.map_congr_left fun p _ => ?_
    simp only [Function.comp, d_iff]
    split <;> rfl
  · simp [encD]
theorem dget_enc (f : β → PV) (l : List (κ × β)) (k : κ) : dget (encD f l) (OK.d k) = (aget l k).map f := by
  unfold dget aget encD
  induction l with
  | nil => rfl
  | cons p l ih =>
    simp only [List.map_cons, List.find?_cons, d_iff]
    by_cases h : p.1 = k
    · simp [h]
    · simp only [h, decide_false]
      exact ih
theorem aput_keys (l : List (κ × β)) (k : κ) (v : β) : (aput l k v).map (·.1) = if k ∈ l.map (·.1) then l.map (·.1) else l.map (·.1) ++ [k] := by
  unfold aput
  have e : (l.any fun p => decide (p.1 = k)) = true ↔ k ∈ l.map (·.1) := by simp [List.any_eq_true, List.mem_map]
  by_cases h : k ∈ l.map (·.1)
  · rw [if_pos (e.mpr h), if_pos h, List.map_map]
    refine List.map_congr_left fun p _ => ?_
    simp only [Function.comp]
    split <;> rfl
  · rw [if_neg (fun q => h (e.mp q)), if_neg h]
    simp
theorem aput_nodup {l : List (κ × β)} (h : (l.map (·.1)).Nodup) (k : κ) (v : β) : ((aput l k v).map (·.1)).Nodup := by
  rw [aput_keys]
  split
  · exact h
  · rename_i q
    exact List.nodup_append.mpr ⟨h, by simp, by simp only [List.mem_singleton]; rintro a ha b rfl rfl; exact q ha⟩
theorem mem_aput {l : List (κ × β)} (k : κ) (v : β) (k' : κ) (v' : β) : (k', v') ∈ aput l k v ↔ if k' = k then v' = v else (k', v') ∈ l := by
  unfold aput
  split
  · rename_i h
    simp only [List.any_eq_true, decide_eq_true_eq] at h
    obtain ⟨p, hp, rfl⟩ := h
    rw [List.mem_map]
    constructor
    · rintro ⟨q, hq, e⟩
      split at e
      · rename_i q1
        cases e
        rw [if_pos q1]
      · rename_i q1
        subst e
        rw [if_neg q1]
        exact hq
    · intro h
      split at h
      · rename_i q1
        subst q1 h
        exact ⟨p, hp, by simp⟩
      · rename_i q1
        exact ⟨_, h, by rw [if_neg q1]⟩
  · rename_i h
    simp only [List.any_eq_true, decide_eq_true_eq, not_exists, not_and] at h
    rw [List.mem_append, List.mem_singleton, Prod.mk.injEq]
    by_cases q : k' = k
    · rw [if_pos q]
      subst q
      constructor
      · rintro (m | ⟨_, m⟩)
        · exact absurd rfl (h _ m)
        · exact m
      · exact fun m => .inr ⟨rfl, m⟩
    · rw [if_neg q]
      simp [q]
theorem aget_mem {l : List (κ × β)} (h : (l.map (·.1)).Nodup) {k : κ} {v : β} : aget l k = some v ↔ (k, v) ∈ l := by
  unfold aget
  induction l with
  | nil => simp
  | cons p l ih =>
    simp only [List.map_cons, List.nodup_cons] at h
    rw [List.find?_cons]
    by_cases q : p.1 = k
    · subst q
      simp only [decide_true, Option.map_some, Option.some.injEq, List.mem_cons]
      constructor
      · rintro rfl
        exact .inl rfl
      · rintro (e | m)
        · rw [← e]
        · exact absurd (List.mem_map.mpr ⟨_, m, rfl⟩) h.1
    · simp only [q, decide_false]
      rw [ih h.2, List.mem_cons]
      constructor
      · exact .inr
      · rintro (e | m)
        · exact absurd (by rw [← e]) q
        · exact m
/-- a dict of what is put in, one behind the other -/
def dictOf (ps : List (κ × β)) : List (κ × β) := ps.foldl (fun d p => aput d p.1 p.2) []
theorem dict_fold_nodup : ∀ (ps : List (κ × β)) {d : List (κ × β)}, (d.map (·.1)).Nodup → ((ps.foldl (fun d p => aput d p.1 p.2) d).map (·.1)).Nodup
  | [], _, h => h
  | p :: ps, _, h => dict_fold_nodup ps (aput_nodup h _ _)
theorem dict_nodup (ps : List (κ × β)) : ((dictOf ps).map (·.1)).Nodup := dict_fold_nodup ps (by simp)
/-- what was put last for a key -/
def lastK (ps : List (κ × β)) (k : κ) : Option β := ((ps.filter fun p => decide (p.1 = k)).map (·.2)).getLast?
theorem mem_fold : ∀ (ps : List (κ × β)) (d : List (κ × β)) (k : κ) (v : β), (k, v) ∈ ps.foldl (fun d p => aput d p.1 p.2) d ↔ (lastK ps k = some v ∨ (lastK ps k = none ∧ (k, v) ∈ d))
  | [], d, k, v => by simp [lastK]
  | p :: ps, d, k, v => by
    rw [List.foldl_cons, mem_fold ps, mem_aput]
    have e : lastK (p :: ps) k = if p.1 = k then (lastK ps k).or (some p.2) else lastK ps k := by
      unfold lastK
      rw [List.filter_cons]
      by_cases q : p.1 = k
      · simp only [q, decide_true, if_true, List.map_cons, List.getLast?_cons]
        cases ((ps.filter fun p => decide (p.1 = k)).map (·.2)).getLast? <;> rfl
      · simp [q]
    rw [e]
    by_cases q : p.1 = k
    · subst q
      simp only [if_true]
      cases lastK ps p.1 with
      | none => simp [eq_comm]
      | some w => simp
    · rw [if_neg q, if_neg (Ne.symm q)]
theorem mem_dict {ps : List (κ × β)} {k : κ} {v : β} : (k, v) ∈ dictOf ps ↔ lastK ps k = some v := by
  unfold dictOf
  rw [mem_fold]
  simp
theorem aget_dict {ps : List (κ × β)} {k : κ} : aget (dictOf ps) k = lastK ps k := by
  cases q : lastK ps k with
  | some v => exact (aget_mem (dict_nodup ps)).mpr (mem_dict.mpr q)
  | none =>
    cases r : aget (dictOf ps) k with
    | none => rfl
    | some v =>
      rw [mem_dict.mp ((aget_mem (dict_nodup ps)).mp r)] at q
      cases q
theorem dict_len : ∀ (ps : List (κ × β)) (d : List (κ × β)), (ps.foldl (fun d p => aput d p.1 p.2) d).length ≤ d.length + ps.length
  | [], d => Nat.le_refl _
  | p :: ps, d => by
    have := dict_len ps (aput d p.1 p.2)
    have h2 : (aput d p.1 p.2).length ≤ d.length + 1 := by
      unfold aput
      split <;> simp
    simp only [List.foldl_cons, List.length_cons]
    omega
/-- a dict's items, sorted by their keys -/
def itemsOf (l : List (κ × β)) : List (κ × β) := l.mergeSort fun a b => leK a.1 b.1
theorem items_strict {l : List (κ × β)} (h : (l.map (·.1)).Nodup) : (itemsOf l).Pairwise fun a b => OK.lt a.1 b.1 = true := sorted_strict (fun p : κ × β => p.1) h
theorem mem_items {l : List (κ × β)} {p : κ × β} : p ∈ itemsOf l ↔ p ∈ l := List.mem_mergeSort
theorem items_len {l : List (κ × β)} : (itemsOf l).length = l.length := List.length_mergeSort ..
def pairE (f : β → PV) (p : κ × β) : PV := .tup [OK.e p.1, f p.2]
theorem pairsP_enc (f : β → PV) : ∀ l : List (κ × β), pairsP (encD f l) = l.map (pairE f)
  | [] => rfl
  | p :: l => by
    show PV.tup [dkV (OK.d p.1), f p.2] :: pairsP (encD f l) = _
    rw [pairsP_enc f l, OK.kd]
    rfl
theorem f_sortedItems (f : β → PV) (hf : ∀ a b, likeP (f a) (f b) = true) (hp : ∀ a, plain 49 (f a) = true) {l : List (κ × β)} (hn : (l.map (·.1)).Nodup) (hl : l.length ≤ 1000) : bfn .sortedItems false [.dct false (encD f l)] [] = .ok (.lst ((itemsOf l).map (pairE f))) [] := by
  have c : okSort (pairsP (encD f l)) = true := by
    rw [pairsP_enc]
    simp only [okSort, Bool.and_eq_true, Bool.or_eq_true, decide_eq_true_eq, List.length_map, List.all_map, List.all_eq_true, Function.comp]
    refine ⟨⟨⟨hl, plainL_map _ (fun p => ?_) l⟩, fun a _ b _ => ?_⟩, .inl fun a _ => rfl⟩
    · simp only [pairE, plain, plainL, hp, OK.plain p.1 46, Bool.and_self]
    · simp only [pairE, likeP, likePs, OK.like, hf, Bool.and_self]
  show (if okSort (pairsP (encD f l)) = true then mkLst false (sortP (pairsP (encD f l))) [] else .bad) = _
  rw [if_pos c, pairsP_enc]
  unfold sortP itemsOf
  rw [List.map_mergeSort (r := fun a b => leK a.1 b.1) (s := leP) (f := pairE f)]
  · rfl
  · intro a ha b hb
    simp only [leK, leP, pairE, ltP, ltPs, OK.eqE, OK.ltE]
    by_cases q : b.1 = a.1
    · have : b = a := by
        obtain ⟨i, hi, rfl⟩ := List.mem_iff_getElem.mp ha
        obtain ⟨j, hj, rfl⟩ := List.mem_iff_getElem.mp hb
        have := (List.getElem_inj (h₀ := by simpa using hj) (h₁ := by simpa using hi) hn (i := j) (j := i)).mp (by simpa using q)
        subst this
        rfl
      subst this
      simp only [OK.irr, decide_true, if_true, eqv_rfl 49 _ (hp b.2)]
    · simp only [q, decide_false]
      try rfl
end
end Z

set_option maxHeartbeats 200000
set_option maxRecDepth 512
set_option maxRecDepth 100000
/-! look_log; what stands. -/
namespace Z
theorem row_seen {r : Row} (h : r.2.1.length ≤ 1000) : seen (rowV r) = true := by simp [seen, rowV, flat, small, h]
def rowB (r : Row) : Bool := keyT r.2.1 && (decide (0 ≤ r.1) && decide (r.1 ≤ 99) && (decide (-99 ≤ r.2.2) && decide (r.2.2 ≤ 99)))
theorem rowOk_V (r : Row) : rowOk (rowV r) = rowB r := rfl
/-- a log of right rows -/
structure Log (l : List Row) : Prop where
  ok : ∀ r ∈ l, rowB r = true
  so : sortedB l = true
  len : l.length ≤ 1000
theorem rowB_key {r : Row} (h : rowB r = true) : r.2.1.length ≤ 2 := by
  simp only [rowB, keyT, Bool.and_eq_true, decide_eq_true_eq] at h
  exact h.1.1.2
theorem v_look_log (n : Nat) (l : List Row) (h : Log l) : fv (n + 4) i_look_log [⟨.tree, .lst (l.map rowV)⟩] = .ok ⟨.tree, .none⟩ := by
  have e := v_is_log (n + 2) l (Nat.le_trans h.len (by decide))
  have loop := forV_same (b := bodyV (gv ((n + 3))) (.name 1) b_look_log_0) (ρ := [some ⟨.tree, .lst (l.map rowV)⟩, none]) rowV (xs := l) fun r hr => by
    have e2 := v_look_row n (rowV r) (row_seen (Nat.le_trans (rowB_key (h.ok r hr)) (by decide)))
    rw [rowOk_V, h.ok r hr] at e2
    simp [b_look_log_0, runFnV, execsV, execV.eq_1, execV.eq_2, execV.eq_3, execV.eq_4, execV.eq_6, execV.eq_7, execV.eq_8, execV.eq_10, execV.eq_11, execV.eq_12, execV.eq_13, execV.eq_14, execV.eq_15, evalV, evalsT, evalsA, evalsS, evalOV, sourceV, srcFor, seqE, wipeV, assignNV, ownL, ownX, frzV, notBox, finV, seqV, partI, pureM, mask, boxLt, boxLtL, boxLtD, e2]
  simp [fv_look_log, m_look_log, runFnV, execsV, execV.eq_1, execV.eq_2, execV.eq_3, execV.eq_4, execV.eq_6, execV.eq_7, execV.eq_8, execV.eq_10, execV.eq_11, execV.eq_12, execV.eq_13, execV.eq_14, execV.eq_15, evalV, evalsT, evalsA, evalsS, evalOV, sourceV, srcFor, seqE, wipeV, assignNV, ownL, ownX, frzV, notBox, finV, seqV, partI, pureM, mask, boxLt, boxLtL, boxLtD, loop, e, h.so]
theorem v_look_moment (n : Nat) (m : Int) (h : 0 ≤ m ∧ m ≤ 999) : fv (n + 2) i_look_moment [⟨.tree, .int m⟩] = .ok ⟨.tree, .none⟩ := by
  have e := v_is_whole n (.int m) 0 999 rfl
  simp [wholeV, h.1, h.2] at e
  simp [fv_look_moment, m_look_moment, runFnV, execsV, execV.eq_1, execV.eq_2, execV.eq_3, execV.eq_4, execV.eq_6, execV.eq_7, execV.eq_8, execV.eq_10, execV.eq_11, execV.eq_12, execV.eq_13, execV.eq_14, execV.eq_15, evalV, evalsT, evalsA, evalsS, evalOV, sourceV, srcFor, seqE, wipeV, assignNV, ownL, ownX, frzV, notBox, finV, seqV, partI, pureM, mask, boxLt, boxLtL, boxLtD, e]
theorem foldl_filter_map {α β σ : Type} (p : α → Bool) (g : α → β) (f : σ → β → σ) : ∀ (l : List α) (s : σ), l.foldl (fun s a => if p a then f s (g a) else s) s = ((l.filter p).map g).foldl f s
  | [], _ => rfl
  | a :: l, s => by
    rw [List.foldl_cons, List.filter_cons, foldl_filter_map p g f l]
    by_cases h : p a = true <;> simp [h]
def atM (l : List Row) (m : Int) : List (Tx × Int) := itemsOf (dictOf ((l.filter fun r => decide (r.1 ≤ m)).map (·.2)))
def hist (l : List Row) (k : Tx) : List (Int × Int) := itemsOf (dictOf ((l.filter fun r => decide (r.2.1 = k)).map fun r => (r.1, r.2.2)))
theorem dput_s (l : List (Tx × Int)) (k : Tx) (v : Int) : dput (encD .int l) (.a (.s k)) (.int v) = encD .int (aput l k v) := dput_enc .int l k v
theorem dput_i (l : List (Int × Int)) (k : Int) (v : Int) : dput (encD .int l) (.a (.i k)) (.int v) = encD .int (aput l k v) := dput_enc .int l k v
@[simp] theorem key_s {s : Tx} : keyOf (.str s) = some (.a (.s s)) := rfl
@[simp] theorem key_i {s : Int} : keyOf (.int s) = some (.a (.i s)) := rfl
@[simp] theorem isT_a {k : KA} : isT (.a k) = false := rfl
@[simp] theorem encD_len {κ β : Type} [OK κ] {f : β → PV} {l : List (κ × β)} : (encD f l).length = l.length := by simp [encD]
theorem pairI_box {κ : Type} [OK κ] {n : Nat} (p : κ × Int) : boxLt n (pairE .int p) = true := by simp [pairE, boxLt, boxLtL, OK.bx]
@[simp] theorem pairsI_box {κ : Type} [OK κ] {n : Nat} (l : List (κ × Int)) : boxLtL n (l.map (pairE .int)) = true := boxLtL_map _ (fun _ => pairI_box _) _
theorem v_at_moment (n : Nat) (l : List Row) (m : Int) (h : Log l) (hm : 0 ≤ m ∧ m ≤ 999) : fv (n + 5) i_at_moment [⟨.tree, .lst (l.map rowV)⟩, ⟨.tree, .int m⟩] = .ok ⟨.tree, .lst ((atM l m).map (pairE .int))⟩ := by
  have e1 := v_look_log n l h
  have e2 := v_look_moment (n + 2) m hm
  have loop := forV_inv (b := bodyV (gv ((n + 4))) (.name 3) b_at_moment_0) (ρ0 := [some ⟨.tree, .lst (l.map rowV)⟩, some ⟨.tree, .int m⟩, some ⟨.own, .dct false []⟩, none])
    (fun d : List (Tx × Int) => [some ⟨.tree, .lst (l.map rowV)⟩, some ⟨.tree, .int m⟩, some ⟨.own, .dct false (encD .int d)⟩, none]) (fun d r => if decide (r.1 ≤ m) = true then aput d r.2.1 r.2.2 else d) (fun r d => d.length + r.length ≤ 1000) rowV (fun r rs d hd => by
      have hz : d.length < 16777216 := by simp only [List.length_cons] at hd; omega
      constructor
      · by_cases c : r.1 ≤ m <;> simp [b_at_moment_0, runFnV, execsV, execV.eq_1, execV.eq_2, execV.eq_3, execV.eq_4, execV.eq_6, execV.eq_7, execV.eq_8, execV.eq_10, execV.eq_11, execV.eq_12, execV.eq_13, execV.eq_14, execV.eq_15, evalV, evalsT, evalsA, evalsS, evalOV, sourceV, srcFor, seqE, wipeV, assignNV, ownL, ownX, frzV, notBox, finV, seqV, partI, pureM, mask, boxLt, boxLtL, boxLtD, c, setV, hz, dput_s]
      · simp only [List.length_cons] at hd ⊢
        split
        · unfold aput
          split <;> simp <;> omega
        · omega) l [] (by simpa using h.len)
  have loop := loop.1
  simp only [encD, List.map_nil] at loop
  have e3 := f_sortedItems (κ := Tx) PV.int (fun _ _ => rfl) (fun _ => rfl) (dict_nodup ((l.filter fun r => decide (r.1 ≤ m)).map (·.2))) (by
    have := dict_len ((l.filter fun r => decide (r.1 ≤ m)).map (·.2)) []
    have h2 := List.length_filter_le (fun r : Row => decide (r.1 ≤ m)) l
    have h3 := h.len
    simp only [List.length_map, List.length_nil] at this
    unfold dictOf
    omega)
  rw [foldl_filter_map (fun r : Row => decide (r.1 ≤ m)) (·.2) (fun d p => aput d p.1 p.2)] at loop
  simp only [encD, dictOf] at e3
  simp [fv_at_moment, m_at_moment, runFnV, execsV, execV.eq_1, execV.eq_2, execV.eq_3, execV.eq_4, execV.eq_6, execV.eq_7, execV.eq_8, execV.eq_10, execV.eq_11, execV.eq_12, execV.eq_13, execV.eq_14, execV.eq_15, evalV, evalsT, evalsA, evalsS, evalOV, sourceV, srcFor, seqE, wipeV, assignNV, ownL, ownX, frzV, notBox, finV, seqV, partI, pureM, mask, boxLt, boxLtL, boxLtD, e1, e2, loop, e3, atM, dictOf]
theorem v_history (n : Nat) (l : List Row) (k : Tx) (h : Log l) : fv (n + 5) i_history [⟨.tree, .lst (l.map rowV)⟩, ⟨.tree, .str k⟩] = .ok ⟨.tree, .lst ((hist l k).map (pairE .int))⟩ := by
  have e1 := v_look_log n l h
  have loop := forV_inv (b := bodyV (gv ((n + 4))) (.name 3) b_history_0) (ρ0 := [some ⟨.tree, .lst (l.map rowV)⟩, some ⟨.tree, .str k⟩, some ⟨.own, .dct false []⟩, none])
    (fun d : List (Int × Int) => [some ⟨.tree, .lst (l.map rowV)⟩, some ⟨.tree, .str k⟩, some ⟨.own, .dct false (encD .int d)⟩, none]) (fun d r => if decide (r.2.1 = k) = true then aput d r.1 r.2.2 else d) (fun r d => d.length + r.length ≤ 1000) rowV (fun r rs d hd => by
      have hz : d.length < 16777216 := by simp only [List.length_cons] at hd; omega
      constructor
      · by_cases c : r.2.1 = k <;> simp [b_history_0, runFnV, execsV, execV.eq_1, execV.eq_2, execV.eq_3, execV.eq_4, execV.eq_6, execV.eq_7, execV.eq_8, execV.eq_10, execV.eq_11, execV.eq_12, execV.eq_13, execV.eq_14, execV.eq_15, evalV, evalsT, evalsA, evalsS, evalOV, sourceV, srcFor, seqE, wipeV, assignNV, ownL, ownX, frzV, notBox, finV, seqV, partI, pureM, mask, boxLt, boxLtL, boxLtD, c, setV, hz, dput_i]
      · simp only [List.length_cons] at hd ⊢
        split
        · unfold aput
          split <;> simp <;> omega
        · omega) l [] (by simpa using h.len)
  have loop := loop.1
  simp only [encD, List.map_nil] at loop
  have e3 := f_sortedItems (κ := Int) PV.int (fun _ _ => rfl) (fun _ => rfl) (dict_nodup ((l.filter fun r => decide (r.2.1 = k)).map fun r => (r.1, r.2.2))) (by
    have := dict_len ((l.filter fun r => decide (r.2.1 = k)).map fun r => (r.1, r.2.2)) []
    have h2 := List.length_filter_le (fun r : Row => decide (r.2.1 = k)) l
    have h3 := h.len
    simp only [List.length_map, List.length_nil] at this
    unfold dictOf
    omega)
  rw [foldl_filter_map (fun r : Row => decide (r.2.1 = k)) (fun r => (r.1, r.2.2)) (fun d p => aput d p.1 p.2)] at loop
  simp only [encD, dictOf] at e3
  simp [fv_history, m_history, runFnV, execsV, execV.eq_1, execV.eq_2, execV.eq_3, execV.eq_4, execV.eq_6, execV.eq_7, execV.eq_8, execV.eq_10, execV.eq_11, execV.eq_12, execV.eq_13, execV.eq_14, execV.eq_15, evalV, evalsT, evalsA, evalsS, evalOV, sourceV, srcFor, seqE, wipeV, assignNV, ownL, ownX, frzV, notBox, finV, seqV, partI, pureM, mask, boxLt, boxLtL, boxLtD, e1, loop, e3, hist, dictOf]
end Z

set_option maxHeartbeats 200000
set_option maxRecDepth 512
set_option maxRecDepth 100000
/-! what is drawn is a log. -/
namespace Z
theorem letter_in {i : Int} (h : 0 ≤ i) (h2 : i < 26) : letter i ∈ abc := by
  have h3 : i.toNat < abc.length := by show i.toNat < 26; omega
  unfold letter
  rw [getD_at h3]
  exact List.getElem_mem h3
theorem keyT1 {c : Char} (h : c ∈ abc) : keyT [c] = true := by
  show (decide (1 ≤ 1) && decide (1 ≤ 2) && (decide (c ∈ abc) && true)) = true
  rw [decide_eq_true h]
  rfl
theorem keyT2 {c d : Char} (h : c ∈ abc) (h2 : d ∈ abc) : keyT [c, d] = true := by
  show (decide (1 ≤ 2) && decide (2 ≤ 2) && (decide (c ∈ abc) && (decide (d ∈ abc) && true))) = true
  rw [decide_eq_true h, decide_eq_true h2]
  rfl
theorem drawKey_ok (ns : List Int) (k : Int) : keyT (drawKey ns k) = true := by
  have n1 := letter_in (pick_nn ns (k + 1) 26 (by decide)) (pick_lt ns (k + 1) 26 (by decide))
  have n3 := letter_in (pick_nn ns (k + 3) 26 (by decide)) (pick_lt ns (k + 3) 26 (by decide))
  unfold drawKey
  split
  · split
    · decide
    · split <;> decide
  · split
    · exact keyT1 n1
    · exact keyT2 n1 n3
theorem drawNum_ok (ns : List Int) (k most : Int) (h : 4 ≤ most) : -most ≤ drawNum ns k most ∧ drawNum ns k most ≤ most := by
  have a1 := pick_nn ns (k + 1) (2 * most + 1) (by omega)
  have a2 := pick_lt ns (k + 1) (2 * most + 1) (by omega)
  have b1 := pick_nn ns (k + 1) 9 (by decide)
  have b2 := pick_lt ns (k + 1) 9 (by decide)
  unfold drawNum
  split <;> omega
theorem rows_log (ns : List Int) (p far : Int) (hf : 0 < far) : ∀ (n k : Nat) (mo : Int), 0 ≤ mo → mo ≤ 99 → (∀ r ∈ rowsFrom ns p far n k mo, rowB r = true ∧ mo ≤ r.1) ∧ sortedB (rowsFrom ns p far n k mo) = true
  | 0, k, mo, h0, h1 => ⟨fun r h => by simp [rowsFrom] at h, rfl⟩
  | n + 1, k, mo, h0, h1 => by
    have q := pick_nn ns (p + 10 + 8 * k) far hf
    have hb : mo ≤ nextMo ns p far k mo ∧ nextMo ns p far k mo ≤ 99 := by
      unfold nextMo
      split <;> omega
    obtain ⟨i1, i2⟩ := rows_log ns p far hf n (k + 1) (nextMo ns p far k mo) (by omega) hb.2
    have hn := drawNum_ok ns (p + 10 + 8 * k + 5) 99 (by decide)
    unfold rowsFrom
    refine ⟨fun r h => ?_, ?_⟩
    · rcases List.mem_cons.mp h with rfl | h
      · refine ⟨?_, hb.1⟩
        simp only [rowB, drawKey_ok, Bool.true_and, Bool.and_eq_true, decide_eq_true_eq]
        omega
      · have := i1 r h
        exact ⟨this.1, by omega⟩
    · generalize rowsFrom ns p far n (k + 1) (nextMo ns p far k mo) = l at i1 i2
      cases l with
      | nil => rfl
      | cons b l =>
        have := i1 b List.mem_cons_self
        simp [sortedB, this.2, i2]
theorem draw_len (ns : List Int) (p most : Int) (hm : 0 ≤ most) : ((drawRows ns p most).length : Int) ≤ most := by
  have n3 := pick_nn ns (p + 2) (most + 1) (by omega)
  have n4 := pick_lt ns (p + 2) (most + 1) (by omega)
  unfold drawRows
  rw [rowsFrom_len]
  omega
theorem draw_log (ns : List Int) (p most : Int) (hm : 0 ≤ most) (hm2 : most ≤ 900) : Log (drawRows ns p most) := by
  have n1 := pick_nn ns p 9 (by decide)
  have n2 := pick_lt ns p 9 (by decide)
  obtain ⟨h1, h2⟩ := rows_log ns p (farOf (pick ns (p + 1) 4)) (far_pos _) (pick ns (p + 2) (most + 1)).toNat 0 (pick ns p 9) (by omega) (by omega)
  refine ⟨fun r h => (h1 r h).1, h2, ?_⟩
  have := draw_len ns p most hm
  omega
end Z

set_option maxHeartbeats 200000
set_option maxRecDepth 512
set_option maxRecDepth 100000
/-! more steps. -/
namespace Z
mutual
theorem plain_up : ∀ (n : Nat) (x : PV), plain n x = true → plain (n + 1) x = true
  | _, .none, _ | _, .bool _, _ | _, .int _, _ | _, .str _, _ => by simp only [plain]
  | n + 1, .tup xs, h => by simp only [plain] at h ⊢; exact plainL_up n xs h
  | n + 1, .lst xs, h => by simp only [plain] at h ⊢; exact plainL_up n xs h
theorem plainL_up : ∀ (n : Nat) (xs : List PV), plainL n xs = true → plainL (n + 1) xs = true
  | _, [], _ => by simp only [plainL]
  | n, x :: xs, h => by
    simp only [plainL, Bool.and_eq_true] at h ⊢
    exact ⟨plain_up n x h.1, plainL_up n xs h.2⟩
end
theorem idx_last {xs : List PV} : idxf (.lst xs) (.int (-1)) [] = ofOpt xs.getLast? [] := by
  show ofOpt (L2.atI xs (-1)) [] = _
  congr 1
  unfold L2.atI L2.ixN
  cases xs with
  | nil => rfl
  | cons x xs =>
    have h : -((x :: xs).length : Int) ≤ -1 := by simp only [List.length_cons]; omega
    rw [if_neg (by decide), if_pos h]
    simp only [Option.bind_some]
    rw [List.getLast?_eq_getElem?]
    congr 1
    simp only [List.length_cons]
    omega
theorem l_eqNil {α : Type} {f : α → PV} {xs : List α} (hf : ∀ a, plain 59 (f a) = true) : cmpV .eq (.lst (xs.map f)) (.lst []) [] = some (decide (xs = [])) := by
  have h := plainL_map f hf xs
  cases xs with
  | nil => rfl
  | cons x xs =>
    simp only [cmpV, res, plain, h, plainL, Bool.and_self, if_true]
    simp [eqv, eqvL]
theorem l_neNil {α : Type} {f : α → PV} {xs : List α} (hf : ∀ a, plain 59 (f a) = true) : cmpV .ne (.lst (xs.map f)) (.lst []) [] = some (!decide (xs = [])) := by
  have h := plainL_map f hf xs
  cases xs with
  | nil => rfl
  | cons x xs =>
    simp only [cmpV, res, plain, h, plainL, Bool.and_self, if_true]
    simp [eqv, eqvL]
@[simp] theorem l_eqNil0 : cmpV .eq (.lst []) (.lst []) [] = some true := rfl
@[simp] theorem l_neNil0 : cmpV .ne (.lst []) (.lst []) [] = some false := rfl
theorem gss {ρ : VEnv} {i : Nat} {x : Option SV} (n : Nat) (h : n < ρ.length) (hi : i ≤ n) : (ρ.set i x)[i]? = some x := List.getElem?_set_self (by omega)
theorem l_inL {y : PV} {ys : List PV} (h : y ∈ ys) (hp : plainL 59 ys = true) : cmpV .isIn y (.lst ys) [] = some true := by
  have h2 := plainL_all.mp hp y h
  have h3 : plain 60 y = true := by
    cases y with
    | tup xs => exact plain_up 59 _ h2
    | lst xs => exact plain_up 59 _ h2
    | _ => simp_all [plain]
  show inV [] y (.lst ys) = _
  simp only [inV, res, h3, hp, and_self, if_true]
  congr 1
  rw [List.any_eq_true]
  exact ⟨y, h, eqv_rfl 59 y h2⟩
theorem l_notInL {y : PV} {ys : List PV} (h : y ∈ ys) (hp : plainL 59 ys = true) : cmpV .notIn y (.lst ys) [] = some false := by
  have := l_inL h hp
  simp only [cmpV] at this ⊢
  rw [this]
  rfl
theorem foldl_toList {α β : Type} (g : α → Option β) : ∀ (l : List α) (d : List β), l.foldl (fun d k => d ++ (g k).toList) d = d ++ l.filterMap g
  | [], d => by simp
  | a :: l, d => by
    rw [List.foldl_cons, foldl_toList g l, List.filterMap_cons]
    cases g a <;> simp
section
variable {κ β : Type} [OK κ]
theorem filterMap_strict {ks : List κ} {g : κ → Option β} (h : ks.Pairwise fun a b => OK.lt a b = true) : (ks.filterMap fun k => (g k).map fun v => (k, v)).Pairwise fun a b => OK.lt a.1 b.1 = true := by
  refine List.pairwise_filterMap.mpr (h.imp fun {a b} q x hx y hy => ?_)
  simp only [Option.map_eq_some_iff] at hx hy
  obtain ⟨_, _, rfl⟩ := hx
  obtain ⟨_, _, rfl⟩ := hy
  exact q
theorem lastK_mem {ps : List (κ × β)} {k : κ} {v : β} (h : lastK ps k = some v) : (k, v) ∈ ps := by
  unfold lastK at h
  have := List.mem_of_getLast? h
  obtain ⟨p, hp, rfl⟩ := List.mem_map.mp this
  obtain ⟨h1, h2⟩ := List.mem_filter.mp hp
  have : p.1 = k := by simpa using h2
  subst this
  exact h1
theorem lastK_some {ps : List (κ × β)} {k : κ} {v : β} (h : (k, v) ∈ ps) : ∃ w, lastK ps k = some w := by
  unfold lastK
  have : v ∈ (ps.filter fun p => decide (p.1 = k)).map (·.2) := List.mem_map.mpr ⟨(k, v), List.mem_filter.mpr ⟨h, by simp⟩, rfl⟩
  cases q : ((ps.filter fun p => decide (p.1 = k)).map (·.2)).getLast? with
  | none =>
    rw [List.getLast?_eq_none_iff] at q
    rw [q] at this
    cases this
  | some w => exact ⟨w, rfl⟩
/-- a dict's items are told key by key -/
theorem items_keys {ps : List (κ × β)} {ks : List κ} (h : ks.Pairwise fun a b => OK.lt a b = true) (hin : ∀ p ∈ ps, p.1 ∈ ks) : itemsOf (dictOf ps) = ks.filterMap fun k => (lastK ps k).map fun v => (k, v) := by
  refine eq_strict (R := fun a b => OK.lt a.1 b.1 = true) (fun a => by rw [OK.irr]; decide) (fun a b c => OK.tra a.1 b.1 c.1) (items_strict (dict_nodup ps)) (filterMap_strict h) fun p => ?_
  obtain ⟨k, v⟩ := p
  rw [mem_items, mem_dict, List.mem_filterMap]
  constructor
  · intro q
    exact ⟨k, hin _ (lastK_mem q), by rw [q]; rfl⟩
  · rintro ⟨k', _, q⟩
    simp only [Option.map_eq_some_iff, Prod.mk.injEq] at q
    obtain ⟨v', q, rfl, rfl⟩ := q
    exact q
theorem mem_items_dict {ps : List (κ × β)} {k : κ} {v : β} : (k, v) ∈ itemsOf (dictOf ps) ↔ lastK ps k = some v := by rw [mem_items, mem_dict]
/-- the keys of a dict's items -/
theorem items_fst {ps : List (κ × β)} : (itemsOf (dictOf ps)).map (·.1) = sset (ps.map (·.1)) := by
  refine (sset_unique (List.pairwise_map.mpr (items_strict (dict_nodup ps))) fun k => ?_).symm
  rw [List.mem_map, List.mem_map]
  constructor
  · rintro ⟨⟨k, v⟩, h, rfl⟩
    exact ⟨_, lastK_mem (mem_items_dict.mp h), rfl⟩
  · rintro ⟨⟨k, v⟩, h, rfl⟩
    obtain ⟨w, q⟩ := lastK_some h
    exact ⟨(k, w), mem_items_dict.mpr q, rfl⟩
end
theorem sorted_pair : ∀ {l : List Row}, sortedB l = true → l.Pairwise fun a b => a.1 ≤ b.1
  | [], _ => .nil
  | [a], _ => by simp
  | a :: b :: r, h => by
    simp only [sortedB, Bool.and_eq_true, decide_eq_true_eq] at h
    have ih := sorted_pair h.2
    refine List.pairwise_cons.mpr ⟨fun c hc => ?_, ih⟩
    rcases List.mem_cons.mp hc with rfl | hc
    · exact h.1
    · have := (List.pairwise_cons.mp ih).1 c hc
      omega
theorem sub_len {α : Type} [DecidableEq α] : ∀ {l m : List α}, l.Nodup → (∀ x ∈ l, x ∈ m) → l.length ≤ m.length
  | [], _, _, _ => Nat.zero_le _
  | a :: l, m, hn, h => by
    have hn := List.nodup_cons.mp hn
    have h1 : a ∈ m := h a List.mem_cons_self
    have := sub_len (l := l) (m := m.erase a) hn.2 fun x hx => (List.mem_erase_of_ne (by rintro rfl; exact hn.1 hx)).mpr (h x (List.mem_cons_of_mem _ hx))
    rw [List.length_erase_of_mem h1] at this
    have := List.length_pos_of_mem h1
    simp only [List.length_cons]
    omega
theorem sset_nodup {κ : Type} [OK κ] (xs : List κ) : (sset xs).Nodup := (sset_strict xs).imp fun {a b} h e => by
  subst e
  rw [OK.irr] at h
  cases h
theorem sset_mono {κ : Type} [OK κ] {xs ys : List κ} (h : ∀ x ∈ xs, x ∈ ys) : (sset xs).length ≤ (sset ys).length :=
  sub_len (sset_nodup xs) fun x hx => mem_sset.mpr (h x (mem_sset.mp hx))
end Z

set_option maxHeartbeats 200000
set_option maxRecDepth 512
set_option maxRecDepth 100000
/-! dicts: steps. -/
namespace Z
@[simp] theorem compW_filterN {α β : Type} (g : α → β) (p : α → Prop) [DecidablePred p] (xs : List α) : compW (fun a => if p a then .ok none else .ok (some (g a))) xs = .ok ((xs.filter fun a => !decide (p a)).map g) := by
  have := compW_filter g (fun a => ¬ p a) xs
  simp only [ite_not, decide_not] at this
  exact this
@[simp] theorem compW_ite {α β : Type} (g h : α → β) (p : α → Prop) [DecidablePred p] (xs : List α) : compW (fun a => if p a then .ok (some (g a)) else .ok (some (h a))) xs = .ok (xs.map fun a => if p a then g a else h a) := by
  rw [← compW_map]
  congr 1
  funext a
  split <;> rfl
def optI : Option Int → PV
  | some i => .int i
  | none => .none
@[simp] theorem optI_some {i : Int} : optI (some i) = .int i := rfl
@[simp] theorem optI_none : optI none = .none := rfl
theorem optI_inj {a b : Option Int} : optI a = optI b ↔ a = b := by cases a <;> cases b <;> simp [optI]
theorem optI_clean {a : Option Int} : clean (optI a) = true := by cases a <;> simp [optI, clean]
theorem optI_plain {n : Nat} {a : Option Int} : plain n (optI a) = true := by cases a <;> simp [optI, plain]
@[simp] theorem optI_box {n : Nat} {a : Option Int} : boxLt n (optI a) = true := by cases a <;> simp [optI, boxLt]
@[simp] theorem optI_tv {k : Kd} {a : Option Int} : (SV.mk k (optI a)).tv = .ok (optI a) := by cases a <;> simp [optI]
@[simp] theorem l_neO {a b : Option Int} : cmpV .ne (optI a) (optI b) [] = some (!decide (a = b)) := l_nec optI_plain optI_plain optI_clean optI_clean _ optI_inj
@[simp] theorem l_eqO {a b : Option Int} : cmpV .eq (optI a) (optI b) [] = some (decide (a = b)) := l_eqc optI_plain optI_plain optI_clean optI_clean _ optI_inj
@[simp] theorem l_neNN : cmpV .ne .none .none [] = some false := rfl
@[simp] theorem l_eqNN : cmpV .eq .none .none [] = some true := rfl
theorem optI_map {a : Option Int} : (a.map PV.int).getD .none = optI a := by cases a <;> rfl
section
variable {κ β : Type} [o : OK κ]
theorem dictP_map (f : β → PV) : ∀ (l : List (κ × β)) (d : List (κ × β)), dictP (l.map (pairE f)) (encD f d) = some (encD f (l.foldl (fun d p => aput d p.1 p.2) d))
  | [], d => rfl
  | p :: l, d => by
    have hk := OK.key p.1
    have hA : ∃ a, OK.d p.1 = .a a := by
      have := OK.isA p.1
      cases q : OK.d p.1 with
      | a a => exact ⟨a, rfl⟩
      | t a => rw [q] at this; cases this
    obtain ⟨a, ha⟩ := hA
    have hp := dput_enc f d p.1 p.2
    rw [ha] at hk hp
    simp only [List.map_cons, pairE, dictP, hk, List.foldl_cons, hp]
    exact dictP_map f l _
theorem f_dictOf (f : β → PV) (l : List (κ × β)) : bfn .dictOf false [.lst (l.map (pairE f))] [] = .ok (.dct false (encD f (dictOf l))) [] := by
  show (match dictP (l.map (pairE f)) [] with | some kvs => mkDct false false kvs [] | none => R.bad) = _
  have := dictP_map f l []
  simp only [encD, List.map_nil] at this
  rw [this]
  rfl
theorem f_listD (f : β → PV) (l : List (κ × β)) : bfn .listOf false [.dct false (encD f l)] [] = .ok (.lst (l.map fun p => OK.e p.1)) [] := by
  show mkLst false ((encD f l).map fun p => dkV p.1) [] = _
  unfold encD
  rw [List.map_map]
  simp only [Function.comp_def, OK.kd]
  rfl
theorem f_get (f : β → PV) (l : List (κ × β)) (k : κ) : bmf .get 0 (.dct false (encD f l)) [OK.e k] [] = .ok (((aget l k).map f).getD .none) [] := by
  show (match keyOf (OK.e k) with | some k => if isT k = false then R.ok ((dget (encD f l) k).getD .none) [] else .bad | none => .bad) = _
  rw [OK.key]
  simp only [OK.isA, if_true, dget_enc]
theorem f_idxD (f : β → PV) (l : List (κ × β)) (k : κ) : idxf (.dct false (encD f l)) (OK.e k) [] = ofOpt ((aget l k).map f) [] := by
  show (match keyOf (OK.e k) with | some k => if isT k = false then ofOpt (dget (encD f l) k) [] else .bad | none => .bad) = _
  rw [OK.key]
  simp only [OK.isA, if_true, dget_enc]
/-- the list of a dict's items is a dict with these again -/
theorem dict_of_nodup : ∀ (l : List (κ × β)) (d : List (κ × β)), ((d ++ l).map (·.1)).Nodup → l.foldl (fun d p => aput d p.1 p.2) d = d ++ l
  | [], d, _ => by simp
  | p :: l, d, h => by
    have h2 : ¬ (d.any fun q => decide (q.1 = p.1)) = true := by
      simp only [List.any_eq_true, decide_eq_true_eq, not_exists, not_and]
      intro q hq e
      rw [List.map_append, List.nodup_append] at h
      exact h.2.2 q.1 (List.mem_map.mpr ⟨q, hq, rfl⟩) p.1 (by simp) e
    have e : aput d p.1 p.2 = d ++ [p] := by
      unfold aput
      rw [if_neg h2]
    rw [List.foldl_cons, e, dict_of_nodup l (d ++ [p]) (by simpa using h)]
    simp
theorem items_nodup {ps : List (κ × β)} : ((itemsOf (dictOf ps)).map (·.1)).Nodup := ((List.mergeSort_perm (dictOf ps) fun a b => leK a.1 b.1).map (·.1)).nodup_iff.mpr (dict_nodup ps)
theorem dict_items {ps : List (κ × β)} : dictOf (itemsOf (dictOf ps)) = itemsOf (dictOf ps) := dict_of_nodup _ [] (by simpa using items_nodup)
theorem aget_items {ps : List (κ × β)} {k : κ} : aget (itemsOf (dictOf ps)) k = lastK ps k := by
  cases q : lastK ps k with
  | some v => exact (aget_mem items_nodup).mpr (mem_items_dict.mpr q)
  | none =>
    cases r : aget (itemsOf (dictOf ps)) k with
    | none => rfl
    | some v =>
      rw [mem_items_dict.mp ((aget_mem items_nodup).mp r)] at q
      cases q
end
@[simp] theorem get_ty {t : Bool} {kvs : List (DK × PV)} : bmTy .get [] (.dct t kvs) = true := rfl
/-- what stands for a key at a moment -/
def stand (l : List Row) (k : Tx) (m : Int) : Option Int := ((mineM l k m).map fun r => r.2.2).getLast?
where mineM (l : List Row) (k : Tx) (m : Int) : List Row := l.filter fun r => decide (r.2.1 = k) && decide (r.1 ≤ m)
theorem stand_last (l : List Row) (k : Tx) (m : Int) : lastK ((l.filter fun r => decide (r.1 ≤ m)).map (·.2)) k = stand l k m := by
  unfold lastK stand stand.mineM
  rw [List.filter_map, List.map_map, List.filter_filter]
  rfl
theorem atM_get (l : List Row) (k : Tx) (m : Int) : aget (atM l m) k = stand l k m := by
  unfold atM
  rw [aget_items, stand_last]
theorem atM_mem (l : List Row) (k : Tx) (m v : Int) : (k, v) ∈ atM l m ↔ stand l k m = some v := by
  unfold atM
  rw [mem_items_dict, stand_last]
theorem atM_dict (l : List Row) (m : Int) : dictOf (atM l m) = atM l m := dict_items
theorem atM_nodup (l : List Row) (m : Int) : ((atM l m).map (·.1)).Nodup := items_nodup
theorem atM_len (l : List Row) (m : Int) : (atM l m).length ≤ l.length := by
  unfold atM
  rw [items_len]
  have := dict_len ((l.filter fun r => decide (r.1 ≤ m)).map (·.2)) []
  have h2 := List.length_filter_le (fun r : Row => decide (r.1 ≤ m)) l
  simp only [List.length_map, List.length_nil] at this
  unfold dictOf
  omega
end Z

set_option maxHeartbeats 200000
set_option maxRecDepth 512
set_option maxRecDepth 100000
/-! weighed, beside, unlike_at. -/
namespace Z
theorem f_get_s {β : Type} (f : β → PV) (l : List (Tx × β)) (k : Tx) : bmf .get 0 (.dct false (encD f l)) [.str k] [] = .ok (((aget l k).map f).getD .none) [] := f_get f l k
theorem f_idx_s {β : Type} (f : β → PV) (l : List (Tx × β)) (k : Tx) : idxf (.dct false (encD f l)) (.str k) [] = ofOpt ((aget l k).map f) [] := f_idxD f l k
theorem f_list_s {β : Type} (f : β → PV) (l : List (Tx × β)) : bfn .listOf false [.dct false (encD f l)] [] = .ok (.lst (l.map fun p => .str p.1)) [] := f_listD f l
theorem f_set_s {α : Type} {xs : List α} {g : α → Tx} (h : xs.length ≤ 1000) : bfn .sortedSet false [.lst (xs.map fun a => .str (g a))] [] = .ok (.lst ((sset (xs.map g)).map .str)) [] := by
  have := f_sortedSet (xs := xs.map g) (by simpa using h)
  simpa [OK.e, Function.comp_def] using this
theorem f_set_i {α : Type} {xs : List α} {g : α → Int} (h : xs.length ≤ 1000) : bfn .sortedSet false [.lst (xs.map fun a => .int (g a))] [] = .ok (.lst ((sset (xs.map g)).map .int)) [] := by
  have := f_sortedSet (xs := xs.map g) (by simpa using h)
  simpa [OK.e, Function.comp_def] using this
theorem b_cat_ok {xs ys : List PV} (h : xs.length + ys.length ≤ 16777216) : binop .add false (.lst xs) (.lst ys) [] = .ok (.lst (xs ++ ys)) [] := b_catL h
theorem Log.bd {l : List Row} (h : Log l) {r : Row} (hr : r ∈ l) : 0 ≤ r.1 ∧ r.1 ≤ 99 ∧ -99 ≤ r.2.2 ∧ r.2.2 ≤ 99 := by
  have := h.ok r hr
  simp only [rowB, Bool.and_eq_true, decide_eq_true_eq] at this
  omega
theorem Log.look {l : List Row} (h : Log l) (n : Nat) {r : Row} (hr : r ∈ l) : fv (n + 3) i_look_row [⟨.tree, rowV r⟩] = .ok ⟨.tree, .none⟩ := by
  have e2 := v_look_row n (rowV r) (row_seen (Nat.le_trans (rowB_key (h.ok r hr)) (by decide)))
  rw [rowOk_V, h.ok r hr] at e2
  exact e2
theorem v_look_two (n : Nat) (l m : List Row) (h : Log l) (h2 : Log m) : fv (n + 5) i_look_two [⟨.tree, .lst (l.map rowV)⟩, ⟨.tree, .lst (m.map rowV)⟩] = .ok ⟨.tree, .none⟩ := by
  have e1 := v_look_log n l h
  have e2 := v_look_log n m h2
  have hc := b_cat_ok (xs := l.map rowV) (ys := m.map rowV) (by have := h.len; have := h2.len; simp; omega)
  have loop := forV_same (b := bodyV (gv (n + 4)) (.name 2) b_look_two_0) (ρ := [some ⟨.tree, .lst (l.map rowV)⟩, some ⟨.tree, .lst (m.map rowV)⟩, none]) rowV (xs := l ++ m) fun r hr => by
    have e3 : fv (n + 1 + 3) i_look_row [⟨.tree, rowV r⟩] = .ok ⟨.tree, .none⟩ := by
      rcases List.mem_append.mp hr with hr | hr
      · exact h.look (n + 1) hr
      · exact h2.look (n + 1) hr
    simp [b_look_two_0, runFnV, execsV, execV.eq_1, execV.eq_2, execV.eq_3, execV.eq_4, execV.eq_6, execV.eq_7, execV.eq_8, execV.eq_10, execV.eq_11, execV.eq_12, execV.eq_13, execV.eq_14, execV.eq_15, evalV, evalsT, evalsA, evalsS, evalOV, sourceV, srcFor, seqE, wipeV, assignNV, ownL, ownX, frzV, notBox, finV, seqV, partI, pureM, mask, boxLt, boxLtL, boxLtD, e3]
  rw [List.map_append] at loop
  simp [fv_look_two, m_look_two, runFnV, execsV, execV.eq_1, execV.eq_2, execV.eq_3, execV.eq_4, execV.eq_6, execV.eq_7, execV.eq_8, execV.eq_10, execV.eq_11, execV.eq_12, execV.eq_13, execV.eq_14, execV.eq_15, evalV, evalsT, evalsA, evalsS, evalOV, sourceV, srcFor, seqE, wipeV, assignNV, ownL, ownX, frzV, notBox, finV, seqV, partI, pureM, mask, boxLt, boxLtL, boxLtD, hc, loop, e1, e2]
def besV (p : Row × Option Int) : PV := .tup [.int p.1.1, .str p.1.2.1, .int p.1.2.2, optI p.2]
def bes (l m : List Row) : List (Row × Option Int) := l.map fun r => (r, stand m r.2.1 r.1)
@[simp] theorem bes_box {n : Nat} {l : List (Row × Option Int)} : boxLtL n (l.map besV) = true := boxLtL_map _ (fun p => by simp [besV, boxLt, boxLtL]) _
theorem v_beside (n : Nat) (l m : List Row) (h : Log l) (h2 : Log m) : fv (n + 6) i_beside [⟨.tree, .lst (l.map rowV)⟩, ⟨.tree, .lst (m.map rowV)⟩] = .ok ⟨.tree, .lst ((bes l m).map besV)⟩ := by
  have e1 := v_look_two n l m h h2
  have loop := forV_inv (b := bodyV (gv (n + 5)) (.tup [.name 3, .name 4, .name 5]) b_beside_0) (ρ0 := [some ⟨.tree, .lst (l.map rowV)⟩, some ⟨.tree, .lst (m.map rowV)⟩, some ⟨.own, .lst []⟩, none, none, none])
    (fun d : List (Row × Option Int) => [some ⟨.tree, .lst (l.map rowV)⟩, some ⟨.tree, .lst (m.map rowV)⟩, some ⟨.own, .lst (d.map besV)⟩, none, none, none]) (fun d r => d ++ [(r, stand m r.2.1 r.1)]) (fun rs d => d.length + rs.length ≤ 1000 ∧ ∀ r ∈ rs, r ∈ l) rowV (fun r rs d hd => by
      have hz : d.length < 16777216 := by have := hd.1; simp only [List.length_cons] at this; omega
      have b := h.bd (hd.2 r List.mem_cons_self)
      have e2 := v_at_moment n m r.1 h2 ⟨b.1, by omega⟩
      have e3 := f_dictOf (κ := Tx) PV.int (atM m r.1)
      rw [atM_dict] at e3
      constructor
      · simp [b_beside_0, runFnV, execsV, execV.eq_1, execV.eq_2, execV.eq_3, execV.eq_4, execV.eq_6, execV.eq_7, execV.eq_8, execV.eq_10, execV.eq_11, execV.eq_12, execV.eq_13, execV.eq_14, execV.eq_15, evalV, evalsT, evalsA, evalsS, evalOV, sourceV, srcFor, seqE, wipeV, assignNV, ownL, ownX, frzV, notBox, finV, seqV, partI, pureM, mask, boxLt, boxLtL, boxLtD, bodyV_tup, rowV, e2, e3, f_get_s, atM_get, optI_map, hz, besV]
      · refine ⟨?_, fun q hq => hd.2 q (List.mem_cons_of_mem _ hq)⟩
        have := hd.1
        simp only [List.length_append, List.length_cons, List.length_nil] at this ⊢
        omega) l [] ⟨by simpa using h.len, fun r hr => hr⟩
  have loop := loop.1
  have fold : ∀ (rs : List Row) (d : List (Row × Option Int)), rs.foldl (fun d r => d ++ [(r, stand m r.2.1 r.1)]) d = d ++ rs.map fun r => (r, stand m r.2.1 r.1) := fun rs => by
    induction rs with
    | nil => intro d; simp
    | cons r rs ih => intro d; rw [List.foldl_cons, ih]; simp
  rw [fold, List.nil_append] at loop
  simp only [List.map_nil] at loop
  rw [show (l.map fun r => (r, stand m r.2.1 r.1)) = bes l m from rfl] at loop
  simp [fv_beside, m_beside, runFnV, execsV, execV.eq_1, execV.eq_2, execV.eq_3, execV.eq_4, execV.eq_6, execV.eq_7, execV.eq_8, execV.eq_10, execV.eq_11, execV.eq_12, execV.eq_13, execV.eq_14, execV.eq_15, evalV, evalsT, evalsA, evalsS, evalOV, sourceV, srcFor, seqE, wipeV, assignNV, ownL, ownX, frzV, notBox, finV, seqV, partI, pureM, mask, boxLt, boxLtL, boxLtD, e1, loop]
def unl (l m : List Row) (mo : Int) : List Tx := (sset ((atM l mo).map (·.1) ++ (atM m mo).map (·.1))).filter fun k => !decide (stand l k mo = stand m k mo)
theorem strs_box {n : Nat} {l : List Tx} : boxLtL n (l.map .str) = true := boxLtL_map _ (fun _ => by simp [boxLt]) _
theorem v_unlike_at (n : Nat) (l m : List Row) (mo : Int) (h : Log l) (h2 : Log m) (hz : l.length + m.length ≤ 1000) (hm : 0 ≤ mo ∧ mo ≤ 999) : fv (n + 6) i_unlike_at [⟨.tree, .lst (l.map rowV)⟩, ⟨.tree, .lst (m.map rowV)⟩, ⟨.tree, .int mo⟩] = .ok ⟨.tree, .lst ((unl l m mo).map .str)⟩ := by
  have e1 := v_look_two n l m h h2
  have e2 := v_at_moment n l mo h hm
  have e3 := v_at_moment n m mo h2 hm
  have e4 := f_dictOf (κ := Tx) PV.int (atM l mo)
  have e5 := f_dictOf (κ := Tx) PV.int (atM m mo)
  rw [atM_dict] at e4 e5
  have l1 := atM_len l mo
  have l2 := atM_len m mo
  have hc := b_cat_ok (xs := (atM l mo).map fun p => .str p.1) (ys := (atM m mo).map fun p => .str p.1) (by simp; omega)
  have e6 := f_set_s (xs := (atM l mo).map (·.1) ++ (atM m mo).map (·.1)) (g := id) (by simp; omega)
  simp [Function.comp_def] at e6
  have hu : (unl l m mo).length ≤ 16777216 := by
    have h3 := sset_len ((atM l mo).map (·.1) ++ (atM m mo).map (·.1))
    have h4 := List.length_filter_le (fun k => !decide (stand l k mo = stand m k mo)) (sset ((atM l mo).map (·.1) ++ (atM m mo).map (·.1)))
    simp only [List.length_append, List.length_map] at h3
    unfold unl
    omega
  unfold unl at hu ⊢
  simp [fv_unlike_at, m_unlike_at, c_unlike_at_0, runFnV, execsV, execV.eq_1, execV.eq_2, execV.eq_3, execV.eq_4, execV.eq_6, execV.eq_7, execV.eq_8, execV.eq_10, execV.eq_11, execV.eq_12, execV.eq_13, execV.eq_14, execV.eq_15, evalV, evalsT, evalsA, evalsS, evalOV, sourceV, srcFor, seqE, wipeV, assignNV, ownL, ownX, frzV, notBox, finV, seqV, partI, pureM, mask, boxLt, boxLtL, boxLtD, e1, e2, e3, e4, e5, f_list_s, hc, e6, f_get_s, atM_get, optI_map, strs_box, hu]
def laters (l : List Row) (k : Tx) : List Int := (hist l k).tail.map (·.1)
def ends (l : List Row) (k : Tx) (e : Int) : List Int := laters l k ++ [e]
def wsum (l : List Row) (k : Tx) (e : Int) : Int := (((hist l k).zip (ends l k e)).map fun p => p.1.2 * (p.2 - p.1.1)).sum
def wei (l : List Row) (e : Int) : List (Tx × Int) := (sset (l.map fun r => r.2.1)).map fun k => (k, wsum l k e)
theorem hist_mem (l : List Row) (k : Tx) (m v : Int) (h : (m, v) ∈ hist l k) : (m, k, v) ∈ l := by
  unfold hist at h
  have := lastK_mem (mem_items_dict.mp h)
  obtain ⟨r, hr, e⟩ := List.mem_map.mp this
  have h2 := List.mem_filter.mp hr
  simp only [decide_eq_true_eq] at h2
  obtain ⟨a, b, c⟩ := r
  cases e
  obtain ⟨h2, rfl⟩ := h2
  exact h2
theorem hist_len (l : List Row) (k : Tx) : (hist l k).length ≤ l.length := by
  unfold hist
  rw [items_len]
  have := dict_len ((l.filter fun r => decide (r.2.1 = k)).map fun r => (r.1, r.2.2)) []
  have h2 := List.length_filter_le (fun r : Row => decide (r.2.1 = k)) l
  simp only [List.length_map, List.length_nil] at this
  unfold dictOf
  omega
theorem v_weighed (n : Nat) (l : List Row) (e : Int) (h : Log l) (he : 0 ≤ e ∧ e ≤ 999) (hb : ∀ r ∈ l, r.1 ≤ e) : fv (n + 6) i_weighed [⟨.tree, .lst (l.map rowV)⟩, ⟨.tree, .int e⟩] = .ok ⟨.tree, .lst ((wei l e).map (pairE .int))⟩ := by
  have e1 := v_look_log (n + 1) l h
  have e2 := v_look_moment (n + 3) e he
  have hl := h.len
  have e3 : ∀ ρ : VEnv, 9 < ρ.length → ρ[0]? = some (some ⟨.tree, .lst (l.map rowV)⟩) → evalV (gv (n + 5)) c_weighed_0 ρ = .ok ⟨.tree, .lst (l.map fun r => .str r.2.1)⟩ := fun ρ hl h0 => by
    have h4 : l.length ≤ 16777216 := by omega
    simp [c_weighed_0, runFnV, execsV, execV.eq_1, execV.eq_2, execV.eq_3, execV.eq_4, execV.eq_6, execV.eq_7, execV.eq_8, execV.eq_10, execV.eq_11, execV.eq_12, execV.eq_13, execV.eq_14, execV.eq_15, evalV, evalsT, evalsA, evalsS, evalOV, sourceV, srcFor, seqE, wipeV, assignNV, ownL, ownX, frzV, notBox, finV, seqV, partI, pureM, mask, boxLt, boxLtL, boxLtD, h0, hl, gss (n := 9), h4]
  have e4 := f_set_s (xs := l) (g := fun r => r.2.1) hl
  have e5 : ∀ (ρ : VEnv) (k : Tx), 9 < ρ.length → ρ[4]? = some (some ⟨.tree, .lst ((hist l k).map (pairE .int))⟩) → evalV (gv (n + 5)) c_weighed_1 ρ = .ok ⟨.tree, .lst ((laters l k).map .int)⟩ := fun ρ k hl h0 => by
    have h4 : (hist l k).length ≤ 16777217 := by have := hist_len l k; omega
    simp [c_weighed_1, runFnV, execsV, execV.eq_1, execV.eq_2, execV.eq_3, execV.eq_4, execV.eq_6, execV.eq_7, execV.eq_8, execV.eq_10, execV.eq_11, execV.eq_12, execV.eq_13, execV.eq_14, execV.eq_15, evalV, evalsT, evalsA, evalsS, evalOV, sourceV, srcFor, seqE, wipeV, assignNV, ownL, ownX, frzV, notBox, finV, seqV, partI, pureM, mask, boxLt, boxLtL, boxLtD, h0, hl, gss (n := 9), h4, pairE, OK.e, ← List.map_tail, laters, Function.comp_def]
  have e6 : ∀ (ρ : VEnv) (k : Tx), 9 < ρ.length → ρ[4]? = some (some ⟨.tree, .lst ((hist l k).map (pairE .int))⟩) → ρ[5]? = some (some ⟨.tree, .lst ((ends l k e).map .int)⟩) → evalV (gv (n + 5)) c_weighed_2 ρ = .ok ⟨.tree, .lst (((hist l k).zip (ends l k e)).map fun p => .int (p.1.2 * (p.2 - p.1.1)))⟩ := fun ρ k hl h0 h5 => by
    have h4 : min (hist l k).length (ends l k e).length ≤ 16777216 := by have := hist_len l k; omega
    simp [c_weighed_2, runFnV, execsV, execV.eq_1, execV.eq_2, execV.eq_3, execV.eq_4, execV.eq_6, execV.eq_7, execV.eq_8, execV.eq_10, execV.eq_11, execV.eq_12, execV.eq_13, execV.eq_14, execV.eq_15, evalV, evalsT, evalsA, evalsS, evalOV, sourceV, srcFor, seqE, wipeV, assignNV, ownL, ownX, frzV, notBox, finV, seqV, partI, pureM, mask, boxLt, boxLtL, boxLtD, h0, h5, hl, gss (n := 9), zipV_map, as_tup]
    rw [compW_of (g := fun p : (Int × Int) × Int => some (PV.int (p.1.2 * (p.2 - p.1.1)))) (fun p hp => by
      have hb := h.bd (hist_mem l k p.1.1 p.1.2 (List.of_mem_zip hp).1)
      simp only at hb
      have hbig : -big < p.1.2 ∧ p.1.2 < big := by unfold big; omega
      simp [pairE, OK.e, hl, gss (n := 9), b_mulL hbig])]
    simp [h4]
  have loop := forV_inv (b := bodyV (gv (n + 5)) (.name 3) b_weighed_0) (ρ0 := [some ⟨.tree, .lst (l.map rowV)⟩, some ⟨.tree, .int e⟩, some ⟨.own, .lst []⟩, none, none, none, none, none, none, none])
    (fun d : List (Tx × Int) => [some ⟨.tree, .lst (l.map rowV)⟩, some ⟨.tree, .int e⟩, some ⟨.own, .lst (d.map (pairE .int))⟩, none, none, none, none, none, none, none]) (fun d k => d ++ [(k, wsum l k e)]) (fun rs d => d.length + rs.length ≤ 1000) PV.str (fun k rs d hd => by
      have hz : d.length < 16777216 := by simp only [List.length_cons] at hd; omega
      have e7 := v_history n l k h
      have hlk := hist_len l k
      have e8 := b_cat_ok (xs := (laters l k).map .int) (ys := [.int e]) (by simp [laters]; omega)
      rw [show (laters l k).map PV.int ++ [PV.int e] = (ends l k e).map .int by simp [ends]] at e8
      have e5' := fun ρ => e5 ρ k
      have e6' := fun ρ => e6 ρ k
      constructor
      · simp [b_weighed_0, runFnV, execsV, execV.eq_1, execV.eq_2, execV.eq_3, execV.eq_4, execV.eq_6, execV.eq_7, execV.eq_8, execV.eq_10, execV.eq_11, execV.eq_12, execV.eq_13, execV.eq_14, execV.eq_15, evalV, evalsT, evalsA, evalsS, evalOV, sourceV, srcFor, seqE, wipeV, assignNV, ownL, ownX, frzV, notBox, finV, seqV, partI, pureM, mask, boxLt, boxLtL, boxLtD, e7, e5', e6', e8, hz, pairE, OK.e, wsum]
      · simp only [List.length_append, List.length_cons, List.length_nil] at hd ⊢
        omega) (sset (l.map fun r => r.2.1)) [] (by have := sset_len (l.map fun r => r.2.1); simp at this ⊢; omega)
  have loop := loop.1
  have fold : ∀ (rs : List Tx) (d : List (Tx × Int)), rs.foldl (fun d k => d ++ [(k, wsum l k e)]) d = d ++ rs.map fun k => (k, wsum l k e) := fun rs => by
    induction rs with
    | nil => intro d; simp
    | cons r rs ih => intro d; rw [List.foldl_cons, ih]; simp
  rw [fold, List.nil_append] at loop
  rw [show ((sset (l.map fun r => r.2.1)).map fun k => (k, wsum l k e)) = wei l e from rfl] at loop
  simp only [List.map_nil] at loop
  rcases List.eq_nil_or_concat l with q | ⟨xs, x, q⟩
  · subst q
    simp at e1 e3 e4 loop
    simp [fv_weighed, m_weighed, runFnV, execsV, execV.eq_1, execV.eq_2, execV.eq_3, execV.eq_4, execV.eq_6, execV.eq_7, execV.eq_8, execV.eq_10, execV.eq_11, execV.eq_12, execV.eq_13, execV.eq_14, execV.eq_15, evalV, evalsT, evalsA, evalsS, evalOV, sourceV, srcFor, seqE, wipeV, assignNV, ownL, ownX, frzV, notBox, finV, seqV, partI, pureM, mask, boxLt, boxLtL, boxLtD, e1, e2, e3, e4, loop]
  · have hx : ¬ (e < x.1) := by have := hb x (by rw [q]; simp); omega
    have hlast : (l.map rowV).getLast? = some (rowV x) := by rw [q]; simp
    have hne := l_neNil (f := rowV) (xs := l) (fun a => row_plain)
    have hq : ¬ l = [] := by rw [q]; simp
    simp [hq] at hne
    simp [fv_weighed, m_weighed, runFnV, execsV, execV.eq_1, execV.eq_2, execV.eq_3, execV.eq_4, execV.eq_6, execV.eq_7, execV.eq_8, execV.eq_10, execV.eq_11, execV.eq_12, execV.eq_13, execV.eq_14, execV.eq_15, evalV, evalsT, evalsA, evalsS, evalOV, sourceV, srcFor, seqE, wipeV, assignNV, ownL, ownX, frzV, notBox, finV, seqV, partI, pureM, mask, boxLt, boxLtL, boxLtD, e1, e2, hne, idx_last, hlast, hx, e3, e4, loop]
end Z

set_option maxHeartbeats 200000
set_option maxRecDepth 512
set_option maxRecDepth 100000
/-! what stands: mathematics. -/
namespace Z
theorem last_max {α : Type} {R : α → α → Prop} {L : List α} {x : α} (h : L.Pairwise R) (hx : x ∈ L) (hm : ∀ y ∈ L, ¬ R x y) : L.getLast? = some x := by
  rcases List.eq_nil_or_concat L with q | ⟨A, z, q⟩
  · rw [q] at hx
    cases hx
  · rw [List.concat_eq_append] at q
    subst q
    rw [List.getLast?_concat]
    congr 1
    rcases List.mem_append.mp hx with hA | hz
    · exact absurd ((List.pairwise_append.mp h).2.2 x hA z (by simp)) (hm z (by simp))
    · exact (List.mem_singleton.mp hz).symm
theorem last_filter {α : Type} {L : List α} {x : α} {p : α → Bool} (h : L.getLast? = some x) (hp : p x = true) : (L.filter p).getLast? = some x := by
  rcases List.eq_nil_or_concat L with q | ⟨A, z, q⟩
  · rw [q] at h
    cases h
  · rw [List.concat_eq_append] at q
    subst q
    rw [List.getLast?_concat] at h
    cases h
    rw [List.filter_append]
    simp [hp]
theorem last_ge {L : List Row} {x : Row} (hp : L.Pairwise fun a b => a.1 ≤ b.1) (h : L.getLast? = some x) : ∀ y ∈ L, y.1 ≤ x.1 := by
  rcases List.eq_nil_or_concat L with q | ⟨A, z, q⟩
  · rw [q] at h
    cases h
  · rw [List.concat_eq_append] at q
    subst q
    rw [List.getLast?_concat] at h
    cases h
    intro y hy
    rcases List.mem_append.mp hy with hA | hz
    · exact (List.pairwise_append.mp hp).2.2 y hA x (by simp)
    · rw [List.mem_singleton.mp hz]
      exact Int.le_refl _
theorem hist_iff (l : List Row) (k : Tx) (m v : Int) : (m, v) ∈ hist l k ↔ ((l.filter fun r => decide (r.2.1 = k) && decide (r.1 = m)).map fun r => r.2.2).getLast? = some v := by
  unfold hist
  rw [mem_items_dict]
  unfold lastK
  rw [List.filter_map, List.map_map, List.filter_filter]
  have : (l.filter fun r => ((fun p : Int × Int => decide (p.1 = m)) ∘ fun r : Row => (r.1, r.2.2)) r && decide (r.2.1 = k)) = l.filter fun r => decide (r.2.1 = k) && decide (r.1 = m) := List.filter_congr fun r _ => Bool.and_comm ..
  rw [this]
  rfl
theorem hist_pair (l : List Row) (k : Tx) : (hist l k).Pairwise fun a b => a.1 < b.1 := (items_strict (dict_nodup _)).imp fun {a b} h => of_decide_eq_true h
theorem stand_row {l : List Row} {k : Tx} {m v : Int} (h : stand l k m = some v) : ∃ r, (stand.mineM l k m).getLast? = some r ∧ r.2.2 = v := by
  unfold stand at h
  rw [List.getLast?_map, Option.map_eq_some_iff] at h
  exact h
theorem stand_hist (l : List Row) (h : Log l) (k : Tx) (m : Int) : stand l k m = ((hist l k).filter fun p => decide (p.1 ≤ m)).getLast?.map (·.2) := by
  cases q : stand l k m with
  | none =>
    have he : stand.mineM l k m = [] := by
      unfold stand at q
      rw [List.getLast?_eq_none_iff, List.map_eq_nil_iff] at q
      exact q
    have : ((hist l k).filter fun p => decide (p.1 ≤ m)) = [] := List.filter_eq_nil_iff.mpr fun p hp hle => by
      have h2 := hist_mem l k p.1 p.2 hp
      have h3 : (p.1, k, p.2) ∈ stand.mineM l k m := List.mem_filter.mpr ⟨h2, by simpa using hle⟩
      rw [he] at h3
      cases h3
    rw [this]
    rfl
  | some v =>
    obtain ⟨r, hr, rfl⟩ := stand_row q
    have hm := List.mem_filter.mp (List.mem_of_getLast? hr)
    simp only [Bool.and_eq_true, decide_eq_true_eq] at hm
    obtain ⟨hm1, hm2, hm3⟩ := hm
    have hin : (r.1, r.2.2) ∈ hist l k := by
      rw [hist_iff]
      have e : (l.filter fun q => decide (q.2.1 = k) && decide (q.1 = r.1)) = (stand.mineM l k m).filter fun q => decide (q.1 = r.1) := by
        unfold stand.mineM
        rw [List.filter_filter]
        refine List.filter_congr fun q _ => ?_
        by_cases c : q.1 = r.1
        · have : q.1 ≤ m := by omega
          simp [c, hm3]
        · simp [c]
      rw [e, List.getLast?_map, last_filter hr (by simp)]
      rfl
    have hge := last_ge ((sorted_pair h.so).filter _) hr
    have := last_max (L := (hist l k).filter fun p => decide (p.1 ≤ m)) (x := (r.1, r.2.2)) ((hist_pair l k).filter _) (List.mem_filter.mpr ⟨hin, by simpa using hm3⟩) fun y hy => by
      have h1 := List.mem_filter.mp hy
      have h2 := hist_mem l k y.1 y.2 h1.1
      have h3 := hge (y.1, k, y.2) (List.mem_filter.mpr ⟨h2, by simpa using h1.2⟩)
      simp only at h3 ⊢
      omega
    rw [this]
    rfl
def valH (H : List (Int × Int)) (m : Int) : Int := ((H.filter fun p => decide (p.1 ≤ m)).getLast?.map (·.2)).getD 0
def zsum (H : List (Int × Int)) (e : Int) : Int := ((H.zip (H.tail.map (·.1) ++ [e])).map fun p => p.1.2 * (p.2 - p.1.1)).sum
theorem zsum_snoc (A : List (Int × Int)) (a v e : Int) : zsum (A ++ [(a, v)]) e = zsum A a + v * (e - a) := by
  cases A with
  | nil => simp [zsum]
  | cons p A =>
    unfold zsum
    have e1 : (p :: A ++ [(a, v)]).tail.map (·.1) ++ [e] = (A.map (·.1) ++ [a]) ++ [e] := by simp
    rw [e1, List.zip_append (by simp), List.map_append, List.sum_append]
    simp
theorem valH_snoc (A : List (Int × Int)) (a v m : Int) : valH (A ++ [(a, v)]) m = if a ≤ m then v else valH A m := by
  unfold valH
  rw [List.filter_append]
  by_cases h : a ≤ m <;> simp [h]
def sumM (f : Int → Int) (n : Nat) : Int := ((List.range n).map fun (k : Nat) => f k).sum
theorem sumM_succ (f : Int → Int) (n : Nat) : sumM f (n + 1) = sumM f n + f n := by
  unfold sumM
  rw [List.range_succ, List.map_append, List.sum_append]
  simp
theorem sumM_congr {f g : Int → Int} : ∀ {n : Nat}, (∀ m : Nat, m < n → f m = g m) → sumM f n = sumM g n
  | 0, _ => rfl
  | n + 1, h => by rw [sumM_succ, sumM_succ, sumM_congr fun m hm => h m (by omega), h n (by omega)]
theorem sumM_add (f : Int → Int) (v : Int) (a : Nat) : ∀ n : Nat, (∀ m : Nat, a ≤ m → f m = v) → sumM f (a + n) = sumM f a + v * n
  | 0, _ => by simp
  | n + 1, h => by
    rw [← Nat.add_assoc, sumM_succ, sumM_add f v a n h, h (a + n) (by omega)]
    have : ((n + 1 : Nat) : Int) = n + 1 := by omega
    rw [this, Int.mul_add, Int.mul_one, Int.add_assoc]
theorem zsum_val : ∀ (n : Nat) (H : List (Int × Int)), H.length = n → H.Pairwise (fun a b => a.1 < b.1) → ∀ e : Int, 0 ≤ e → (∀ p ∈ H, 0 ≤ p.1 ∧ p.1 ≤ e) → zsum H e = sumM (valH H) e.toNat
  | 0, H, hl, _, e, _, _ => by
    have : H = [] := List.length_eq_zero_iff.mp hl
    subst this
    have : ∀ n : Nat, sumM (valH []) n = 0 := fun n => by
      induction n with
      | zero => rfl
      | succ n ih => rw [sumM_succ, ih]; rfl
    rw [this]
    rfl
  | n + 1, H, hl, hp, e, he, hb => by
    rcases List.eq_nil_or_concat H with q | ⟨A, z, q⟩
    · rw [q] at hl
      cases hl
    · rw [List.concat_eq_append] at q
      subst q
      obtain ⟨a, v⟩ := z
      have hz := hb (a, v) (by simp)
      simp only at hz
      have hA := List.pairwise_append.mp hp
      have ih := zsum_val n A (by simpa using hl) hA.1 a hz.1 fun p hpA => ⟨(hb p (List.mem_append_left _ hpA)).1, by
        have := hA.2.2 p hpA (a, v) (by simp)
        simp only at this
        omega⟩
      rw [zsum_snoc, ih]
      have e1 : e.toNat = a.toNat + (e - a).toNat := by omega
      rw [e1, sumM_add (v := v) (a := a.toNat) _ _ (fun m hm => by rw [valH_snoc, if_pos (by omega)])]
      have e2 : (((e - a).toNat : Nat) : Int) = e - a := by omega
      rw [e2]
      congr 1
      refine sumM_congr fun m hm => ?_
      rw [valH_snoc, if_neg (by omega)]
theorem wsum_sum (l : List Row) (h : Log l) (k : Tx) (e : Int) (he : 0 ≤ e) (hb : ∀ r ∈ l, r.1 ≤ e) : wsum l k e = sumM (fun m => (stand l k m).getD 0) e.toNat := by
  have : wsum l k e = zsum (hist l k) e := rfl
  rw [this, zsum_val _ _ rfl (hist_pair l k) e he fun p hp => by
    have h2 := hist_mem l k p.1 p.2 hp
    exact ⟨(h.bd h2).1, hb _ h2⟩]
  refine sumM_congr fun m _ => ?_
  rw [stand_hist l h]
  rfl
end Z

set_option maxHeartbeats 200000
set_option maxRecDepth 512
set_option maxRecDepth 100000
/-! in_order. -/
namespace Z
/-- where a row goes: behind the last that is not later -/
def insPos (l : List Row) (m : Int) : Nat → Nat
  | 0 => 0
  | a + 1 => if m < (l.getD a (0, [], 0)).1 then insPos l m a else a + 1
theorem insPos_le (l : List Row) (m : Int) : ∀ a, insPos l m a ≤ a
  | 0 => Nat.le_refl _
  | a + 1 => by
    unfold insPos
    split
    · exact Nat.le_succ_of_le (insPos_le l m a)
    · exact Nat.le_refl _
def insRow (l : List Row) (r : Row) : List Row := l.take (insPos l r.1 l.length) ++ r :: l.drop (insPos l r.1 l.length)
theorem insRow_len (l : List Row) (r : Row) : (insRow l r).length = l.length + 1 := by
  have := insPos_le l r.1 l.length
  simp [insRow]
  omega
def orderR (l : List Row) : List Row := l.foldl insRow []
/-! ### the law's own mathematics -/
def dueF (l : List Row) (lo n : Nat) : List Row := (List.range' lo n).flatMap fun (m : Nat) => l.filter fun r => r.1 == (m : Int)
theorem dueF_add (l : List Row) (lo m n : Nat) : dueF l lo (m + n) = dueF l lo m ++ dueF l (lo + m) n := by
  unfold dueF
  rw [← List.range'_append_1, List.flatMap_append]
theorem dueF_mem {l : List Row} {lo n : Nat} {r : Row} (h : r ∈ dueF l lo n) : (lo : Int) ≤ r.1 ∧ r.1 < (lo : Int) + n := by
  unfold dueF at h
  obtain ⟨m, h1, h2⟩ := List.mem_flatMap.mp h
  have h3 := List.mem_range'_1.mp h1
  have h4 : r.1 = (m : Int) := by simpa using (List.mem_filter.mp h2).2
  omega
theorem dueF_out (l : List Row) (r : Row) : ∀ (n lo : Nat), (r.1 < lo ∨ (lo : Int) + n ≤ r.1) → dueF (l ++ [r]) lo n = dueF l lo n
  | 0, lo, h => rfl
  | n + 1, lo, h => by
    have ih := dueF_out l r n (lo + 1) (by omega)
    unfold dueF at ih ⊢
    rw [List.range'_succ, List.flatMap_cons, List.flatMap_cons, ih, List.filter_append]
    have : (r.1 == (lo : Int)) = false := by simp; omega
    simp [this]
/-- behind rows not later, ahead of later ones -/
theorem insPos_split (A B : List Row) (m : Int) (hA : ∀ r ∈ A, r.1 ≤ m) (hB : ∀ r ∈ B, m < r.1) : ∀ k, k ≤ B.length → insPos (A ++ B) m (A.length + k) = A.length
  | 0, _ => by
    cases h : A.length with
    | zero => rfl
    | succ n =>
      unfold insPos
      have h3 : n < A.length := by omega
      have : ((A ++ B).getD n (0, [], 0)) = A[n] := by
        simp [List.getD, List.getElem?_append_left h3, h3]
      rw [if_neg]
      rw [this]
      have := hA A[n] (List.getElem_mem h3)
      omega
  | k + 1, h => by
    have ih := insPos_split A B m hA hB k (by omega)
    show (if m < ((A ++ B).getD (A.length + k) (0, [], 0)).1 then insPos (A ++ B) m (A.length + k) else A.length + k + 1) = _
    have h3 : k < B.length := by omega
    have : ((A ++ B).getD (A.length + k) (0, [], 0)) = B[k] := by
      simp [List.getD, List.getElem?_append_right, h3]
    rw [if_pos, ih]
    rw [this]
    exact hB B[k] (List.getElem_mem h3)
theorem insRow_split (A B : List Row) (r : Row) (hA : ∀ q ∈ A, q.1 ≤ r.1) (hB : ∀ q ∈ B, r.1 < q.1) : insRow (A ++ B) r = A ++ r :: B := by
  unfold insRow
  have := insPos_split A B r.1 hA hB B.length (Nat.le_refl _)
  rw [List.length_append, this]
  simp
theorem due_ins (l : List Row) (r : Row) (h0 : 0 ≤ r.1) (h1 : r.1 < 100) : insRow (dueF l 0 100) r = dueF (l ++ [r]) 0 100 := by
  obtain ⟨m, hm⟩ : ∃ m : Nat, r.1 = m := ⟨r.1.toNat, by omega⟩
  have e : ∀ q : List Row, dueF q 0 100 = dueF q 0 m ++ (dueF q m 1 ++ dueF q (m + 1) (99 - m)) := fun q => by
    have : 100 = m + (1 + (99 - m)) := by omega
    conv => lhs; rw [this]
    rw [dueF_add, dueF_add, Nat.zero_add]
  have e2 : dueF (l ++ [r]) m 1 = dueF l m 1 ++ [r] := by
    simp [dueF, List.filter_append, hm]
  rw [e, e, dueF_out l r m 0 (by omega), dueF_out l r (99 - m) (m + 1) (by omega), e2, ← List.append_assoc, insRow_split]
  · simp
  · intro q hq
    rcases List.mem_append.mp hq with hq | hq
    · have := dueF_mem hq
      omega
    · have := dueF_mem hq
      omega
  · intro q hq
    have := dueF_mem hq
    omega
theorem order_due (l : List Row) : ∀ acc : List Row, (∀ r ∈ l, 0 ≤ r.1 ∧ r.1 < 100) → l.foldl insRow (dueF acc 0 100) = dueF (acc ++ l) 0 100 := by
  induction l with
  | nil => intro acc _; simp
  | cons r l ih =>
    intro acc h
    have hr := h r List.mem_cons_self
    rw [List.foldl_cons, due_ins acc r hr.1 hr.2, ih _ fun q hq => h q (List.mem_cons_of_mem _ hq)]
    simp
theorem orderR_due (l : List Row) (h : ∀ r ∈ l, 0 ≤ r.1 ∧ r.1 < 100) : orderR l = dueF l 0 100 := by
  have e : dueF [] 0 100 = [] := by simp [dueF]
  have := order_due l [] h
  rw [e] at this
  simpa [orderR] using this

theorem order_while (n : Nat) (l : List Row) (r : Row) (x0 : Option SV) (h0 : x0.isSome) (ρ0 : VEnv) (hρ : ∀ a, mask ρ0 [x0, some ⟨.own, .lst (l.map rowV)⟩, some ⟨.tree, rowV r⟩, some ⟨.tree, .int a⟩] = [x0, some ⟨.own, .lst (l.map rowV)⟩, some ⟨.tree, rowV r⟩, some ⟨.tree, .int a⟩]) : ∀ (a m : Nat), a < m → a ≤ l.length →
    whlV (evalV (gv n) w_in_order_0) (execsV (gv n) b_in_order_0) ρ0 m [x0, some ⟨.own, .lst (l.map rowV)⟩, some ⟨.tree, rowV r⟩, some ⟨.tree, .int a⟩] =
      .nx [x0, some ⟨.own, .lst (l.map rowV)⟩, some ⟨.tree, rowV r⟩, some ⟨.tree, .int (insPos l r.1 a)⟩]
  | 0, m + 1, _, _ => by
    simp [whlV, w_in_order_0, runFnV, execsV, execV.eq_1, execV.eq_2, execV.eq_3, execV.eq_4, execV.eq_6, execV.eq_7, execV.eq_8, execV.eq_10, execV.eq_11, execV.eq_12, execV.eq_13, execV.eq_14, execV.eq_15, evalV, evalsT, evalsA, evalsS, evalOV, sourceV, srcFor, seqE, wipeV, assignNV, ownL, ownX, frzV, notBox, finV, seqV, partI, pureM, mask, boxLt, boxLtL, boxLtD, insPos]
  | a + 1, m + 1, h, h2 => by
    have ih := order_while n l r x0 h0 ρ0 hρ a m (by omega) (by omega)
    have h3 : a < l.length := by omega
    have e2 : ((a + 1 : Nat) : Int) - 1 = a := by omega
    have e3 : idxf (.lst (l.map rowV)) (.int a) [] = .ok (rowV l[a]) [] := by
      rw [i_lst (by omega)]
      simp [h3]
    have e5 : (l.getD a (0, [], 0)) = l[a] := by simp [List.getD, h3]
    have e6 : (0 : Int) < ((a + 1 : Nat) : Int) := by omega
    have e7 := hρ a
    by_cases c : r.1 < l[a].1
    · have : evalV (gv n) w_in_order_0 [x0, some ⟨.own, .lst (l.map rowV)⟩, some ⟨.tree, rowV r⟩, some ⟨.tree, .int ((a + 1 : Nat) : Int)⟩] = .ok ⟨.tree, .bool true⟩ := by
        simp only [w_in_order_0, runFnV, execsV, execV.eq_1, execV.eq_2, execV.eq_3, execV.eq_4, execV.eq_6, execV.eq_7, execV.eq_8, execV.eq_10, execV.eq_11, execV.eq_12, execV.eq_13, execV.eq_14, execV.eq_15, evalV, evalsT, evalsA, evalsS, evalOV, sourceV, srcFor, seqE, wipeV, assignNV, ownL, ownX, frzV, notBox, finV, seqV, partI, pureM, mask, boxLt, boxLtL, boxLtD, List.getElem?_cons_succ, List.getElem?_cons_zero, rd_tree, rd_own, O.bind_ok, l_gt, lhs_gt, oOpt_some, e6, decide_true, if_true, opV_sub, tv_int, b_sub, R.val_ok, mkV_f, e2, e3, row_0, c]
      simp only [whlV, this, O.then_ok, if_true, insPos, e5, c]
      simp only [b_in_order_0, runFnV, execsV, execV.eq_1, execV.eq_2, execV.eq_3, execV.eq_4, execV.eq_6, execV.eq_7, execV.eq_8, execV.eq_10, execV.eq_11, execV.eq_12, execV.eq_13, execV.eq_14, execV.eq_15, evalV, evalsT, evalsA, evalsS, evalOV, sourceV, srcFor, seqE, wipeV, assignNV, ownL, ownX, frzV, notBox, finV, seqV, partI, pureM, mask, boxLt, boxLtL, boxLtD, List.getElem?_cons_succ, List.getElem?_cons_zero, rd_tree, O.bind_ok, opV_sub, tv_int, b_sub, R.val_ok, mkV_f, e2, popOf_bin, O.then_ok, sv_tree, VS.next_nx, List.set_cons_succ, List.set_cons_zero]
      rw [e7]
      exact ih
    · have : evalV (gv n) w_in_order_0 [x0, some ⟨.own, .lst (l.map rowV)⟩, some ⟨.tree, rowV r⟩, some ⟨.tree, .int ((a + 1 : Nat) : Int)⟩] = .ok ⟨.tree, .bool false⟩ := by
        simp only [w_in_order_0, runFnV, execsV, execV.eq_1, execV.eq_2, execV.eq_3, execV.eq_4, execV.eq_6, execV.eq_7, execV.eq_8, execV.eq_10, execV.eq_11, execV.eq_12, execV.eq_13, execV.eq_14, execV.eq_15, evalV, evalsT, evalsA, evalsS, evalOV, sourceV, srcFor, seqE, wipeV, assignNV, ownL, ownX, frzV, notBox, finV, seqV, partI, pureM, mask, boxLt, boxLtL, boxLtD, List.getElem?_cons_succ, List.getElem?_cons_zero, rd_tree, rd_own, O.bind_ok, l_gt, lhs_gt, oOpt_some, e6, decide_true, if_true, opV_sub, tv_int, b_sub, R.val_ok, mkV_f, e2, e3, row_0, c, decide_false]
      simp only [whlV, this, O.then_ok, insPos, e5, c, if_false]
      rfl
theorem v_in_order (n : Nat) (l : List Row) (hl : l.length < 1000) : fv (n + 1) i_in_order [⟨.tree, .lst (l.map rowV)⟩] = .ok ⟨.tree, .lst ((orderR l).map rowV)⟩ := by
  have loop := forV_inv (b := bodyV (gv n) (.name 2) b_in_order_1) (ρ0 := [some ⟨.tree, .lst (l.map rowV)⟩, some ⟨.own, .lst []⟩, none, none])
    (fun d : List Row => [some ⟨.tree, .lst (l.map rowV)⟩, some ⟨.own, .lst (d.map rowV)⟩, none, none]) insRow (fun rs d => d.length + rs.length < 1000) rowV (fun r rs d hd => by
      simp only [List.length_cons] at hd
      have hw := fun ρ0 h => order_while n d r (some ⟨.tree, .lst (l.map rowV)⟩) rfl ρ0 h d.length 1000 (by omega) (Nat.le_refl _)
      have hp := insPos_le d r.1 d.length
      have hl : (d.map rowV).take (insPos d r.1 d.length) ++ rowV r :: (d.map rowV).drop (insPos d r.1 d.length) = (insRow d r).map rowV := by
        simp [insRow, List.map_take, List.map_drop]
      have hi : (0 : Int) ≤ (insPos d r.1 d.length : Nat) ∧ ((insPos d r.1 d.length : Nat) : Int) ≤ (d.map rowV).length ∧ (d.map rowV).length < sizeLine := ⟨by omega, by simp; omega, by simp; omega⟩
      constructor
      · have e1 : execsV (gv n) b_in_order_1 [some ⟨.tree, .lst (l.map rowV)⟩, some ⟨.own, .lst (d.map rowV)⟩, some ⟨.tree, rowV r⟩, none] = .nx [some ⟨.tree, .lst (l.map rowV)⟩, some ⟨.own, .lst ((insRow d r).map rowV)⟩, some ⟨.tree, rowV r⟩, some ⟨.tree, .int (insPos d r.1 d.length : Nat)⟩] := by
          simp only [b_in_order_1, runFnV, execsV, execV.eq_1, execV.eq_2, execV.eq_3, execV.eq_4, execV.eq_6, execV.eq_7, execV.eq_8, execV.eq_10, execV.eq_11, execV.eq_12, execV.eq_13, execV.eq_14, execV.eq_15, evalV, evalsT, evalsA, evalsS, evalOV, sourceV, srcFor, seqE, wipeV, assignNV, ownL, ownX, frzV, notBox, finV, seqV, partI, pureM, mask, boxLt, boxLtL, boxLtD, popOf_bi, List.getElem?_cons_succ, List.getElem?_cons_zero, rd_own, rd_bor, O.bind_ok, List.map_cons, List.map_nil, f_lenL, List.length_map, R.val_ok, mkV_f, O.then_ok, sv_tree, List.set_cons_succ, List.set_cons_zero, VS.next_nx]
          rw [hw _ (fun a => by simp [mask])]
          simp only [runFnV, execsV, execV.eq_1, execV.eq_2, execV.eq_3, execV.eq_4, execV.eq_6, execV.eq_7, execV.eq_8, execV.eq_10, execV.eq_11, execV.eq_12, execV.eq_13, execV.eq_14, execV.eq_15, evalV, evalsT, evalsA, evalsS, evalOV, sourceV, srcFor, seqE, wipeV, assignNV, ownL, ownX, frzV, notBox, finV, seqV, partI, pureM, mask, boxLt, boxLtL, boxLtD, VS.next_nx, mutOf_insert, popOf_var, List.getElem?_cons_succ, List.getElem?_cons_zero, oOpt_some, O.then_ok, rd_tree, row_tv, hi, and_self, if_true, List.set_cons_succ, List.set_cons_zero, Int.toNat_natCast, hl]
        simp [e1, mask]
      · rw [insRow_len]
        omega) l [] (by simpa using hl)
  have loop := loop.1
  simp only [List.map_nil] at loop
  simp [fv_in_order, m_in_order, runFnV, execsV, execV.eq_1, execV.eq_2, execV.eq_3, execV.eq_4, execV.eq_6, execV.eq_7, execV.eq_8, execV.eq_10, execV.eq_11, execV.eq_12, execV.eq_13, execV.eq_14, execV.eq_15, evalV, evalsT, evalsA, evalsS, evalOV, sourceV, srcFor, seqE, wipeV, assignNV, ownL, ownX, frzV, notBox, finV, seqV, partI, pureM, mask, boxLt, boxLtL, boxLtD, loop, orderR]
end Z

set_option maxHeartbeats 200000
set_option maxRecDepth 512
set_option maxRecDepth 100000
/-! merged, by_keys_parted, from_to, keys_changed; sorted rows. -/
namespace Z
theorem order_sorted : ∀ (l acc : List Row), (acc ++ l).Pairwise (fun a b => a.1 ≤ b.1) → l.foldl insRow acc = acc ++ l
  | [], acc, _ => by simp
  | r :: l, acc, h => by
    have e : insRow acc r = acc ++ [r] := by
      have := insRow_split acc [] r (fun q hq => (List.pairwise_append.mp h).2.2 q hq r List.mem_cons_self) (by simp)
      simpa using this
    rw [List.foldl_cons, e, order_sorted l (acc ++ [r]) (by simpa using h)]
    simp
theorem orderR_sorted {l : List Row} (h : l.Pairwise fun a b => a.1 ≤ b.1) : orderR l = l := order_sorted l [] h
theorem insRow_perm (l : List Row) (r : Row) : (insRow l r).Perm (r :: l) := by
  unfold insRow
  refine List.perm_middle.trans ?_
  rw [List.take_append_drop]
theorem fold_perm : ∀ (l acc : List Row), (l.foldl insRow acc).Perm (acc ++ l)
  | [], acc => by simp
  | r :: l, acc => by
    rw [List.foldl_cons]
    refine (fold_perm l _).trans ?_
    refine ((insRow_perm acc r).append_right l).trans ?_
    exact List.perm_middle.symm
theorem orderR_perm (l : List Row) : (orderR l).Perm l := fold_perm l []
theorem orderR_len (l : List Row) : (orderR l).length = l.length := (orderR_perm l).length_eq
def logsV (L : List (List Row)) : List PV := L.map fun l => .lst (l.map rowV)
theorem v_merged_x (n : Nat) (x : PV) (L : List (List Row)) (hx : seqV x = some (logsV L)) (h : ∀ l ∈ L, Log l) (hl : L.flatten.length < 1000) : fv (n + 5) i_merged [⟨.tree, x⟩] = .ok ⟨.tree, .lst ((orderR L.flatten).map rowV)⟩ := by
  have loop := forV_inv (b := bodyV (gv (n + 4)) (.name 2) b_merged_0) (ρ0 := [some ⟨.tree, x⟩, some ⟨.own, .lst []⟩, none])
    (fun d : List Row => [some ⟨.tree, x⟩, some ⟨.own, .lst (d.map rowV)⟩, none]) (fun d l => d ++ l) (fun rs d => d.length + rs.flatten.length < 1000 ∧ ∀ l ∈ rs, Log l) (fun l => .lst (l.map rowV)) (fun l rs d hd => by
      have e := v_look_log n l (hd.2 l List.mem_cons_self)
      have hz : d.length + l.length ≤ 16777216 := by have := hd.1; simp only [List.flatten_cons, List.length_append] at this; omega
      constructor
      · simp [b_merged_0, runFnV, execsV, execV.eq_1, execV.eq_2, execV.eq_3, execV.eq_4, execV.eq_6, execV.eq_7, execV.eq_8, execV.eq_10, execV.eq_11, execV.eq_12, execV.eq_13, execV.eq_14, execV.eq_15, evalV, evalsT, evalsA, evalsS, evalOV, sourceV, srcFor, seqE, wipeV, assignNV, ownL, ownX, frzV, notBox, finV, seqV, partI, pureM, mask, boxLt, boxLtL, boxLtD, e, hz]
      · refine ⟨?_, fun q hq => hd.2 q (List.mem_cons_of_mem _ hq)⟩
        have := hd.1
        simp only [List.flatten_cons, List.length_append] at this ⊢
        omega) L [] ⟨by simpa using hl, h⟩
  have loop := loop.1
  have fold : ∀ (rs : List (List Row)) (d : List Row), rs.foldl (fun d l => d ++ l) d = d ++ rs.flatten := fun rs => by
    induction rs with
    | nil => intro d; simp
    | cons r rs ih => intro d; rw [List.foldl_cons, ih]; simp
  rw [fold, List.nil_append] at loop
  have e := v_in_order (n + 3) L.flatten hl
  simp only [List.map_nil] at loop
  rw [show (L.map fun l => PV.lst (l.map rowV)) = logsV L from rfl] at loop
  have hs : ∀ ρ : VEnv, ρ[0]? = some (some ⟨.tree, x⟩) → srcFor (gv (n + 4)) (.seq (.var 0)) ρ = .ok (logsV L) := fun ρ h0 => by
    simp [srcFor, seqE, h0, hx]
  generalize L.flatten = F at loop e ⊢
  simp [fv_merged, m_merged, runFnV, execsV, execV.eq_1, execV.eq_2, execV.eq_3, execV.eq_10, evalV, evalsA, evalsT, hs, loop, e, frzV, finV, boxLt]
theorem v_merged (n : Nat) (L : List (List Row)) (h : ∀ l ∈ L, Log l) (hl : L.flatten.length < 1000) : fv (n + 5) i_merged [⟨.tree, .lst (logsV L)⟩] = .ok ⟨.tree, .lst ((orderR L.flatten).map rowV)⟩ := v_merged_x n _ L rfl h hl
theorem v_merged_t (n : Nat) (L : List (List Row)) (h : ∀ l ∈ L, Log l) (hl : L.flatten.length < 1000) : fv (n + 5) i_merged [⟨.tree, .tup (logsV L)⟩] = .ok ⟨.tree, .lst ((orderR L.flatten).map rowV)⟩ := v_merged_x n _ L rfl h hl
/-- the rows of a key -/
def ofKey (l : List Row) (k : Tx) : List Row := l.filter fun r => decide (r.2.1 = k)
def keysOf (l : List Row) : List Tx := sset (l.map fun r => r.2.1)
def parts (l : List Row) : List (Tx × List Row) := (keysOf l).map fun k => (k, ofKey l k)
def partV (p : Tx × List Row) : PV := .tup [.str p.1, .lst (p.2.map rowV)]
theorem keysOf_len (l : List Row) : (keysOf l).length ≤ l.length := by
  have := sset_len (l.map fun r => r.2.1)
  rwa [List.length_map] at this
@[simp] theorem part_box {n : Nat} {l : List (Tx × List Row)} : boxLtL n (l.map partV) = true := boxLtL_map _ (fun p => by simp [partV, boxLt, boxLtL]) _
theorem v_by_keys_parted (n : Nat) (l : List Row) (h : Log l) : fv (n + 5) i_by_keys_parted [⟨.tree, .lst (l.map rowV)⟩] = .ok ⟨.tree, .lst ((parts l).map partV)⟩ := by
  have e := v_look_log n l h
  have hl := h.len
  have hl2 : l.length ≤ 16777216 := by omega
  have hk := keysOf_len l
  have hk2 : (keysOf l).length ≤ 16777216 := by omega
  have c0 : ∀ ρ : VEnv, 2 < ρ.length → ρ[0]? = some (some ⟨.tree, .lst (l.map rowV)⟩) → evalV (gv (n + 4)) c_by_keys_parted_0 ρ = .ok ⟨.tree, .lst (l.map fun r => .str r.2.1)⟩ := fun ρ hl h0 => by
    simp [c_by_keys_parted_0, runFnV, execsV, execV.eq_1, execV.eq_2, execV.eq_3, execV.eq_4, execV.eq_6, execV.eq_7, execV.eq_8, execV.eq_10, execV.eq_11, execV.eq_12, execV.eq_13, execV.eq_14, execV.eq_15, evalV, evalsT, evalsA, evalsS, evalOV, sourceV, srcFor, seqE, wipeV, assignNV, ownL, ownX, frzV, notBox, finV, seqV, partI, pureM, mask, boxLt, boxLtL, boxLtD, h0, hl, gss (n := 2), hl2]
  have c1 : ∀ (ρ : VEnv) (k : Tx), 2 < ρ.length → ρ[0]? = some (some ⟨.tree, .lst (l.map rowV)⟩) → ρ[1]? = some (some ⟨.tree, .str k⟩) → evalV (gv (n + 4)) c_by_keys_parted_1 ρ = .ok ⟨.tree, .lst ((ofKey l k).map rowV)⟩ := fun ρ k hl h0 h1 => by
    have h4 : (ofKey l k).length ≤ 16777216 := Nat.le_trans (comp_len hl2) (by decide)
    unfold ofKey at h4 ⊢
    simp [c_by_keys_parted_1, runFnV, execsV, execV.eq_1, execV.eq_2, execV.eq_3, execV.eq_4, execV.eq_6, execV.eq_7, execV.eq_8, execV.eq_10, execV.eq_11, execV.eq_12, execV.eq_13, execV.eq_14, execV.eq_15, evalV, evalsT, evalsA, evalsS, evalOV, sourceV, srcFor, seqE, wipeV, assignNV, ownL, ownX, frzV, notBox, finV, seqV, partI, pureM, mask, boxLt, boxLtL, boxLtD, h0, h1, hl, gss (n := 2), h4]
  have e2 := f_set_s (xs := l) (g := fun r => r.2.1) hl
  rw [show sset (l.map fun r => r.2.1) = keysOf l from rfl] at e2
  have c2 : evalV (gv (n + 4)) c_by_keys_parted_2 [some ⟨.tree, .lst (l.map rowV)⟩, none, none] = .ok ⟨.tree, .lst ((parts l).map partV)⟩ := by
    simp [c_by_keys_parted_2, runFnV, execsV, execV.eq_1, execV.eq_2, execV.eq_3, execV.eq_4, execV.eq_6, execV.eq_7, execV.eq_8, execV.eq_10, execV.eq_11, execV.eq_12, execV.eq_13, execV.eq_14, execV.eq_15, evalV, evalsT, evalsA, evalsS, evalOV, sourceV, srcFor, seqE, wipeV, assignNV, ownL, ownX, frzV, notBox, finV, seqV, partI, pureM, mask, boxLt, boxLtL, boxLtD, c0, c1, e2, hk2, parts, partV, Function.comp_def]
  simp [fv_by_keys_parted, m_by_keys_parted, runFnV, execsV, execV.eq_1, execV.eq_2, execV.eq_3, execV.eq_4, execV.eq_6, execV.eq_7, execV.eq_8, execV.eq_10, execV.eq_11, execV.eq_12, execV.eq_13, execV.eq_14, execV.eq_15, evalV, evalsT, evalsA, evalsS, evalOV, sourceV, srcFor, seqE, wipeV, assignNV, ownL, ownX, frzV, notBox, finV, seqV, partI, pureM, mask, boxLt, boxLtL, boxLtD, e, c2]
def between (l : List Row) (b e : Int) : List Row := l.filter fun r => decide (b ≤ r.1) && decide (r.1 < e)
theorem v_from_to (n : Nat) (l : List Row) (b e : Int) (h : Log l) (hb : 0 ≤ b ∧ b ≤ 999) (he : 0 ≤ e ∧ e ≤ 999) : fv (n + 5) i_from_to [⟨.tree, .lst (l.map rowV)⟩, ⟨.tree, .int b⟩, ⟨.tree, .int e⟩] = .ok ⟨.tree, .lst ((between l b e).map rowV)⟩ := by
  have e1 := v_look_log n l h
  have e2 := v_is_whole (n + 3) (.int b) 0 999 rfl
  have e3 := v_is_whole (n + 3) (.int e) 0 999 rfl
  simp [wholeV, hb.1, hb.2] at e2
  simp [wholeV, he.1, he.2] at e3
  have hl := h.len
  have h4 : (between l b e).length ≤ 16777216 := Nat.le_trans (comp_len hl) (by decide)
  unfold between at h4 ⊢
  simp [fv_from_to, m_from_to, c_from_to_0, runFnV, execsV, execV.eq_1, execV.eq_2, execV.eq_3, execV.eq_4, execV.eq_6, execV.eq_7, execV.eq_8, execV.eq_10, execV.eq_11, execV.eq_12, execV.eq_13, execV.eq_14, execV.eq_15, evalV, evalsT, evalsA, evalsS, evalOV, sourceV, srcFor, seqE, wipeV, assignNV, ownL, ownX, frzV, notBox, finV, seqV, partI, pureM, mask, boxLt, boxLtL, boxLtD, e1, e2, e3, h4]
def chg (o w : Tx) (r : Row) : Row := (r.1, if r.2.1 = o then w else r.2.1, r.2.2)
theorem v_keys_changed (n : Nat) (l : List Row) (o w : Tx) (h : Log l) (ho : keyT o = true) (hw : keyT w = true) : fv (n + 5) i_keys_changed [⟨.tree, .lst (l.map rowV)⟩, ⟨.tree, .str o⟩, ⟨.tree, .str w⟩] = .ok ⟨.tree, .lst ((l.map (chg o w)).map rowV)⟩ := by
  have e1 := v_look_log n l h
  have klen : ∀ k : Tx, keyT k = true → k.length ≤ 1000 := fun k hk => by
    simp only [keyT, Bool.and_eq_true, decide_eq_true_eq] at hk
    omega
  have e2 := v_is_key (n + 3) (.str o) rfl (fun s q => by cases q; exact klen o ho)
  have e3 := v_is_key (n + 3) (.str w) rfl (fun s q => by cases q; exact klen w hw)
  simp [keyV, ho] at e2
  simp [keyV, hw] at e3
  have hl := h.len
  have h4 : l.length ≤ 16777216 := by omega
  have c0 : ∀ ρ : VEnv, 5 < ρ.length → ρ[0]? = some (some ⟨.tree, .lst (l.map rowV)⟩) → ρ[1]? = some (some ⟨.tree, .str o⟩) → ρ[2]? = some (some ⟨.tree, .str w⟩) → evalV (gv (n + 4)) c_keys_changed_0 ρ = .ok ⟨.tree, .lst ((l.map (chg o w)).map rowV)⟩ := fun ρ hl h0 h1 h2 => by
    simp [c_keys_changed_0, runFnV, execsV, execV.eq_1, execV.eq_2, execV.eq_3, execV.eq_4, execV.eq_6, execV.eq_7, execV.eq_8, execV.eq_10, execV.eq_11, execV.eq_12, execV.eq_13, execV.eq_14, execV.eq_15, evalV, evalsT, evalsA, evalsS, evalOV, sourceV, srcFor, seqE, wipeV, assignNV, ownL, ownX, frzV, notBox, finV, seqV, partI, pureM, mask, boxLt, boxLtL, boxLtD, h0, h1, h2, hl, gss (n := 5), h4, rowV, chg]
    intro a b c _
    by_cases q : b = o <;> simp [q]
  generalize l.map (chg o w) = C at c0 ⊢
  simp [fv_keys_changed, m_keys_changed, runFnV, execsV, execV.eq_1, execV.eq_2, execV.eq_3, execV.eq_4, execV.eq_6, execV.eq_7, execV.eq_8, execV.eq_10, execV.eq_11, execV.eq_12, execV.eq_13, execV.eq_14, execV.eq_15, evalV, evalsT, evalsA, evalsS, evalOV, sourceV, srcFor, seqE, wipeV, assignNV, ownL, ownX, frzV, notBox, finV, seqV, partI, pureM, mask, boxLt, boxLtL, boxLtD, e1, e2, e3, c0]
/-! rows, sorted -/
theorem perm_sorted {α : Type} {le : α → α → Prop} (anti : ∀ a b, le a b → le b a → a = b) : ∀ {A B : List α}, A.Pairwise le → B.Pairwise le → A.Perm B → A = B
  | [], B, _, _, h => (List.perm_nil.mp h.symm).symm
  | a :: A, [], _, _, h => by simpa using h.length_eq
  | a :: A, b :: B, hA, hB, h => by
    have pA := List.pairwise_cons.mp hA
    have pB := List.pairwise_cons.mp hB
    have e : a = b := by
      rcases List.mem_cons.mp (h.mem_iff.mp List.mem_cons_self) with e | m
      · exact e
      · rcases List.mem_cons.mp (h.mem_iff.mpr List.mem_cons_self) with e | m2
        · exact e.symm
        · exact anti _ _ (pA.1 b m2) (pB.1 a m)
    subst e
    rw [perm_sorted anti pA.2 pB.2 ((List.perm_cons a).mp h)]
def rlt (a b : Row) : Bool := if a.1 = b.1 then (if a.2.1 = b.2.1 then decide (a.2.2 < b.2.2) else ltTx a.2.1 b.2.1) else decide (a.1 < b.1)
theorem rlt_V (a b : Row) : ltP (rowV a) (rowV b) = rlt a b := by
  simp only [rowV, ltP, ltPs, eqv, rlt]
  by_cases h1 : a.1 = b.1 <;> by_cases h2 : a.2.1 = b.2.1 <;> by_cases h3 : a.2.2 = b.2.2 <;> simp [h1, h2, h3]
theorem rlt_asy (a b : Row) (h : rlt a b = true) : rlt b a = false := by
  unfold rlt at h ⊢
  by_cases h1 : a.1 = b.1
  · rw [if_pos h1] at h
    rw [if_pos h1.symm]
    by_cases h2 : a.2.1 = b.2.1
    · rw [if_pos h2] at h
      rw [if_pos h2.symm]
      simp only [decide_eq_true_eq, decide_eq_false_iff_not] at h ⊢
      omega
    · rw [if_neg h2] at h
      rw [if_neg (Ne.symm h2)]
      exact OK.asy (κ := Tx) h
  · rw [if_neg h1] at h
    rw [if_neg (Ne.symm h1)]
    simp only [decide_eq_true_eq, decide_eq_false_iff_not] at h ⊢
    omega
theorem rlt_tra (a b c : Row) (h : rlt a b = true) (g : rlt b c = true) : rlt a c = true := by
  unfold rlt at h g ⊢
  by_cases h1 : a.1 = b.1
  · by_cases g1 : b.1 = c.1
    · rw [if_pos h1] at h
      rw [if_pos g1] at g
      rw [if_pos (h1.trans g1)]
      by_cases h2 : a.2.1 = b.2.1
      · by_cases g2 : b.2.1 = c.2.1
        · rw [if_pos h2] at h
          rw [if_pos g2] at g
          rw [if_pos (h2.trans g2)]
          simp only [decide_eq_true_eq] at h g ⊢
          omega
        · rw [if_neg g2] at g
          rw [if_neg (by rw [h2]; exact g2), h2]
          exact g
      · rw [if_neg h2] at h
        by_cases g2 : b.2.1 = c.2.1
        · rw [if_neg (by rw [← g2]; exact h2), ← g2]
          exact h
        · rw [if_neg g2] at g
          have t : ltTx a.2.1 c.2.1 = true := OK.tra (κ := Tx) _ _ _ h g
          rw [if_neg, t]
          intro e
          rw [e] at t
          exact absurd t (by have := OK.irr (κ := Tx) c.2.1; change ltTx _ _ = false at this; rw [this]; decide)
    · rw [if_neg g1] at g
      rw [if_neg (by rw [h1]; exact g1), h1]
      exact g
  · rw [if_neg h1] at h
    simp only [decide_eq_true_eq] at h
    by_cases g1 : b.1 = c.1
    · rw [if_neg (by rw [← g1]; exact h1), ← g1]
      simpa using h
    · rw [if_neg g1] at g
      simp only [decide_eq_true_eq] at g
      rw [if_neg (by omega)]
      simp only [decide_eq_true_eq]
      omega
theorem rlt_tri (a b : Row) : rlt a b = true ∨ a = b ∨ rlt b a = true := by
  unfold rlt
  by_cases h1 : a.1 = b.1
  · rw [if_pos h1, if_pos h1.symm]
    by_cases h2 : a.2.1 = b.2.1
    · rw [if_pos h2, if_pos h2.symm]
      simp only [decide_eq_true_eq]
      by_cases h3 : a.2.2 = b.2.2
      · exact .inr (.inl (Prod.ext h1 (Prod.ext h2 h3)))
      · omega
    · rw [if_neg h2, if_neg (Ne.symm h2)]
      rcases OK.tri (κ := Tx) a.2.1 b.2.1 with h | h | h
      · exact .inl h
      · exact absurd h h2
      · exact .inr (.inr h)
  · rw [if_neg h1, if_neg (Ne.symm h1)]
    simp only [decide_eq_true_eq]
    omega
def rle (a b : Row) : Bool := !rlt b a
theorem rle_tra (a b c : Row) (h1 : rle a b = true) (h2 : rle b c = true) : rle a c = true := by
  simp only [rle, Bool.not_eq_true'] at h1 h2 ⊢
  cases q : rlt c a with
  | false => rfl
  | true =>
    rcases rlt_tri b c with h | rfl | h
    · rw [rlt_tra b c a h q] at h1
      cases h1
    · rw [q] at h1
      cases h1
    · rw [h] at h2
      cases h2
theorem rle_tot (a b : Row) : (rle a b || rle b a) = true := by
  simp only [rle]
  cases q : rlt b a with
  | false => rfl
  | true => rw [rlt_asy _ _ q]; rfl
theorem rle_anti (a b : Row) (h1 : rle a b = true) (h2 : rle b a = true) : a = b := by
  simp only [rle, Bool.not_eq_true'] at h1 h2
  rcases rlt_tri a b with h | h | h
  · rw [h] at h2
    cases h2
  · exact h
  · rw [h] at h1
    cases h1
def rsort (l : List Row) : List Row := l.mergeSort rle
theorem rsort_perm {l m : List Row} (h : l.Perm m) : rsort l = rsort m :=
  perm_sorted (le := fun a b => rle a b = true) rle_anti (List.pairwise_mergeSort rle_tra rle_tot l) (List.pairwise_mergeSort rle_tra rle_tot m) ((List.mergeSort_perm l _).trans (h.trans (List.mergeSort_perm m _).symm))
theorem f_sortedR {l : List Row} (h : l.length ≤ 1000) : bfn .sorted false [.lst (l.map rowV)] [] = .ok (.lst ((rsort l).map rowV)) [] := by
  have c : okSort (l.map rowV) = true := by
    simp only [okSort, Bool.and_eq_true, Bool.or_eq_true, decide_eq_true_eq, List.length_map, List.all_map, List.all_eq_true, Function.comp]
    refine ⟨⟨⟨h, plainL_map _ (fun _ => row_plain) _⟩, fun a _ b _ => ?_⟩, .inl fun a _ => rfl⟩
    simp only [rowV, likeP, likePs, Bool.and_self]
  show (if okSort (l.map rowV) = true then mkLst false (sortP (l.map rowV)) [] else .bad) = _
  rw [if_pos c]
  unfold sortP rsort
  rw [List.map_mergeSort (r := rle) (s := leP) (f := rowV) fun a _ b _ => by simp only [rle, leP, rlt_V]]
  rfl
end Z

set_option maxHeartbeats 200000
set_option maxRecDepth 512
set_option maxRecDepth 100000
/-! logs, parted and together: mathematics. -/
namespace Z
@[simp] theorem idx_l0 {v : PV} {r : List PV} : idxf (.lst (v :: r)) (.int 0) [] = .ok v [] := by rw [i_lst (by decide)]; rfl
@[simp] theorem idx_l1 {u v : PV} {r : List PV} : idxf (.lst (u :: v :: r)) (.int 1) [] = .ok v [] := by rw [i_lst (by decide)]; rfl
@[simp] theorem idx_l2 {u w v : PV} {r : List PV} : idxf (.lst (u :: w :: v :: r)) (.int 2) [] = .ok v [] := by rw [i_lst (by decide)]; rfl
theorem l_inS {α : Type} {g : α → Tx} {a : Tx} {xs : List α} : cmpV .isIn (.str a) (.lst (xs.map fun x => .str (g x))) [] = some (decide (a ∈ xs.map g)) := by
  have hp := plainL_map (n := 59) (fun x => PV.str (g x)) (fun _ => rfl) xs
  show inV [] (.str a) (.lst (xs.map fun x => .str (g x))) = _
  simp only [inV, res, plain, hp, and_self, if_true]
  congr 1
  rw [List.any_map]
  induction xs with
  | nil => rfl
  | cons x xs ih =>
    have hp' := plainL_map (n := 59) (fun x => PV.str (g x)) (fun _ => rfl) xs
    rw [List.any_cons, ih hp']
    simp only [Function.comp, eqv, List.map_cons, List.mem_cons]
    by_cases h : g x = a
    · simp [h]
    · have h' : ¬ a = g x := fun q => h q.symm
      simp [h, h']
theorem pair_sorted : ∀ {l : List Row}, (l.Pairwise fun a b => a.1 ≤ b.1) → sortedB l = true
  | [], _ => rfl
  | [a], _ => rfl
  | a :: b :: r, h => by
    have p := List.pairwise_cons.mp h
    simp only [sortedB, Bool.and_eq_true, decide_eq_true_eq]
    exact ⟨p.1 b List.mem_cons_self, pair_sorted p.2⟩
theorem Log.sub {l m : List Row} (h : Log l) (s : m.Sublist l) : Log m :=
  ⟨fun r hr => h.ok r (s.mem hr), pair_sorted ((sorted_pair h.so).sublist s), Nat.le_trans s.length_le h.len⟩
theorem dueF_pair (l : List Row) : ∀ (n lo : Nat), (dueF l lo n).Pairwise fun a b => a.1 ≤ b.1
  | 0, lo => .nil
  | n + 1, lo => by
    rw [Nat.add_comm n 1, dueF_add]
    refine List.pairwise_append.mpr ⟨?_, dueF_pair l n (lo + 1), fun a ha b hb => ?_⟩
    · refine List.Pairwise.imp_of_mem (R := fun _ _ => True) (fun {a b} ha hb _ => ?_) (List.pairwise_of_forall fun _ _ => trivial)
      have h1 := dueF_mem ha
      have h2 := dueF_mem hb
      omega
    · have h1 := dueF_mem ha
      have h2 := dueF_mem hb
      omega
theorem split_at (l : List Row) (h : l.Pairwise fun a b => a.1 ≤ b.1) (e : Int) : (l.filter fun r => decide (r.1 < e)) ++ (l.filter fun r => decide (e ≤ r.1)) = l := by
  induction l with
  | nil => rfl
  | cons a l ih =>
    have p := List.pairwise_cons.mp h
    have ih := ih p.2
    by_cases c : a.1 < e
    · have c' : ¬ e ≤ a.1 := by omega
      simp [c, c', ih]
    · have c' : e ≤ a.1 := by omega
      have h1 : (l.filter fun r => decide (r.1 < e)) = [] := List.filter_eq_nil_iff.mpr fun b hb => by
        have := p.1 b hb
        simp
        omega
      rw [h1] at ih
      simp [c, c', h1] at ih ⊢
      exact ih
theorem between_split (l : List Row) (h : Log l) (f e : Int) (hf : 0 ≤ f) (he : f ≤ e) : between l 0 f ++ between l f e ++ between l e 999 = l := by
  have s := sorted_pair h.so
  have e1 : between l 0 f = l.filter fun r => decide (r.1 < f) := List.filter_congr fun r hr => by
    have := h.bd hr
    have : 0 ≤ r.1 := this.1
    simp [this]
  have e2 : between l e 999 = l.filter fun r => decide (e ≤ r.1) := List.filter_congr fun r hr => by
    have := h.bd hr
    have : r.1 < 999 := by omega
    simp [this]
  have e3 : between l f e = (l.filter fun r => decide (f ≤ r.1)).filter fun r => decide (r.1 < e) := by
    unfold between
    rw [List.filter_filter]
    exact List.filter_congr fun r _ => Bool.and_comm ..
  have e4 : (l.filter fun r => decide (e ≤ r.1)) = (l.filter fun r => decide (f ≤ r.1)).filter fun r => decide (e ≤ r.1) := by
    rw [List.filter_filter]
    refine List.filter_congr fun r _ => ?_
    by_cases c : e ≤ r.1
    · have : f ≤ r.1 := by omega
      simp [c, this]
    · simp [c]
  rw [e1, e2, e3, e4, List.append_assoc, split_at _ (s.filter _), split_at l s]
theorem between_none (l : List Row) {b e : Int} (h : e ≤ b) : between l b e = [] := List.filter_eq_nil_iff.mpr fun r _ => by
  simp
  omega
theorem key_parts : ∀ (ks : List Tx) (l : List Row), ks.Nodup → (∀ r ∈ l, r.2.1 ∈ ks) → ((ks.map (ofKey l)).flatten).Perm l
  | [], l, _, h => by
    have : l = [] := List.eq_nil_iff_forall_not_mem.mpr fun r hr => by simpa using h r hr
    subst this
    exact .refl _
  | k :: ks, l, hn, h => by
    have hn := List.nodup_cons.mp hn
    have ih := key_parts ks (l.filter fun r => !decide (r.2.1 = k)) hn.2 fun r hr => by
      have h1 := List.mem_filter.mp hr
      have h2 : ¬ r.2.1 = k := by simpa using h1.2
      exact (List.mem_cons.mp (h r h1.1)).resolve_left h2
    have e : ks.map (ofKey (l.filter fun r => !decide (r.2.1 = k))) = ks.map (ofKey l) := List.map_congr_left fun k' hk' => by
      unfold ofKey
      rw [List.filter_filter]
      refine List.filter_congr fun r _ => ?_
      by_cases c : r.2.1 = k'
      · have : ¬ r.2.1 = k := fun q => hn.1 (by rw [← q, c]; exact hk')
        simp [c]
        exact fun q => this (c.trans q)
      · simp [c]
    rw [e] at ih
    rw [List.map_cons, List.flatten_cons]
    exact (ih.append_left _).trans (List.filter_append_perm _ _)
theorem chg_self (o : Tx) (r : Row) : chg o o r = r := by
  obtain ⟨a, b, c⟩ := r
  unfold chg
  by_cases h : b = o <;> simp [h]
theorem chg_back {o w : Tx} {r : Row} (h : r.2.1 ≠ w) : chg w o (chg o w r) = r := by
  obtain ⟨a, b, c⟩ := r
  unfold chg
  simp only at h ⊢
  by_cases q : b = o
  · simp [q]
  · simp [q, h]
theorem chg_log {l : List Row} (h : Log l) {o w : Tx} (hw : keyT w = true) : Log (l.map (chg o w)) := by
  refine ⟨fun r hr => ?_, pair_sorted ?_, by simpa using h.len⟩
  · obtain ⟨q, hq, rfl⟩ := List.mem_map.mp hr
    have := h.ok q hq
    simp only [rowB, Bool.and_eq_true] at this
    simp only [rowB, chg, Bool.and_eq_true]
    refine ⟨?_, this.2⟩
    split
    · exact hw
    · exact this.1
  · exact List.pairwise_map.mpr (sorted_pair h.so)
theorem f_sorted2 (a b : Int) : ∃ c d : Int, bfn .sorted false [.lst [.int a, .int b]] [] = .ok (.lst [.int c, .int d]) [] ∧ c ≤ d ∧ ((c = a ∧ d = b) ∨ (c = b ∧ d = a)) := by
  have c : okSort [.int a, .int b] = true := by simp [okSort, plainL, plain, likeP, tupNE, atomP]
  have e : sortP [.int a, .int b] = ([a, b].mergeSort leK).map .int := sortP_map (κ := Int) [a, b]
  have f : bfn .sorted false [.lst [.int a, .int b]] [] = .ok (.lst (([a, b].mergeSort leK).map .int)) [] := by
    show (if okSort [.int a, .int b] = true then mkLst false (sortP [.int a, .int b]) [] else .bad) = _
    rw [if_pos c, e]
    rfl
  have le_i : ∀ x y : Int, leK x y = true ↔ x ≤ y := fun x y => by
    show (!decide (y < x)) = true ↔ _
    simp
  by_cases h : a ≤ b
  · have : [a, b].mergeSort leK = [a, b] := List.mergeSort_of_pairwise (by simp [le_i, h])
    rw [this] at f
    exact ⟨a, b, f, h, .inl ⟨rfl, rfl⟩⟩
  · have : [a, b].mergeSort leK = [b, a] := perm_sorted (le := fun x y : Int => leK x y = true) (fun x y h1 h2 => by rw [le_i] at h1 h2; omega) (List.pairwise_mergeSort leK_tra leK_tot _) (by simp [le_i]; omega) ((List.mergeSort_perm _ _).trans (.swap _ _ _))
    rw [this] at f
    exact ⟨b, a, f, by omega, .inr ⟨rfl, rfl⟩⟩
end Z

set_option maxHeartbeats 200000
set_option maxRecDepth 512
set_option maxRecDepth 100000
/-! the law k13. -/
namespace Z
section
variable (ns : List Int)
def k13n : Nat := (pick ns 900 4).toNat
def k13L : List (List Row) := (List.range (k13n ns)).map fun (k : Nat) => drawRows ns (200 * k) 4
def k13R : List Row := drawRows ns 1200 12
theorem k13_n : k13n ns ≤ 4 := by
  have := pick_lt ns 900 4 (by decide)
  unfold k13n
  omega
theorem k13_logs : ∀ l ∈ k13L ns, Log l := fun l h => by
  obtain ⟨k, _, rfl⟩ := List.mem_map.mp h
  exact draw_log ns _ 4 (by decide) (by decide)
theorem flat_le {α : Type} (c : Nat) : ∀ (L : List (List α)), (∀ l ∈ L, l.length ≤ c) → L.flatten.length ≤ c * L.length
  | [], _ => by simp
  | l :: L, h => by
    have h1 := h l List.mem_cons_self
    have h2 := flat_le c L fun x hx => h x (List.mem_cons_of_mem _ hx)
    simp only [List.flatten_cons, List.length_append, List.length_cons, Nat.mul_add, Nat.mul_one]
    omega
theorem k13_flat : (k13L ns).flatten.length ≤ 16 := by
  have h := flat_le 4 (k13L ns) fun l hl => by
    obtain ⟨k, _, rfl⟩ := List.mem_map.mp hl
    have := draw_len ns (200 * k) 4 (by decide)
    omega
  have h2 : (k13L ns).length = k13n ns := by simp [k13L]
  have h3 := k13_n ns
  rw [h2] at h
  omega
theorem k13_log : Log (k13R ns) := draw_log ns 1200 12 (by decide) (by decide)
theorem k13_len : (k13R ns).length ≤ 12 := by
  have := draw_len ns 1200 12 (by decide)
  unfold k13R
  omega
theorem k13_c0 (ρ : VEnv) (hl : 16 < ρ.length) (h0 : ρ[0]? = some (some ⟨.tree, .kls ns⟩)) : evalV (gv 5) c_law_k13_0 ρ = .ok ⟨.tree, .lst (logsV (k13L ns))⟩ := by
  have e1 := v__law_pick 3 ns 900 4 (by decide) (by decide)
  have n1 := pick_nn ns 900 4 (by decide)
  have n2 := pick_lt ns 900 4 (by decide)
  have hr : pick ns 900 4 < 1000000000 ∧ -1000000000 < pick ns 900 4 := by omega
  have e2 := fun k : Nat => v__law_rows 1 ns (200 * (k : Int)) 4 (by omega) (by decide) (by decide)
  have hm := k13_n ns
  unfold logsV k13L
  unfold k13n at hm ⊢
  have hm2 : pick ns 900 4 ≤ 16777216 := by omega
  simp only [Nat.reduceAdd] at e1 e2
  simp [c_law_k13_0, runFnV, execsV, execV.eq_1, execV.eq_2, execV.eq_3, execV.eq_4, execV.eq_6, execV.eq_7, execV.eq_8, execV.eq_10, execV.eq_11, execV.eq_12, execV.eq_13, execV.eq_14, execV.eq_15, evalV, evalsT, evalsA, evalsS, evalOV, sourceV, srcFor, seqE, wipeV, assignNV, ownL, ownX, frzV, notBox, finV, seqV, partI, pureM, mask, boxLt, boxLtL, boxLtD, h0, e1, hr, hl, gss (n := 16), b_mulL (i := 200) (by decide), e2, hm2, Function.comp_def]
def k13E (a1 a2 a3 a7 a8 : Option SV) : VEnv := [some ⟨.tree, .kls ns⟩, a1, a2, a3, none, none, none, a7, a8, none, none, none, none, none, none, none, none]
theorem k13_c1 (ρ : VEnv) (l : List Row) (m : Int) (hl : 16 < ρ.length) (h3 : ρ[3]? = some (some ⟨.tree, .lst (l.map rowV)⟩)) (h2 : ρ[2]? = some (some ⟨.tree, .int m⟩)) (hz : l.length ≤ 17000) : evalV (gv 5) c_law_k13_1 ρ = .ok ⟨.tree, .lst ((l.filter fun r => decide (r.1 = m)).map rowV)⟩ := by
  have h4 : (l.filter fun r => decide (r.1 = m)).length ≤ 16777216 := Nat.le_trans (comp_len hz) (by decide)
  simp [c_law_k13_1, runFnV, execsV, execV.eq_1, execV.eq_2, execV.eq_3, execV.eq_4, execV.eq_6, execV.eq_7, execV.eq_8, execV.eq_10, execV.eq_11, execV.eq_12, execV.eq_13, execV.eq_14, execV.eq_15, evalV, evalsT, evalsA, evalsS, evalOV, sourceV, srcFor, seqE, wipeV, assignNV, ownL, ownX, frzV, notBox, finV, seqV, partI, pureM, mask, boxLt, boxLtL, boxLtD, h2, h3, hl, gss (n := 16), h4]
theorem k13_inner (a7 : Option SV) (m : Int) (acc : List Row) (ha : acc.length ≤ 16000) : forV (bodyV (gv 5) (.name 3) b_law_k13_0) (k13E ns (some ⟨.tree, .lst (logsV (k13L ns))⟩) (some ⟨.tree, .int m⟩) none a7 (some ⟨.own, .lst (acc.map rowV)⟩)) (logsV (k13L ns)) (k13E ns (some ⟨.tree, .lst (logsV (k13L ns))⟩) (some ⟨.tree, .int m⟩) none a7 (some ⟨.own, .lst (acc.map rowV)⟩)) =
    .nx (k13E ns (some ⟨.tree, .lst (logsV (k13L ns))⟩) (some ⟨.tree, .int m⟩) none a7 (some ⟨.own, .lst ((acc ++ (k13L ns).flatten.filter fun r => decide (r.1 = m)).map rowV)⟩)) := by
  have loop := forV_inv (b := bodyV (gv 5) (.name 3) b_law_k13_0) (ρ0 := k13E ns (some ⟨.tree, .lst (logsV (k13L ns))⟩) (some ⟨.tree, .int m⟩) none a7 (some ⟨.own, .lst (acc.map rowV)⟩))
    (fun d : List Row => k13E ns (some ⟨.tree, .lst (logsV (k13L ns))⟩) (some ⟨.tree, .int m⟩) none a7 (some ⟨.own, .lst (d.map rowV)⟩)) (fun d l => d ++ l.filter fun r => decide (r.1 = m)) (fun rs d => d.length + rs.flatten.length ≤ 17000) (fun l => .lst (l.map rowV)) (fun l rs d hd => by
      simp only [List.flatten_cons, List.length_append] at hd
      have e1 := fun ρ hl h3 h2 => k13_c1 ρ l m hl h3 h2
      have hf := List.length_filter_le (fun r : Row => decide (r.1 = m)) l
      have hz : d.length + (l.filter fun r => decide (r.1 = m)).length ≤ 16777216 := by omega
      constructor
      · have hl : l.length ≤ 17000 := by omega
        cases a7 <;> simp [b_law_k13_0, k13E, runFnV, execsV, execV.eq_1, execV.eq_2, execV.eq_3, execV.eq_4, execV.eq_6, execV.eq_7, execV.eq_8, execV.eq_10, execV.eq_11, execV.eq_12, execV.eq_13, execV.eq_14, execV.eq_15, evalV, evalsT, evalsA, evalsS, evalOV, sourceV, srcFor, seqE, wipeV, assignNV, ownL, ownX, frzV, notBox, finV, seqV, partI, pureM, mask, boxLt, boxLtL, boxLtD, e1, hl, hz]
      · simp only [List.length_append]
        omega) (k13L ns) acc (by have := k13_flat ns; omega)
  have loop := loop.1
  have fold : ∀ (rs : List (List Row)) (d : List Row), rs.foldl (fun d l => d ++ l.filter fun r => decide (r.1 = m)) d = d ++ rs.flatten.filter fun r => decide (r.1 = m) := fun rs => by
    induction rs with
    | nil => intro d; simp
    | cons r rs ih => intro d; rw [List.foldl_cons, ih]; simp
  rw [fold] at loop
  exact loop
theorem k13_outer (a7 : Option SV) : forV (bodyV (gv 5) (.name 2) b_law_k13_1) (k13E ns (some ⟨.tree, .lst (logsV (k13L ns))⟩) none none a7 (some ⟨.own, .lst []⟩)) ((List.range 100).map fun (k : Nat) => .int k) (k13E ns (some ⟨.tree, .lst (logsV (k13L ns))⟩) none none a7 (some ⟨.own, .lst []⟩)) =
    .nx (k13E ns (some ⟨.tree, .lst (logsV (k13L ns))⟩) none none a7 (some ⟨.own, .lst ((orderR (k13L ns).flatten).map rowV)⟩)) := by
  have loop := forV_inv (b := bodyV (gv 5) (.name 2) b_law_k13_1) (ρ0 := k13E ns (some ⟨.tree, .lst (logsV (k13L ns))⟩) none none a7 (some ⟨.own, .lst []⟩))
    (fun d : List Row => k13E ns (some ⟨.tree, .lst (logsV (k13L ns))⟩) none none a7 (some ⟨.own, .lst (d.map rowV)⟩)) (fun d (m : Nat) => d ++ (k13L ns).flatten.filter fun r => decide (r.1 = (m : Int))) (fun rs d => d.length + 16 * rs.length ≤ 16000) (fun (k : Nat) => .int k) (fun m rs d hd => by
      simp only [List.length_cons] at hd
      have e1 := k13_inner ns a7 m d (by omega)
      constructor
      · simp only [k13E] at e1 ⊢
        cases a7 <;> simp [b_law_k13_1, runFnV, execsV, execV.eq_1, execV.eq_2, execV.eq_3, execV.eq_4, execV.eq_6, execV.eq_7, execV.eq_8, execV.eq_10, execV.eq_11, execV.eq_12, execV.eq_13, execV.eq_14, execV.eq_15, evalV, evalsT, evalsA, evalsS, evalOV, sourceV, srcFor, seqE, wipeV, assignNV, ownL, ownX, frzV, notBox, finV, seqV, partI, pureM, mask, boxLt, boxLtL, boxLtD, e1]
      · have h1 := List.length_filter_le (fun r : Row => decide (r.1 = (m : Int))) (k13L ns).flatten
        have h2 := k13_flat ns
        simp only [List.length_append]
        omega) (List.range 100) [] (by simp)
  have loop := loop.1
  have fold : ∀ (rs : List Nat) (d : List Row), rs.foldl (fun d (m : Nat) => d ++ (k13L ns).flatten.filter fun r => decide (r.1 = (m : Int))) d = d ++ rs.flatMap fun (m : Nat) => (k13L ns).flatten.filter fun r => decide (r.1 = (m : Int)) := fun rs => by
    induction rs with
    | nil => intro d; simp
    | cons r rs ih => intro d; rw [List.foldl_cons, ih]; simp
  rw [fold, List.nil_append] at loop
  have e2 : (List.range 100).flatMap (fun (m : Nat) => (k13L ns).flatten.filter fun r => decide (r.1 = (m : Int))) = orderR (k13L ns).flatten := by
    rw [orderR_due _ (fun r hr => by
      obtain ⟨l, hl, hr⟩ := List.mem_flatten.mp hr
      have := (k13_logs ns l hl).bd hr
      omega)]
    rw [List.range_eq_range']
    rfl
  rw [e2] at loop
  exact loop
def k13M : List Row := orderR (k13L ns).flatten
theorem k13_M : k13M ns = dueF (k13L ns).flatten 0 100 := orderR_due _ (fun r hr => by
      obtain ⟨l, hl, hr⟩ := List.mem_flatten.mp hr
      have := (k13_logs ns l hl).bd hr
      omega)
theorem k13_c2 (n : Nat) (ρ : VEnv) (P : List (Tx × List Row)) (hl : 16 < ρ.length) (h4 : ρ[4]? = some (some ⟨.tree, .lst (P.map partV)⟩)) (hz : P.length ≤ 1000) : evalV (gv n) c_law_k13_2 ρ = .ok ⟨.tree, .lst (P.map fun p => .str p.1)⟩ := by
  have h5 : P.length ≤ 16777216 := by omega
  simp [c_law_k13_2, runFnV, execsV, execV.eq_1, execV.eq_2, execV.eq_3, execV.eq_4, execV.eq_6, execV.eq_7, execV.eq_8, execV.eq_10, execV.eq_11, execV.eq_12, execV.eq_13, execV.eq_14, execV.eq_15, evalV, evalsT, evalsA, evalsS, evalOV, sourceV, srcFor, seqE, wipeV, assignNV, ownL, ownX, frzV, notBox, finV, seqV, partI, pureM, mask, boxLt, boxLtL, boxLtD, h4, hl, gss (n := 16), h5, partV]
theorem k13_c5 (n : Nat) (ρ : VEnv) (P : List (Tx × List Row)) (hl : 16 < ρ.length) (h4 : ρ[4]? = some (some ⟨.tree, .lst (P.map partV)⟩)) (hz : P.length ≤ 1000) : evalV (gv n) c_law_k13_5 ρ = .ok ⟨.tree, .lst (logsV (P.map (·.2)))⟩ := by
  have h5 : P.length ≤ 16777216 := by omega
  simp [c_law_k13_5, runFnV, execsV, execV.eq_1, execV.eq_2, execV.eq_3, execV.eq_4, execV.eq_6, execV.eq_7, execV.eq_8, execV.eq_10, execV.eq_11, execV.eq_12, execV.eq_13, execV.eq_14, execV.eq_15, evalV, evalsT, evalsA, evalsS, evalOV, sourceV, srcFor, seqE, wipeV, assignNV, ownL, ownX, frzV, notBox, finV, seqV, partI, pureM, mask, boxLt, boxLtL, boxLtD, h4, hl, gss (n := 16), h5, partV, logsV, Function.comp_def]
theorem k13_c3 (n : Nat) (ρ : VEnv) (hl : 16 < ρ.length) (h3 : ρ[3]? = some (some ⟨.tree, .lst ((k13R ns).map rowV)⟩)) : evalV (gv n) c_law_k13_3 ρ = .ok ⟨.tree, .lst ((k13R ns).map fun r => .str r.2.1)⟩ := by
  have h5 : (k13R ns).length ≤ 16777216 := Nat.le_trans (k13_len ns) (by decide)
  simp [c_law_k13_3, runFnV, execsV, execV.eq_1, execV.eq_2, execV.eq_3, execV.eq_4, execV.eq_6, execV.eq_7, execV.eq_8, execV.eq_10, execV.eq_11, execV.eq_12, execV.eq_13, execV.eq_14, execV.eq_15, evalV, evalsT, evalsA, evalsS, evalOV, sourceV, srcFor, seqE, wipeV, assignNV, ownL, ownX, frzV, notBox, finV, seqV, partI, pureM, mask, boxLt, boxLtL, boxLtD, h3, hl, gss (n := 16), h5]
theorem k13_c4 (n : Nat) (ρ : VEnv) (k : Tx) (hl : 16 < ρ.length) (h3 : ρ[3]? = some (some ⟨.tree, .lst ((k13R ns).map rowV)⟩)) (h9 : ρ[9]? = some (some ⟨.tree, .str k⟩)) : evalV (gv n) c_law_k13_4 ρ = .ok ⟨.tree, .lst ((ofKey (k13R ns) k).map rowV)⟩ := by
  have h5 : (ofKey (k13R ns) k).length ≤ 16777216 := Nat.le_trans (comp_len (k13_len ns)) (by decide)
  unfold ofKey at h5 ⊢
  simp [c_law_k13_4, runFnV, execsV, execV.eq_1, execV.eq_2, execV.eq_3, execV.eq_4, execV.eq_6, execV.eq_7, execV.eq_8, execV.eq_10, execV.eq_11, execV.eq_12, execV.eq_13, execV.eq_14, execV.eq_15, evalV, evalsT, evalsA, evalsS, evalOV, sourceV, srcFor, seqE, wipeV, assignNV, ownL, ownX, frzV, notBox, finV, seqV, partI, pureM, mask, boxLt, boxLtL, boxLtD, h3, h9, hl, gss (n := 16), h5]
theorem k13_c6 (n : Nat) (ρ : VEnv) (f e : Int) (hl : 16 < ρ.length) (h3 : ρ[3]? = some (some ⟨.tree, .lst ((k13R ns).map rowV)⟩)) (h11 : ρ[11]? = some (some ⟨.tree, .int f⟩)) (h12 : ρ[12]? = some (some ⟨.tree, .int e⟩)) : evalV (gv n) c_law_k13_6 ρ = .ok ⟨.tree, .lst ((between (k13R ns) f e).map rowV)⟩ := by
  have h5 : (between (k13R ns) f e).length ≤ 16777216 := Nat.le_trans (comp_len (k13_len ns)) (by decide)
  unfold between at h5 ⊢
  simp [c_law_k13_6, runFnV, execsV, execV.eq_1, execV.eq_2, execV.eq_3, execV.eq_4, execV.eq_6, execV.eq_7, execV.eq_8, execV.eq_10, execV.eq_11, execV.eq_12, execV.eq_13, execV.eq_14, execV.eq_15, evalV, evalsT, evalsA, evalsS, evalOV, sourceV, srcFor, seqE, wipeV, assignNV, ownL, ownX, frzV, notBox, finV, seqV, partI, pureM, mask, boxLt, boxLtL, boxLtD, h3, h11, h12, hl, gss (n := 16), h5]
theorem k13_c7 (n : Nat) (ρ : VEnv) (o w : Tx) (hl : 16 < ρ.length) (h3 : ρ[3]? = some (some ⟨.tree, .lst ((k13R ns).map rowV)⟩)) (h13 : ρ[13]? = some (some ⟨.tree, .str o⟩)) (h14 : ρ[14]? = some (some ⟨.tree, .str w⟩)) : evalV (gv n) c_law_k13_7 ρ = .ok ⟨.tree, .lst (((k13R ns).map (chg o w)).map rowV)⟩ := by
  have h5 : (k13R ns).length ≤ 16777216 := Nat.le_trans (k13_len ns) (by decide)
  simp [c_law_k13_7, runFnV, execsV, execV.eq_1, execV.eq_2, execV.eq_3, execV.eq_4, execV.eq_6, execV.eq_7, execV.eq_8, execV.eq_10, execV.eq_11, execV.eq_12, execV.eq_13, execV.eq_14, execV.eq_15, evalV, evalsT, evalsA, evalsS, evalOV, sourceV, srcFor, seqE, wipeV, assignNV, ownL, ownX, frzV, notBox, finV, seqV, partI, pureM, mask, boxLt, boxLtL, boxLtD, h3, h13, h14, hl, gss (n := 16), h5, rowV, chg]
  intro a b c _
  by_cases q : b = o <;> simp [q]
theorem k13_loop2 (a7 a8 : Option SV) : forV (bodyV (gv 5) (.tup [.name 9, .name 10]) b_law_k13_2) [some ⟨.tree, .kls ns⟩, some ⟨.tree, .lst (logsV (k13L ns))⟩, none, some ⟨.tree, .lst ((k13R ns).map rowV)⟩, some ⟨.tree, .lst ((parts (k13R ns)).map partV)⟩, none, none, a7, a8, none, none, none, none, none, none, none, none] ((parts (k13R ns)).map partV) [some ⟨.tree, .kls ns⟩, some ⟨.tree, .lst (logsV (k13L ns))⟩, none, some ⟨.tree, .lst ((k13R ns).map rowV)⟩, some ⟨.tree, .lst ((parts (k13R ns)).map partV)⟩, none, none, a7, a8, none, none, none, none, none, none, none, none] =
    .nx [some ⟨.tree, .kls ns⟩, some ⟨.tree, .lst (logsV (k13L ns))⟩, none, some ⟨.tree, .lst ((k13R ns).map rowV)⟩, some ⟨.tree, .lst ((parts (k13R ns)).map partV)⟩, none, none, a7, a8, none, none, none, none, none, none, none, none] := by
  refine forV_same _ fun p hp => ?_
  obtain ⟨k, hk, rfl⟩ := List.mem_map.mp hp
  have e1 := fun ρ hl h3 h9 => k13_c4 ns 5 ρ k hl h3 h9
  have e2 := l_neT (a := .lst ((ofKey (k13R ns) k).map rowV)) rfl (by rw [plain]; exact plainL_map _ (fun _ => row_plain) _)
  cases a7 <;> cases a8 <;> simp [b_law_k13_2, runFnV, execsV, execV.eq_1, execV.eq_2, execV.eq_3, execV.eq_4, execV.eq_6, execV.eq_7, execV.eq_8, execV.eq_10, execV.eq_11, execV.eq_12, execV.eq_13, execV.eq_14, execV.eq_15, evalV, evalsT, evalsA, evalsS, evalOV, sourceV, srcFor, seqE, wipeV, assignNV, ownL, ownX, frzV, notBox, finV, seqV, partI, pureM, mask, boxLt, boxLtL, boxLtD, bodyV_tup, partV, e1, e2]
theorem ex_nx {Γ : GamV} {m : MS} {r : MSs} {ρ ρ' : VEnv} {z : VS} (h : execV Γ m ρ = .nx ρ') (g : execsV Γ r ρ' = z) : execsV Γ (.cons m r) ρ = z := by
  rw [execsV, h, VS.next_nx, g]
theorem ex_frz {Γ : GamV} {i : Nat} {r : MSs} {ρ ρ' : VEnv} {z : VS} (h : frzV i ρ = .nx ρ') (g : execsV Γ r ρ' = z) : execsV Γ (.frz i r) ρ = z := by
  rw [execsV, h, VS.next_nx, g]
theorem ex_ret {Γ : GamV} {m : MS} {r : MSs} {ρ : VEnv} {s : SV} (h : execV Γ m ρ = .ret s) : execsV Γ (.cons m r) ρ = .ret s := by
  rw [execsV, h, VS.next_ret]
theorem run_ret {Γ : GamV} {d : MD} {xs : List SV} {x : PV} (hl : xs.length = d.args) (h : execsV Γ d.body (xs.map some ++ List.replicate (d.slots - d.args) none) = .ret ⟨.tree, x⟩) (hb : boxLt 0 x = true) : runFnV Γ d xs = .ok ⟨.tree, x⟩ := by
  unfold runFnV
  rw [if_pos hl, h]
  simp [finV, hb]
theorem src_var {Γ : GamV} {i : Nat} {ρ : VEnv} : srcFor Γ (.seq (.var i)) ρ = match ρ[i]? with
  | some (some s) => if s.kd = .own then .bad else oOpt (seqV s.x)
  | _ => .bad := rfl
theorem rows_plain {n : Nat} (l : List Row) : plain (n + 2) (.lst (l.map rowV)) = true := by
  rw [plain]
  exact plainL_map _ (fun _ => row_plain) _
theorem law_true_k13 (h : ns.length ≤ 63) : fnV mdOf subX 6 i_law_k13 [⟨.tree, .kls ns⟩] = .ok ⟨.tree, .bool true⟩ := by
  show fv (5 + 1) i_law_k13 _ = _
  rw [fv_law_k13]
  have hf := k13_flat ns
  have hR := k13_log ns
  have hlen := k13_len ns
  have c0 := fun ρ hl h0 => k13_c0 ns ρ hl h0
  have m1 := v_merged 0 (k13L ns) (k13_logs ns) (by omega)
  have m2 := v_merged_t 0 (k13L ns) (k13_logs ns) (by omega)
  have lo := k13_outer ns (some ⟨.tree, .lst ((k13M ns).map rowV)⟩)
  rw [show orderR (k13L ns).flatten = k13M ns from rfl] at m1 m2 lo
  have hM : sortedB (k13M ns) = true := by rw [k13_M]; exact pair_sorted (dueF_pair _ _ _)
  have hMl : (k13M ns).length ≤ 16 := by unfold k13M; rw [orderR_len]; exact hf
  have il := v_is_log 4 (k13M ns) (by omega)
  rw [hM] at il
  have q1 := l_neT (a := .lst ((k13M ns).map rowV)) rfl (rows_plain _)
  have r1 := v__law_rows 1 ns 1200 12 (by decide) (by decide) (by decide)
  rw [show drawRows ns 1200 12 = k13R ns from rfl] at r1
  have p1 := v_by_keys_parted 0 (k13R ns) hR
  have hP : (parts (k13R ns)).length ≤ 1000 := by
    have := keysOf_len (k13R ns)
    unfold parts
    rw [List.length_map]
    omega
  have c2 := fun ρ hl h4 => k13_c2 5 ρ (parts (k13R ns)) hl h4 hP
  have c5 := fun ρ hl h4 => k13_c5 5 ρ (parts (k13R ns)) hl h4 hP
  have c3 := fun ρ hl h3 => k13_c3 ns 5 ρ hl h3
  have c6 := fun ρ f e hl h3 => k13_c6 ns 5 ρ f e hl h3
  have s1 := f_set_s (xs := k13R ns) (g := fun r => r.2.1) (by omega)
  rw [show sset ((k13R ns).map fun r => r.2.1) = keysOf (k13R ns) from rfl] at s1
  have q2 := l_neT (a := .lst ((parts (k13R ns)).map fun p => .str p.1)) (b := .lst ((keysOf (k13R ns)).map .str)) (by simp [parts, Function.comp_def]) (by rw [plain]; exact plainL_map _ (fun _ => rfl) _)
  have l2 := k13_loop2 ns (some ⟨.tree, .lst ((k13M ns).map rowV)⟩) (some ⟨.tree, .lst ((k13M ns).map rowV)⟩)
  have hpp : (((parts (k13R ns)).map (·.2)).flatten).Perm (k13R ns) := by
    have := key_parts (keysOf (k13R ns)) (k13R ns) (sset_nodup _) fun r hr => mem_sset.mpr (List.mem_map.mpr ⟨r, hr, rfl⟩)
    simpa [parts, Function.comp_def] using this
  have m3 := v_merged 0 ((parts (k13R ns)).map (·.2)) (fun l hl => by
    obtain ⟨p, hp, rfl⟩ := List.mem_map.mp hl
    obtain ⟨k, _, rfl⟩ := List.mem_map.mp hp
    exact hR.sub List.filter_sublist) (by rw [hpp.length_eq]; omega)
  have t1 := f_sortedR (l := orderR ((parts (k13R ns)).map (·.2)).flatten) (by rw [orderR_len, hpp.length_eq]; omega)
  have t2 := f_sortedR (l := k13R ns) (by omega)
  rw [rsort_perm ((orderR_perm _).trans hpp)] at t1
  have q3 := l_neT (a := .lst ((rsort (k13R ns)).map rowV)) rfl (rows_plain _)
  have a1 := v__law_pick 3 ns 901 60 (by decide) (by decide)
  have a2 := v__law_pick 3 ns 902 120 (by decide) (by decide)
  have a3 := pick_nn ns 901 60 (by decide)
  have a4 := pick_lt ns 901 60 (by decide)
  have a5 := pick_nn ns 902 120 (by decide)
  have a6 := pick_lt ns 902 120 (by decide)
  obtain ⟨f, e, t3, hfe, hfe2⟩ := f_sorted2 (pick ns 901 60) (pick ns 902 120)
  have b1 := v_from_to 0 (k13R ns) 0 f hR (by decide) (by omega)
  have b2 := v_from_to 0 (k13R ns) f e hR (by omega) (by omega)
  have b3 := v_from_to 0 (k13R ns) e 999 hR (by omega) (by decide)
  have b4 := v_from_to 0 (k13R ns) e f hR (by omega) (by omega)
  rw [between_none (k13R ns) hfe] at b4
  have hs := between_split (k13R ns) hR f e (by omega) hfe
  have hsl := congrArg List.length hs
  simp only [List.length_append] at hsl
  have d1 := b_cat_ok (xs := (between (k13R ns) 0 f).map rowV) (ys := (between (k13R ns) f e).map rowV) (by simp; omega)
  have d2 := b_cat_ok (xs := (between (k13R ns) 0 f).map rowV ++ (between (k13R ns) f e).map rowV) (ys := (between (k13R ns) e 999).map rowV) (by simp; omega)
  have q4 := l_neT (a := .lst ((between (k13R ns) 0 f).map rowV ++ (between (k13R ns) f e).map rowV ++ (between (k13R ns) e 999).map rowV)) (b := .lst ((k13R ns).map rowV)) (by rw [← List.map_append, ← List.map_append, hs]) (by rw [← List.map_append, ← List.map_append, hs]; exact rows_plain _)
  rw [List.append_assoc] at q4
  have q5 := l_neT (a := .lst ((between (k13R ns) f e).map rowV)) rfl (rows_plain _)
  have m4 := v_merged 0 [between (k13R ns) 0 f, between (k13R ns) f e, between (k13R ns) e 999] (fun l hl => by
    simp only [List.mem_cons, List.not_mem_nil, or_false] at hl
    rcases hl with rfl | rfl | rfl <;> exact hR.sub List.filter_sublist) (by simp; omega)
  have hs2 : [between (k13R ns) 0 f, between (k13R ns) f e, between (k13R ns) e 999].flatten = k13R ns := by
    simpa using hs
  rw [hs2, orderR_sorted (sorted_pair hR.so)] at m4
  simp only [logsV, List.map_cons, List.map_nil] at m4
  have q6 := l_neT (a := .lst ((k13R ns).map rowV)) rfl (rows_plain _)
  have k1 := v__law_key 2 ns 903 (by decide)
  have k2 := v__law_key 2 ns 910 (by decide)
  have o1 := drawKey_ok ns 903
  have o2 := drawKey_ok ns 910
  generalize drawKey ns 903 = o at k1 o1
  generalize drawKey ns 910 = w at k2 o2
  have c7 := fun ρ hl h3 => k13_c7 ns 5 ρ o w hl h3
  have g1 := v_keys_changed 0 (k13R ns) o w hR o1 o2
  have g2 := v_keys_changed 0 (k13R ns) o o hR o1 o1
  have g3 := v_keys_changed 0 ((k13R ns).map (chg o w)) w o (chg_log hR o2) o2 o1
  rw [show (k13R ns).map (chg o o) = k13R ns by rw [List.map_congr_left (fun r _ => chg_self o r)]; simp] at g2
  have q7 := l_neT (a := .lst (((k13R ns).map (chg o w)).map rowV)) rfl (rows_plain _)
  have i1 := l_inS (g := fun r : Row => r.2.1) (a := w) (xs := k13R ns)
  have q8 : ¬ w ∈ (k13R ns).map (fun r => r.2.1) → cmpV .eq (.lst ((((k13R ns).map (chg o w)).map (chg w o)).map rowV)) (.lst ((k13R ns).map rowV)) [] = some true := fun hw => by
    have : ((k13R ns).map (chg o w)).map (chg w o) = k13R ns := by
      rw [List.map_map]
      conv => rhs; rw [← List.map_id (k13R ns)]
      exact List.map_congr_left fun r hr => chg_back fun q => hw (List.mem_map.mpr ⟨r, hr, q⟩)
    rw [this]
    exact l_eqT rfl (rows_plain _)
  simp only [k13E] at lo
  generalize (k13R ns).map (chg o w) = C at c7 g1 g3 q7 q8
  generalize C.map (chg w o) = C2 at g3 q8
  generalize hLs : logsV (k13L ns) = LL at c0 m1 m2 lo l2
  generalize hLp : logsV ((parts (k13R ns)).map (·.2)) = LP at c5 m3
  generalize hOP : orderR ((parts (k13R ns)).map (·.2)).flatten = OP at m3 t1
  refine run_ret rfl ?_ rfl
  simp only [m_law_k13, List.map_cons, List.map_nil, Nat.reduceSub, List.replicate, List.cons_append, List.nil_append]
  repeat (first | (refine ex_frz (by simp [frzV]; rfl) ?_) | (refine ex_nx (by simp [runFnV, execsV, execV.eq_1, execV.eq_2, execV.eq_3, execV.eq_4, execV.eq_6, execV.eq_7, execV.eq_8, execV.eq_10, execV.eq_11, execV.eq_12, execV.eq_13, execV.eq_14, execV.eq_15, evalV, evalsT, evalsA, evalsS, evalOV, sourceV, srcFor, seqE, wipeV, assignNV, ownL, ownX, frzV, notBox, finV, seqV, partI, pureM, mask, boxLt, boxLtL, boxLtD, c0, m1, m2, lo, il, q1, r1, p1, c2, c5, c3, c6, c7, s1, q2, l2, m3, t1, t2, q3, a1, a2, t3, b1, b2, b3, b4, d1, d2, q4, q5, m4, q6, k1, k2, g1, g2, q7]; rfl) ?_))
  by_cases hw : w ∈ (k13R ns).map fun r => r.2.1
  · simp only [hw, decide_true] at i1
    refine ex_ret ?_
    simp [runFnV, execsV, execV.eq_1, execV.eq_2, execV.eq_3, execV.eq_4, execV.eq_6, execV.eq_7, execV.eq_8, execV.eq_10, execV.eq_11, execV.eq_12, execV.eq_13, execV.eq_14, execV.eq_15, evalV, evalsT, evalsA, evalsS, evalOV, sourceV, srcFor, seqE, wipeV, assignNV, ownL, ownX, frzV, notBox, finV, seqV, partI, pureM, mask, boxLt, boxLtL, boxLtD, c3, i1]
  · have q8 := q8 hw
    simp only [hw, decide_false] at i1
    refine ex_ret ?_
    simp [runFnV, execsV, execV.eq_1, execV.eq_2, execV.eq_3, execV.eq_4, execV.eq_6, execV.eq_7, execV.eq_8, execV.eq_10, execV.eq_11, execV.eq_12, execV.eq_13, execV.eq_14, execV.eq_15, evalV, evalsT, evalsA, evalsS, evalOV, sourceV, srcFor, seqE, wipeV, assignNV, ownL, ownX, frzV, notBox, finV, seqV, partI, pureM, mask, boxLt, boxLtL, boxLtD, c3, i1, g3, q8]
end
end Z

set_option maxHeartbeats 200000
set_option maxRecDepth 512
set_option maxHeartbeats 0
namespace Z
open PySem PySem.Spec PyProof.Rows
set_option maxRecDepth 100000
def top (i : Nat) : Stmt := PySem.Challenge.pw_rowasks_k13_whole_logs_parted.main.body.getD i (.Pass ⟨0, 0, 0, 0⟩)
def gs : List (String × PV) := [("SMALL", (.str ['a', 'b', 'c', 'd', 'e', 'f', 'g', 'h', 'i', 'j', 'k', 'l', 'm', 'n', 'o', 'p', 'q', 'r', 's', 't', 'u', 'v', 'w', 'x', 'y', 'z'])), ("FARTHEST", (.int 99)), ("GREATEST", (.int 99))]
def cs : List (Nat × String) := [(0, "AskError"), (1, "NoRow"), (3, "TooLate"), (7, "NoNumber")]
abbrev s_is_whole : Stmt := top 9
theorem sc_is_whole : L2.FnScope ["thing", "low", "high"] ["thing", "low", "high"] (L2.defScope s_is_whole) := ⟨rfl, rfl, rfl, by decide +kernel, rfl, by decide +kernel, by decide +kernel⟩
def fs_is_whole : List (Nat × String) := []
theorem ck_is_whole : chkSs (ccOf ["thing", "low", "high"] s_is_whole fs_is_whole cs gs) (mdOf i_is_whole).body (L2.defBody s_is_whole) = true := by decide +kernel
abbrev s_is_key : Stmt := top 10
theorem sc_is_key : L2.FnScope ["thing", "sign"] ["thing"] (L2.defScope s_is_key) := ⟨rfl, rfl, rfl, by decide +kernel, rfl, by decide +kernel, by decide +kernel⟩
def fs_is_key : List (Nat × String) := (i_is_whole, "is_whole") :: fs_is_whole
theorem ck_is_key : chkSs (ccOf ["thing", "sign"] s_is_key fs_is_key cs gs) (mdOf i_is_key).body (L2.defBody s_is_key) = true := by decide +kernel
abbrev s_is_row : Stmt := top 11
theorem sc_is_row : L2.FnScope ["thing"] ["thing"] (L2.defScope s_is_row) := ⟨rfl, rfl, rfl, by decide +kernel, rfl, by decide +kernel, by decide +kernel⟩
def fs_is_row : List (Nat × String) := (i_is_key, "is_key") :: fs_is_key
theorem ck_is_row : chkSs (ccOf ["thing"] s_is_row fs_is_row cs gs) (mdOf i_is_row).body (L2.defBody s_is_row) = true := by decide +kernel
abbrev s_look_row : Stmt := top 12
theorem sc_look_row : L2.FnScope ["row"] ["row"] (L2.defScope s_look_row) := ⟨rfl, rfl, rfl, by decide +kernel, rfl, by decide +kernel, by decide +kernel⟩
def fs_look_row : List (Nat × String) := (i_is_row, "is_row") :: fs_is_row
theorem ck_look_row : chkSs (ccOf ["row"] s_look_row fs_look_row cs gs) (mdOf i_look_row).body (L2.defBody s_look_row) = true := by decide +kernel
abbrev s_is_log : Stmt := top 13
theorem sc_is_log : L2.FnScope ["rows", "ahead", "row"] ["rows"] (L2.defScope s_is_log) := ⟨rfl, rfl, rfl, by decide +kernel, rfl, by decide +kernel, by decide +kernel⟩
def fs_is_log : List (Nat × String) := (i_look_row, "look_row") :: fs_look_row
theorem ck_is_log : chkSs (ccOf ["rows", "ahead", "row"] s_is_log fs_is_log cs gs) (mdOf i_is_log).body (L2.defBody s_is_log) = true := by decide +kernel
abbrev s_look_log : Stmt := top 14
theorem sc_look_log : L2.FnScope ["rows", "row"] ["rows"] (L2.defScope s_look_log) := ⟨rfl, rfl, rfl, by decide +kernel, rfl, by decide +kernel, by decide +kernel⟩
def fs_look_log : List (Nat × String) := (i_is_log, "is_log") :: fs_is_log
theorem ck_look_log : chkSs (ccOf ["rows", "row"] s_look_log fs_look_log cs gs) (mdOf i_look_log).body (L2.defBody s_look_log) = true := by decide +kernel
abbrev s_in_order : Stmt := top 15
theorem sc_in_order : L2.FnScope ["rows", "made", "row", "at"] ["rows"] (L2.defScope s_in_order) := ⟨rfl, rfl, rfl, by decide +kernel, rfl, by decide +kernel, by decide +kernel⟩
def fs_in_order : List (Nat × String) := (i_look_log, "look_log") :: fs_look_log
theorem ck_in_order : chkSs (ccOf ["rows", "made", "row", "at"] s_in_order fs_in_order cs gs) (mdOf i_in_order).body (L2.defBody s_in_order) = true := by decide +kernel
abbrev s_merged : Stmt := top 17
theorem sc_merged : L2.FnScope ["logs", "some", "rows"] ["logs"] (L2.defScope s_merged) := ⟨rfl, rfl, rfl, by decide +kernel, rfl, by decide +kernel, by decide +kernel⟩
def fs_merged : List (Nat × String) := (i_in_order, "in_order") :: fs_in_order
theorem ck_merged : chkSs (ccOf ["logs", "some", "rows"] s_merged fs_merged cs gs) (mdOf i_merged).body (L2.defBody s_merged) = true := by decide +kernel
abbrev s_by_keys_parted : Stmt := top 18
theorem sc_by_keys_parted : L2.FnScope ["rows", "key", "row"] ["rows"] (L2.defScope s_by_keys_parted) := ⟨rfl, rfl, rfl, by decide +kernel, rfl, by decide +kernel, by decide +kernel⟩
def fs_by_keys_parted : List (Nat × String) := (i_merged, "merged") :: fs_merged
theorem ck_by_keys_parted : chkSs (ccOf ["rows", "key", "row"] s_by_keys_parted fs_by_keys_parted cs gs) (mdOf i_by_keys_parted).body (L2.defBody s_by_keys_parted) = true := by decide +kernel
abbrev s_from_to : Stmt := top 19
theorem sc_from_to : L2.FnScope ["rows", "begin", "end", "row"] ["rows", "begin", "end"] (L2.defScope s_from_to) := ⟨rfl, rfl, rfl, by decide +kernel, rfl, by decide +kernel, by decide +kernel⟩
def fs_from_to : List (Nat × String) := (i_by_keys_parted, "by_keys_parted") :: fs_by_keys_parted
theorem ck_from_to : chkSs (ccOf ["rows", "begin", "end", "row"] s_from_to fs_from_to cs gs) (mdOf i_from_to).body (L2.defBody s_from_to) = true := by decide +kernel
abbrev s_keys_changed : Stmt := top 20
theorem sc_keys_changed : L2.FnScope ["rows", "old", "new", "moment", "key", "number"] ["rows", "old", "new"] (L2.defScope s_keys_changed) := ⟨rfl, rfl, rfl, by decide +kernel, rfl, by decide +kernel, by decide +kernel⟩
def fs_keys_changed : List (Nat × String) := (i_from_to, "from_to") :: fs_from_to
theorem ck_keys_changed : chkSs (ccOf ["rows", "old", "new", "moment", "key", "number"] s_keys_changed fs_keys_changed cs gs) (mdOf i_keys_changed).body (L2.defBody s_keys_changed) = true := by decide +kernel
abbrev s__law_cell : Stmt := top 22
theorem sc__law_cell : L2.FnScope ["_law_script", "_law_k"] ["_law_script", "_law_k"] (L2.defScope s__law_cell) := ⟨rfl, rfl, rfl, by decide +kernel, rfl, by decide +kernel, by decide +kernel⟩
def fs__law_cell : List (Nat × String) := (i_keys_changed, "keys_changed") :: fs_keys_changed
theorem ck__law_cell : chkSs (ccOf ["_law_script", "_law_k"] s__law_cell fs__law_cell cs gs) (mdOf i__law_cell).body (L2.defBody s__law_cell) = true := by decide +kernel
abbrev s__law_pick : Stmt := top 23
theorem sc__law_pick : L2.FnScope ["_law_script", "_law_k", "_law_many", "_law_drawn"] ["_law_script", "_law_k", "_law_many"] (L2.defScope s__law_pick) := ⟨rfl, rfl, rfl, by decide +kernel, rfl, by decide +kernel, by decide +kernel⟩
def fs__law_pick : List (Nat × String) := (i__law_cell, "_law_cell") :: fs__law_cell
theorem ck__law_pick : chkSs (ccOf ["_law_script", "_law_k", "_law_many", "_law_drawn"] s__law_pick fs__law_pick cs gs) (mdOf i__law_pick).body (L2.defBody s__law_pick) = true := by decide +kernel
abbrev s__law_key : Stmt := top 24
theorem sc__law_key : L2.FnScope ["_law_script", "_law_at", "_law_letters", "_law_way", "_law_key_here"] ["_law_script", "_law_at"] (L2.defScope s__law_key) := ⟨rfl, rfl, rfl, by decide +kernel, rfl, by decide +kernel, by decide +kernel⟩
def fs__law_key : List (Nat × String) := (i__law_pick, "_law_pick") :: fs__law_pick
theorem ck__law_key : chkSs (ccOf ["_law_script", "_law_at", "_law_letters", "_law_way", "_law_key_here"] s__law_key fs__law_key cs gs) (mdOf i__law_key).body (L2.defBody s__law_key) = true := by decide +kernel
abbrev s__law_number : Stmt := top 25
theorem sc__law_number : L2.FnScope ["_law_script", "_law_at", "_law_most"] ["_law_script", "_law_at", "_law_most"] (L2.defScope s__law_number) := ⟨rfl, rfl, rfl, by decide +kernel, rfl, by decide +kernel, by decide +kernel⟩
def fs__law_number : List (Nat × String) := (i__law_key, "_law_key") :: fs__law_key
theorem ck__law_number : chkSs (ccOf ["_law_script", "_law_at", "_law_most"] s__law_number fs__law_number cs gs) (mdOf i__law_number).body (L2.defBody s__law_number) = true := by decide +kernel
abbrev s__law_rows : Stmt := top 26
theorem sc__law_rows : L2.FnScope ["_law_script", "_law_at", "_law_most", "_law_made", "_law_moment", "_law_far", "_law_k", "_law_base"] ["_law_script", "_law_at", "_law_most"] (L2.defScope s__law_rows) := ⟨rfl, rfl, rfl, by decide +kernel, rfl, by decide +kernel, by decide +kernel⟩
def fs__law_rows : List (Nat × String) := (i__law_number, "_law_number") :: fs__law_number
theorem ck__law_rows : chkSs (ccOf ["_law_script", "_law_at", "_law_most", "_law_made", "_law_moment", "_law_far", "_law_k", "_law_base"] s__law_rows fs__law_rows cs gs) (mdOf i__law_rows).body (L2.defBody s__law_rows) = true := by decide +kernel
abbrev s_law_k13 : Stmt := top 27
theorem sc_law_k13 : L2.FnScope ["_law_script", "_law_logs", "_law_moment", "_law_rows_here", "_law_parts", "_law_pieces", "_law_there", "_law_made", "_law_due", "_law_key_here", "_law_some", "_law_first", "_law_last", "_law_old", "_law_new", "_law_k", "_law_row"] ["_law_script"] (L2.defScope s_law_k13) := ⟨rfl, rfl, rfl, by decide +kernel, rfl, by decide +kernel, by decide +kernel⟩
def fs_law_k13 : List (Nat × String) := (i__law_rows, "_law_rows") :: fs__law_rows
theorem ck_law_k13 : chkSs (ccOf ["_law_script", "_law_logs", "_law_moment", "_law_rows_here", "_law_parts", "_law_pieces", "_law_there", "_law_made", "_law_due", "_law_key_here", "_law_some", "_law_first", "_law_last", "_law_old", "_law_new", "_law_k", "_law_row"] s_law_k13 fs_law_k13 cs gs) (mdOf i_law_k13).body (L2.defBody s_law_k13) = true := by decide +kernel
theorem all_mk {P : Program} {w : World} {K : PySem.W.Frag} {h : Heap} {mg : Str → Option Value} {fa f0 f1 f2 f3 f4 f5 f6 f7 f8 f9 f10 f11 f12 f13 f14 f15 f16 xAskError xNoRow xTooLate xNoNumber : Addr} (X : K.In h) (G : h.Ns mainGlobals mg) (hfa : mg "law" = some (.ref fa))
    {od0 an0 od1 an1 od2 an2 od3 an3 od4 an4 od5 an5 od6 an6 od7 an7 od8 an8 od9 an9 od10 an10 od11 an11 od12 an12 od13 an13 od14 an14 od15 an15 od16 an16 : Option Addr} {sl0 sl1 sl2 sl3 sl4 sl5 sl6 sl7 sl8 sl9 sl10 sl11 sl12 sl13 sl14 sl15 sl16 : Array (Option Value)} {oc0 kV0 dc0 pm0 cd0 ct0 oc1 kV1 dc1 pm1 cd1 ct1 oc2 kV2 dc2 pm2 cd2 ct2 oc3 kV3 dc3 pm3 cd3 ct3 oc4 kV4 dc4 pm4 cd4 ct4 oc5 kV5 dc5 pm5 cd5 ct5 oc6 kV6 dc6 pm6 cd6 ct6 oc7 kV7 dc7 pm7 cd7 ct7 oc8 kV8 dc8 pm8 cd8 ct8 oc9 kV9 dc9 pm9 cd9 ct9 oc10 kV10 dc10 pm10 cd10 ct10 oc11 kV11 dc11 pm11 cd11 ct11 oc12 kV12 dc12 pm12 cd12 ct12 oc13 kV13 dc13 pm13 cd13 ct13 oc14 kV14 dc14 pm14 cd14 ct14 oc15 kV15 dc15 pm15 cd15 ct15 oc16 kV16 dc16 pm16 cd16 ct16 : Value} {t0 t1 t2 : Tok} 
    (a0 : PySem.W.nsIn K mainGlobals "is_whole" = some (some (.ref f0))) (l0 : K.lookup f0 = some ⟨oc0, od0, .func (PySem.W.fnOf "is_whole" "is_whole" (L2.defArgs s_is_whole) (L2.defBody s_is_whole) (L2.defScope s_is_whole) .none kV0 dc0 pm0 an0 cd0 ct0), sl0⟩) (c0 : PySem.W.codeIn K cd0 "is_whole" = true) (k0 : PySem.W.keepIn K (.ref f0) = true)
    (a1 : PySem.W.nsIn K mainGlobals "is_key" = some (some (.ref f1))) (l1 : K.lookup f1 = some ⟨oc1, od1, .func (PySem.W.fnOf "is_key" "is_key" (L2.defArgs s_is_key) (L2.defBody s_is_key) (L2.defScope s_is_key) .none kV1 dc1 pm1 an1 cd1 ct1), sl1⟩) (c1 : PySem.W.codeIn K cd1 "is_key" = true) (k1 : PySem.W.keepIn K (.ref f1) = true)
    (a2 : PySem.W.nsIn K mainGlobals "is_row" = some (some (.ref f2))) (l2 : K.lookup f2 = some ⟨oc2, od2, .func (PySem.W.fnOf "is_row" "is_row" (L2.defArgs s_is_row) (L2.defBody s_is_row) (L2.defScope s_is_row) .none kV2 dc2 pm2 an2 cd2 ct2), sl2⟩) (c2 : PySem.W.codeIn K cd2 "is_row" = true) (k2 : PySem.W.keepIn K (.ref f2) = true)
    (a3 : PySem.W.nsIn K mainGlobals "look_row" = some (some (.ref f3))) (l3 : K.lookup f3 = some ⟨oc3, od3, .func (PySem.W.fnOf "look_row" "look_row" (L2.defArgs s_look_row) (L2.defBody s_look_row) (L2.defScope s_look_row) .none kV3 dc3 pm3 an3 cd3 ct3), sl3⟩) (c3 : PySem.W.codeIn K cd3 "look_row" = true) (k3 : PySem.W.keepIn K (.ref f3) = true)
    (a4 : PySem.W.nsIn K mainGlobals "is_log" = some (some (.ref f4))) (l4 : K.lookup f4 = some ⟨oc4, od4, .func (PySem.W.fnOf "is_log" "is_log" (L2.defArgs s_is_log) (L2.defBody s_is_log) (L2.defScope s_is_log) .none kV4 dc4 pm4 an4 cd4 ct4), sl4⟩) (c4 : PySem.W.codeIn K cd4 "is_log" = true) (k4 : PySem.W.keepIn K (.ref f4) = true)
    (a5 : PySem.W.nsIn K mainGlobals "look_log" = some (some (.ref f5))) (l5 : K.lookup f5 = some ⟨oc5, od5, .func (PySem.W.fnOf "look_log" "look_log" (L2.defArgs s_look_log) (L2.defBody s_look_log) (L2.defScope s_look_log) .none kV5 dc5 pm5 an5 cd5 ct5), sl5⟩) (c5 : PySem.W.codeIn K cd5 "look_log" = true) (k5 : PySem.W.keepIn K (.ref f5) = true)
    (a6 : PySem.W.nsIn K mainGlobals "in_order" = some (some (.ref f6))) (l6 : K.lookup f6 = some ⟨oc6, od6, .func (PySem.W.fnOf "in_order" "in_order" (L2.defArgs s_in_order) (L2.defBody s_in_order) (L2.defScope s_in_order) .none kV6 dc6 pm6 an6 cd6 ct6), sl6⟩) (c6 : PySem.W.codeIn K cd6 "in_order" = true) (k6 : PySem.W.keepIn K (.ref f6) = true)
    (a7 : PySem.W.nsIn K mainGlobals "merged" = some (some (.ref f7))) (l7 : K.lookup f7 = some ⟨oc7, od7, .func (PySem.W.fnOf "merged" "merged" (L2.defArgs s_merged) (L2.defBody s_merged) (L2.defScope s_merged) .none kV7 dc7 pm7 an7 cd7 ct7), sl7⟩) (c7 : PySem.W.codeIn K cd7 "merged" = true) (k7 : PySem.W.keepIn K (.ref f7) = true)
    (a8 : PySem.W.nsIn K mainGlobals "by_keys_parted" = some (some (.ref f8))) (l8 : K.lookup f8 = some ⟨oc8, od8, .func (PySem.W.fnOf "by_keys_parted" "by_keys_parted" (L2.defArgs s_by_keys_parted) (L2.defBody s_by_keys_parted) (L2.defScope s_by_keys_parted) .none kV8 dc8 pm8 an8 cd8 ct8), sl8⟩) (c8 : PySem.W.codeIn K cd8 "by_keys_parted" = true) (k8 : PySem.W.keepIn K (.ref f8) = true)
    (a9 : PySem.W.nsIn K mainGlobals "from_to" = some (some (.ref f9))) (l9 : K.lookup f9 = some ⟨oc9, od9, .func (PySem.W.fnOf "from_to" "from_to" (L2.defArgs s_from_to) (L2.defBody s_from_to) (L2.defScope s_from_to) .none kV9 dc9 pm9 an9 cd9 ct9), sl9⟩) (c9 : PySem.W.codeIn K cd9 "from_to" = true) (k9 : PySem.W.keepIn K (.ref f9) = true)
    (a10 : PySem.W.nsIn K mainGlobals "keys_changed" = some (some (.ref f10))) (l10 : K.lookup f10 = some ⟨oc10, od10, .func (PySem.W.fnOf "keys_changed" "keys_changed" (L2.defArgs s_keys_changed) (L2.defBody s_keys_changed) (L2.defScope s_keys_changed) .none kV10 dc10 pm10 an10 cd10 ct10), sl10⟩) (c10 : PySem.W.codeIn K cd10 "keys_changed" = true) (k10 : PySem.W.keepIn K (.ref f10) = true)
    (a11 : PySem.W.nsIn K mainGlobals "_law_cell" = some (some (.ref f11))) (l11 : K.lookup f11 = some ⟨oc11, od11, .func (PySem.W.fnOf "_law_cell" "_law_cell" (L2.defArgs s__law_cell) (L2.defBody s__law_cell) (L2.defScope s__law_cell) .none kV11 dc11 pm11 an11 cd11 ct11), sl11⟩) (c11 : PySem.W.codeIn K cd11 "_law_cell" = true) (k11 : PySem.W.keepIn K (.ref f11) = true)
    (a12 : PySem.W.nsIn K mainGlobals "_law_pick" = some (some (.ref f12))) (l12 : K.lookup f12 = some ⟨oc12, od12, .func (PySem.W.fnOf "_law_pick" "_law_pick" (L2.defArgs s__law_pick) (L2.defBody s__law_pick) (L2.defScope s__law_pick) .none kV12 dc12 pm12 an12 cd12 ct12), sl12⟩) (c12 : PySem.W.codeIn K cd12 "_law_pick" = true) (k12 : PySem.W.keepIn K (.ref f12) = true)
    (a13 : PySem.W.nsIn K mainGlobals "_law_key" = some (some (.ref f13))) (l13 : K.lookup f13 = some ⟨oc13, od13, .func (PySem.W.fnOf "_law_key" "_law_key" (L2.defArgs s__law_key) (L2.defBody s__law_key) (L2.defScope s__law_key) .none kV13 dc13 pm13 an13 cd13 ct13), sl13⟩) (c13 : PySem.W.codeIn K cd13 "_law_key" = true) (k13 : PySem.W.keepIn K (.ref f13) = true)
    (a14 : PySem.W.nsIn K mainGlobals "_law_number" = some (some (.ref f14))) (l14 : K.lookup f14 = some ⟨oc14, od14, .func (PySem.W.fnOf "_law_number" "_law_number" (L2.defArgs s__law_number) (L2.defBody s__law_number) (L2.defScope s__law_number) .none kV14 dc14 pm14 an14 cd14 ct14), sl14⟩) (c14 : PySem.W.codeIn K cd14 "_law_number" = true) (k14 : PySem.W.keepIn K (.ref f14) = true)
    (a15 : PySem.W.nsIn K mainGlobals "_law_rows" = some (some (.ref f15))) (l15 : K.lookup f15 = some ⟨oc15, od15, .func (PySem.W.fnOf "_law_rows" "_law_rows" (L2.defArgs s__law_rows) (L2.defBody s__law_rows) (L2.defScope s__law_rows) .none kV15 dc15 pm15 an15 cd15 ct15), sl15⟩) (c15 : PySem.W.codeIn K cd15 "_law_rows" = true) (k15 : PySem.W.keepIn K (.ref f15) = true)
    (a16 : PySem.W.nsIn K mainGlobals "law" = some (some (.ref f16))) (l16 : K.lookup f16 = some ⟨oc16, od16, .func (PySem.W.fnOf "law" "law" (L2.defArgs s_law_k13) (L2.defBody s_law_k13) (L2.defScope s_law_k13) .none kV16 dc16 pm16 an16 cd16 ct16), sl16⟩) (c16 : PySem.W.codeIn K cd16 "law" = true) (k16 : PySem.W.keepIn K (.ref f16) = true)
    (emAskError : PySem.W.nsIn K mainGlobals "AskError" = some (some (.ref xAskError))) (exAskError : PySem.W.excIn K xAskError [.type "ValueError", .type "Exception", .type "BaseException", .type "object"] "ValueError.__new__" = true) (ekAskError : PySem.W.keepIn K (.ref xAskError) = true) (ebAskError : PySem.W.subIn K (.ref xAskError) (.type "BaseException") = some true) (etAskError : PySem.W.typeIn K (.ref xAskError) = some (.type "type"))
    (emNoRow : PySem.W.nsIn K mainGlobals "NoRow" = some (some (.ref xNoRow))) (exNoRow : PySem.W.excIn K xNoRow [.type "ValueError", .type "Exception", .type "BaseException", .type "object"] "ValueError.__new__" = true) (ekNoRow : PySem.W.keepIn K (.ref xNoRow) = true) (ebNoRow : PySem.W.subIn K (.ref xNoRow) (.type "BaseException") = some true) (etNoRow : PySem.W.typeIn K (.ref xNoRow) = some (.type "type"))
    (emTooLate : PySem.W.nsIn K mainGlobals "TooLate" = some (some (.ref xTooLate))) (exTooLate : PySem.W.excIn K xTooLate [.type "ValueError", .type "Exception", .type "BaseException", .type "object"] "ValueError.__new__" = true) (ekTooLate : PySem.W.keepIn K (.ref xTooLate) = true) (ebTooLate : PySem.W.subIn K (.ref xTooLate) (.type "BaseException") = some true) (etTooLate : PySem.W.typeIn K (.ref xTooLate) = some (.type "type"))
    (emNoNumber : PySem.W.nsIn K mainGlobals "NoNumber" = some (some (.ref xNoNumber))) (exNoNumber : PySem.W.excIn K xNoNumber [.type "ValueError", .type "Exception", .type "BaseException", .type "object"] "ValueError.__new__" = true) (ekNoNumber : PySem.W.keepIn K (.ref xNoNumber) = true) (ebNoNumber : PySem.W.subIn K (.ref xNoNumber) (.type "BaseException") = some true) (etNoNumber : PySem.W.typeIn K (.ref xNoNumber) = some (.type "type"))
    (g0 : PySem.W.nsIn K mainGlobals "SMALL" = some (some (.str "abcdefghijklmnopqrstuvwxyz" t0)))
    (g1 : PySem.W.nsIn K mainGlobals "FARTHEST" = some (some (.int 99 t1)))
    (g2 : PySem.W.nsIn K mainGlobals "GREATEST" = some (some (.int 99 t2)))
    (b0 : PySem.W.nsIn K mainGlobals "len" = some none)
    (b1 : PySem.W.nsIn K mainGlobals "list" = some none)
    (b2 : PySem.W.nsIn K mainGlobals "tuple" = some none)
    (b3 : PySem.W.nsIn K mainGlobals "sum" = some none)
    (b4 : PySem.W.nsIn K mainGlobals "all" = some none)
    (b5 : PySem.W.nsIn K mainGlobals "max" = some none)
    (b6 : PySem.W.nsIn K mainGlobals "min" = some none)
    (b7 : PySem.W.nsIn K mainGlobals "abs" = some none)
    (b8 : PySem.W.nsIn K mainGlobals "int" = some none)
    (b9 : PySem.W.nsIn K mainGlobals "str" = some none)
    (b10 : PySem.W.nsIn K mainGlobals "dict" = some none)
    (b11 : PySem.W.nsIn K mainGlobals "sorted" = some none)
    (b12 : PySem.W.nsIn K mainGlobals "isinstance" = some none)
    (b13 : PySem.W.nsIn K mainGlobals "range" = some none)
    (b14 : PySem.W.nsIn K mainGlobals "enumerate" = some none)
    (b15 : PySem.W.nsIn K mainGlobals "zip" = some none)
    (b16 : PySem.W.nsIn K mainGlobals "bool" = some none)
    (b17 : PySem.W.nsIn K mainGlobals "set" = some none)
    (b18 : PySem.W.nsIn K mainGlobals "ValueError" = some none) :
    ∃ (ca : Nat → Addr) (fd : FuncData), (∀ (s : Shared) (v : Value), BindsTo s fd ⟨[v], []⟩ [("_law_script", v)]) ∧ ∀ base : Heap, K.In base → base.Ns mainGlobals mg → L2.FnOk P w K mg base (L2.CX P w) 17 fa fd ["_law_script"] (spOf K ca (fnE mdOf subX 6 i_law_k13)) := by
  have e := hfa.symm.trans (PySem.W.mg_of X G a16)
  cases e
  have bi : ∀ n ∈ biNames, mg (Str.ofString n) = none := by
    intro n hn
    simp only [biNames, List.mem_cons, List.not_mem_nil, or_false] at hn
    rcases hn with rfl | rfl | rfl | rfl | rfl | rfl | rfl | rfl | rfl | rfl | rfl | rfl | rfl | rfl | rfl | rfl | rfl | rfl | rfl
    · exact PySem.W.mg_none_of X G b0
    · exact PySem.W.mg_none_of X G b1
    · exact PySem.W.mg_none_of X G b2
    · exact PySem.W.mg_none_of X G b3
    · exact PySem.W.mg_none_of X G b4
    · exact PySem.W.mg_none_of X G b5
    · exact PySem.W.mg_none_of X G b6
    · exact PySem.W.mg_none_of X G b7
    · exact PySem.W.mg_none_of X G b8
    · exact PySem.W.mg_none_of X G b9
    · exact PySem.W.mg_none_of X G b10
    · exact PySem.W.mg_none_of X G b11
    · exact PySem.W.mg_none_of X G b12
    · exact PySem.W.mg_none_of X G b13
    · exact PySem.W.mg_none_of X G b14
    · exact PySem.W.mg_none_of X G b15
    · exact PySem.W.mg_none_of X G b16
    · exact PySem.W.mg_none_of X G b17
    · exact PySem.W.mg_none_of X G b18
  have gl : GlbOk mg gs := (GlbOk.str (PySem.W.mg_of X G g0) (by decide +kernel) (GlbOk.int (PySem.W.mg_of X G g1) (GlbOk.int (PySem.W.mg_of X G g2) GlbOk.nil)))
  let ca : Nat → Addr := fun c => if c = 0 then xAskError else if c = 1 then xNoRow else if c = 3 then xTooLate else if c = 7 then xNoNumber else 0
  have ex : ExcOk K mg ca cs := (ExcOk.cons (c := 0) (n := "AskError") ⟨PySem.W.mg_of X G emAskError, exAskError, ekAskError, ebAskError, etAskError⟩ (ExcOk.cons (c := 1) (n := "NoRow") ⟨PySem.W.mg_of X G emNoRow, exNoRow, ekNoRow, ebNoRow, etNoRow⟩ (ExcOk.cons (c := 3) (n := "TooLate") ⟨PySem.W.mg_of X G emTooLate, exTooLate, ekTooLate, ebTooLate, etTooLate⟩ (ExcOk.cons (c := 7) (n := "NoNumber") ⟨PySem.W.mg_of X G emNoNumber, exNoNumber, ekNoNumber, ebNoNumber, etNoNumber⟩ ExcOk.nil))))
  have F0 := L2.fun_mk (st := s_is_whole) l0 c0 k0
  have F1 := L2.fun_mk (st := s_is_key) l1 c1 k1
  have F2 := L2.fun_mk (st := s_is_row) l2 c2 k2
  have F3 := L2.fun_mk (st := s_look_row) l3 c3 k3
  have F4 := L2.fun_mk (st := s_is_log) l4 c4 k4
  have F5 := L2.fun_mk (st := s_look_log) l5 c5 k5
  have F6 := L2.fun_mk (st := s_in_order) l6 c6 k6
  have F7 := L2.fun_mk (st := s_merged) l7 c7 k7
  have F8 := L2.fun_mk (st := s_by_keys_parted) l8 c8 k8
  have F9 := L2.fun_mk (st := s_from_to) l9 c9 k9
  have F10 := L2.fun_mk (st := s_keys_changed) l10 c10 k10
  have F11 := L2.fun_mk (st := s__law_cell) l11 c11 k11
  have F12 := L2.fun_mk (st := s__law_pick) l12 c12 k12
  have F13 := L2.fun_mk (st := s__law_key) l13 c13 k13
  have F14 := L2.fun_mk (st := s__law_number) l14 c14 k14
  have F15 := L2.fun_mk (st := s__law_rows) l15 c15 k15
  have F16 := L2.fun_mk (st := s_law_k13) l16 c16 k16
  have y0 := F0.binds (ps := ["thing", "low", "high"]) fun _ _ _ _ _ _ us hl => match us, hl with | [_, _, _], _ => rfl
  have y1 := F1.binds (ps := ["thing"]) fun _ _ _ _ _ _ us hl => match us, hl with | [_], _ => rfl
  have y2 := F2.binds (ps := ["thing"]) fun _ _ _ _ _ _ us hl => match us, hl with | [_], _ => rfl
  have y3 := F3.binds (ps := ["row"]) fun _ _ _ _ _ _ us hl => match us, hl with | [_], _ => rfl
  have y4 := F4.binds (ps := ["rows"]) fun _ _ _ _ _ _ us hl => match us, hl with | [_], _ => rfl
  have y5 := F5.binds (ps := ["rows"]) fun _ _ _ _ _ _ us hl => match us, hl with | [_], _ => rfl
  have y6 := F6.binds (ps := ["rows"]) fun _ _ _ _ _ _ us hl => match us, hl with | [_], _ => rfl
  have y7 := F7.binds (ps := ["logs"]) fun _ _ _ _ _ _ us hl => match us, hl with | [_], _ => rfl
  have y8 := F8.binds (ps := ["rows"]) fun _ _ _ _ _ _ us hl => match us, hl with | [_], _ => rfl
  have y9 := F9.binds (ps := ["rows", "begin", "end"]) fun _ _ _ _ _ _ us hl => match us, hl with | [_, _, _], _ => rfl
  have y10 := F10.binds (ps := ["rows", "old", "new"]) fun _ _ _ _ _ _ us hl => match us, hl with | [_, _, _], _ => rfl
  have y11 := F11.binds (ps := ["_law_script", "_law_k"]) fun _ _ _ _ _ _ us hl => match us, hl with | [_, _], _ => rfl
  have y12 := F12.binds (ps := ["_law_script", "_law_k", "_law_many"]) fun _ _ _ _ _ _ us hl => match us, hl with | [_, _, _], _ => rfl
  have y13 := F13.binds (ps := ["_law_script", "_law_at"]) fun _ _ _ _ _ _ us hl => match us, hl with | [_, _], _ => rfl
  have y14 := F14.binds (ps := ["_law_script", "_law_at", "_law_most"]) fun _ _ _ _ _ _ us hl => match us, hl with | [_, _, _], _ => rfl
  have y15 := F15.binds (ps := ["_law_script", "_law_at", "_law_most"]) fun _ _ _ _ _ _ us hl => match us, hl with | [_, _, _], _ => rfl
  refine ⟨ca, PySem.W.fnOf "law" "law" (L2.defArgs s_law_k13) (L2.defBody s_law_k13) (L2.defScope s_law_k13) .none kV16 dc16 pm16 an16 cd16 ct16, fun s v => .of_eq rfl, fun base _ _ => ?_⟩
  have K0 : Known mdOf subX P w K mg base ca 0 fs_is_whole := Known.nil
  have K1 : Known mdOf subX P w K mg base ca 1 fs_is_key := K0.add i_is_whole bi ex gl F0 sc_is_whole ck_is_whole rfl rfl (PySem.W.mg_of X G a0) y0
  have K2 : Known mdOf subX P w K mg base ca 2 fs_is_row := K1.add i_is_key bi ex gl F1 sc_is_key ck_is_key rfl rfl (PySem.W.mg_of X G a1) y1
  have K3 : Known mdOf subX P w K mg base ca 3 fs_look_row := K2.add i_is_row bi ex gl F2 sc_is_row ck_is_row rfl rfl (PySem.W.mg_of X G a2) y2
  have K4 : Known mdOf subX P w K mg base ca 4 fs_is_log := K3.add i_look_row bi ex gl F3 sc_look_row ck_look_row rfl rfl (PySem.W.mg_of X G a3) y3
  have K5 : Known mdOf subX P w K mg base ca 5 fs_look_log := K4.add i_is_log bi ex gl F4 sc_is_log ck_is_log rfl rfl (PySem.W.mg_of X G a4) y4
  have K6 : Known mdOf subX P w K mg base ca 6 fs_in_order := K5.add i_look_log bi ex gl F5 sc_look_log ck_look_log rfl rfl (PySem.W.mg_of X G a5) y5
  have K7 : Known mdOf subX P w K mg base ca 7 fs_merged := K6.add i_in_order bi ex gl F6 sc_in_order ck_in_order rfl rfl (PySem.W.mg_of X G a6) y6
  have K8 : Known mdOf subX P w K mg base ca 8 fs_by_keys_parted := K7.add i_merged bi ex gl F7 sc_merged ck_merged rfl rfl (PySem.W.mg_of X G a7) y7
  have K9 : Known mdOf subX P w K mg base ca 9 fs_from_to := K8.add i_by_keys_parted bi ex gl F8 sc_by_keys_parted ck_by_keys_parted rfl rfl (PySem.W.mg_of X G a8) y8
  have K10 : Known mdOf subX P w K mg base ca 10 fs_keys_changed := K9.add i_from_to bi ex gl F9 sc_from_to ck_from_to rfl rfl (PySem.W.mg_of X G a9) y9
  have K11 : Known mdOf subX P w K mg base ca 11 fs__law_cell := K10.add i_keys_changed bi ex gl F10 sc_keys_changed ck_keys_changed rfl rfl (PySem.W.mg_of X G a10) y10
  have K12 : Known mdOf subX P w K mg base ca 12 fs__law_pick := K11.add i__law_cell bi ex gl F11 sc__law_cell ck__law_cell rfl rfl (PySem.W.mg_of X G a11) y11
  have K13 : Known mdOf subX P w K mg base ca 13 fs__law_key := K12.add i__law_pick bi ex gl F12 sc__law_pick ck__law_pick rfl rfl (PySem.W.mg_of X G a12) y12
  have K14 : Known mdOf subX P w K mg base ca 14 fs__law_number := K13.add i__law_key bi ex gl F13 sc__law_key ck__law_key rfl rfl (PySem.W.mg_of X G a13) y13
  have K15 : Known mdOf subX P w K mg base ca 15 fs__law_rows := K14.add i__law_number bi ex gl F14 sc__law_number ck__law_number rfl rfl (PySem.W.mg_of X G a14) y14
  have K16 : Known mdOf subX P w K mg base ca 16 fs_law_k13 := K15.add i__law_rows bi ex gl F15 sc__law_rows ck__law_rows rfl rfl (PySem.W.mg_of X G a15) y15
  exact fn_known i_law_k13 K16 bi ex gl F16 sc_law_k13 ck_law_k13 rfl rfl 6
end Z
open PySem PySem.W PyProof.Rows
set_option maxRecDepth 100000 in
set_option maxHeartbeats 0 in
theorem PySem.Challenge.cw_rowasks_k13_whole_logs_parted_holds : PySem.Challenge.rw_rowasks_k13_whole_logs_parted.Holds := by
  w_on; o_law; k_head; (case hw => w_witness2)
  k_fill
  refine Z.law_walk (l := PySem.Challenge.rw_rowasks_k13_whole_logs_parted) (k := 17) (x := "_law_script") (Z.fnE Z.mdOf Z.subX 6 Z.i_law_k13) rfl rfl ⟨rfl, by decide, by decide⟩ (fun w h Y => PySem.W.kIn_of Y) ?F (fun ns h => Z.law_of (Z.law_true_k13 ns h))
  case F =>
    intro w mg fa h KX G hmg
    refine' Z.all_mk KX G hmg ?ya0 ?yl0 ?yc0 ?yk0 ?ya1 ?yl1 ?yc1 ?yk1 ?ya2 ?yl2 ?yc2 ?yk2 ?ya3 ?yl3 ?yc3 ?yk3 ?ya4 ?yl4 ?yc4 ?yk4 ?ya5 ?yl5 ?yc5 ?yk5 ?ya6 ?yl6 ?yc6 ?yk6 ?ya7 ?yl7 ?yc7 ?yk7 ?ya8 ?yl8 ?yc8 ?yk8 ?ya9 ?yl9 ?yc9 ?yk9 ?ya10 ?yl10 ?yc10 ?yk10 ?ya11 ?yl11 ?yc11 ?yk11 ?ya12 ?yl12 ?yc12 ?yk12 ?ya13 ?yl13 ?yc13 ?yk13 ?ya14 ?yl14 ?yc14 ?yk14 ?ya15 ?yl15 ?yc15 ?yk15 ?ya16 ?yl16 ?yc16 ?yk16 ?yemAskError ?yexAskError ?yekAskError ?yebAskError ?yetAskError ?yemNoRow ?yexNoRow ?yekNoRow ?yebNoRow ?yetNoRow ?yemTooLate ?yexTooLate ?yekTooLate ?yebTooLate ?yetTooLate ?yemNoNumber ?yexNoNumber ?yekNoNumber ?yebNoNumber ?yetNoNumber ?yg0 ?yg1 ?yg2 ?yb0 ?yb1 ?yb2 ?yb3 ?yb4 ?yb5 ?yb6 ?yb7 ?yb8 ?yb9 ?yb10 ?yb11 ?yb12 ?yb13 ?yb14 ?yb15 ?yb16 ?yb17 ?yb18
    (case ya0 => k_is); (case yl0 => k_is); (case yc0 => k_is); (case yk0 => k_is); (case ya1 => k_is); (case yl1 => k_is); (case yc1 => k_is); (case yk1 => k_is); (case ya2 => k_is); (case yl2 => k_is); (case yc2 => k_is); (case yk2 => k_is); (case ya3 => k_is); (case yl3 => k_is); (case yc3 => k_is); (case yk3 => k_is); (case ya4 => k_is); (case yl4 => k_is); (case yc4 => k_is); (case yk4 => k_is); (case ya5 => k_is); (case yl5 => k_is); (case yc5 => k_is); (case yk5 => k_is); (case ya6 => k_is); (case yl6 => k_is); (case yc6 => k_is); (case yk6 => k_is); (case ya7 => k_is); (case yl7 => k_is); (case yc7 => k_is); (case yk7 => k_is); (case ya8 => k_is); (case yl8 => k_is); (case yc8 => k_is); (case yk8 => k_is); (case ya9 => k_is); (case yl9 => k_is); (case yc9 => k_is); (case yk9 => k_is); (case ya10 => k_is); (case yl10 => k_is); (case yc10 => k_is); (case yk10 => k_is); (case ya11 => k_is); (case yl11 => k_is); (case yc11 => k_is); (case yk11 => k_is); (case ya12 => k_is); (case yl12 => k_is); (case yc12 => k_is); (case yk12 => k_is); (case ya13 => k_is); (case yl13 => k_is); (case yc13 => k_is); (case yk13 => k_is); (case ya14 => k_is); (case yl14 => k_is); (case yc14 => k_is); (case yk14 => k_is); (case ya15 => k_is); (case yl15 => k_is); (case yc15 => k_is); (case yk15 => k_is); (case ya16 => k_is); (case yl16 => k_is); (case yc16 => k_is); (case yk16 => k_is); (case yemAskError => k_is); (case yexAskError => k_exc); (case yekAskError => k_is); (case yebAskError => k_is); (case yetAskError => k_is); (case yemNoRow => k_is); (case yexNoRow => k_exc); (case yekNoRow => k_is); (case yebNoRow => k_is); (case yetNoRow => k_is); (case yemTooLate => k_is); (case yexTooLate => k_exc); (case yekTooLate => k_is); (case yebTooLate => k_is); (case yetTooLate => k_is); (case yemNoNumber => k_is); (case yexNoNumber => k_exc); (case yekNoNumber => k_is); (case yebNoNumber => k_is); (case yetNoNumber => k_is); (case yg0 => k_is); (case yg1 => k_is); (case yg2 => k_is); (case yb0 => k_is); (case yb1 => k_is); (case yb2 => k_is); (case yb3 => k_is); (case yb4 => k_is); (case yb5 => k_is); (case yb6 => k_is); (case yb7 => k_is); (case yb8 => k_is); (case yb9 => k_is); (case yb10 => k_is); (case yb11 => k_is); (case yb12 => k_is); (case yb13 => k_is); (case yb14 => k_is); (case yb15 => k_is); (case yb16 => k_is); (case yb17 => k_is); (case yb18 => k_is)
