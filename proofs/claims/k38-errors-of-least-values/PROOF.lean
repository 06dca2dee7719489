import PyProof.Rows.All
import Wide.All
import OpenK.AllK
import Wide.FinOn
import HandS.ForMost
import HandS.Exc
import HandS.Comp
import HandS.Lambda
import HandS.TupMul
import HandS.Wide
import HandS.TupAny
import HandS.IsInst
import HandS.Style
import HandS.Flow
import PyProof.StrLawsIn
import HandS.Deep
import HandS.Text
import HandS.Iter
import HandS.Walk
import KE.GoesMore
import KE.GoesEnum
import HandS.Zip
import HandS.Star
import KE.KUnpack
import HandS.WordsExc
import HandS.ExcField
import KE.SortKeyHeap
import KE.SortData
import HandS.SortKw
import KE.KExcSuper
import HandS.ExcInit
import HandS.FStr
import HandS.TryMany
import HandS.Defaults
import HandS.Ends
import HandS.EndTab
import KE.KNestM
import KE.KExcInit
import HandS.Small
import PyProof.P3Eq
import PySem.Challenge.RW_dearturns_k38_errors_of_least_values
section
set_option linter.all false
/-! A small interpreter over pure data: values D, objects O, expressions E, statements S. -/
namespace Mu
open PySem

/-- built-in classes that have a value -/
inductive Ty where
  | int | bool | str | tuple | list | dict
deriving DecidableEq
def Ty.name : Ty → String
  | .int => "int"
  | .bool => "bool"
  | .str => "str"
  | .tuple => "tuple"
  | .list => "list"
  | .dict => "dict"
def Ty.word : Ty → Str
  | .int => "int"
  | .bool => "bool"
  | .str => "str"
  | .tuple => "tuple"
  | .list => "list"
  | .dict => "dict"
/-- built-in functions that are called by their names -/
inductive Blt where
  | len | abs | min | max | int | tuple | list | all | any | isinstance | repr | str | sum
deriving DecidableEq
/-- methods of built-in classes -/
inductive Bm where
  | append | extend | index | count | get | items | values | split | update | join
deriving DecidableEq

/-- a value without a heap; ref i: the i-th object of the store -/
inductive D where
  | non | bl (b : Bool) | int (i : Int) | str (x : Str) | ty (t : Ty)
  /-- a def of the table, a class of one's own -/
  | fn (i : Nat) | cls (i : Nat)
  | tup (xs : List D) | lst (xs : List D) | rol (xs : List D) | ref (n : Nat)
  /-- a dict that nobody writes -/
  | dic (ks : List L2.Key) (vs : List D)
  /-- an instance that nobody writes: its class, its attributes' names and values -/
  | obj (c : Nat) (ks : List Nat) (vs : List D)
  /-- the i-th lambda of the d-th frame -/
  | clo (d i : Nat)
deriving Inhabited

/-- what the store holds -/
inductive O where
  | lst (xs : List D)
  | dic (ks : List L2.Key) (vs : List D)
  | ins (c : Nat) (ks : List Nat) (vs : List D)
  /-- it has become a value -/
  | gone
deriving Inhabited

abbrev Sto := List O
abbrev Env := List (Option D)

inductive Res (α : Type) where
  | ok (a : α) (st : Sto)
  | exc (c : Nat) (fs : Option D) (st : Sto)
  | stuck

def Res.bind {α β : Type} : Res α → (α → Sto → Res β) → Res β
  | .ok a st, f => f a st
  | .exc c fs st, _ => .exc c fs st
  | .stuck, _ => .stuck
@[simp] theorem Res.bind_ok {α β : Type} (a : α) (st : Sto) (f : α → Sto → Res β) : (Res.ok a st).bind f = f a st := rfl
@[simp] theorem Res.bind_exc {α β : Type} (c : Nat) (fs : Option D) (st : Sto) (f : α → Sto → Res β) : (Res.exc c fs st).bind f = .exc c fs st := rfl
@[simp] theorem Res.bind_stuck {α β : Type} (f : α → Sto → Res β) : (Res.stuck : Res α).bind f = .stuck := rfl

/-- an answer that may be missing -/
def Res.of {α : Type} (o : Option α) (st : Sto) : Res α := match o with
  | some a => .ok a st
  | none => .stuck
@[simp] theorem Res.of_some {α : Type} (a : α) (st : Sto) : Res.of (some a) st = .ok a st := rfl
@[simp] theorem Res.of_none {α : Type} (st : Sto) : (Res.of none st : Res α) = .stuck := rfl

/-- nothing is let out of it -/
def Res.still {α : Type} : Res α → Res α
  | .ok a st => .ok a st
  | _ => .stuck
@[simp] theorem Res.still_ok {α : Type} (a : α) (st : Sto) : (Res.ok a st).still = .ok a st := rfl

def asBool (r : Res D) : Res Bool := r.bind fun d st => match d with
  | .bl c => .ok c st
  | _ => .stuck

inductive SR where
  | next (env : Env) (st : Sto)
  | ret (d : D) (st : Sto)
  | brk (env : Env) (st : Sto)
  | cont (env : Env) (st : Sto)
  | exc (c : Nat) (fs : Option D) (env : Env) (st : Sto)
  | stuck

def Res.run {α : Type} (r : Res α) (env : Env) (f : α → Sto → SR) : SR := match r with
  | .ok a st => f a st
  | .exc c fs st => .exc c fs env st
  | .stuck => .stuck
@[simp] theorem Res.run_ok {α : Type} (a : α) (st : Sto) (env : Env) (f : α → Sto → SR) : (Res.ok a st).run env f = f a st := rfl
@[simp] theorem Res.run_exc {α : Type} (c : Nat) (fs : Option D) (st : Sto) (env : Env) (f : α → Sto → SR) : (Res.exc c fs st : Res α).run env f = .exc c fs env st := rfl
@[simp] theorem Res.run_stuck {α : Type} (env : Env) (f : α → Sto → SR) : (Res.stuck : Res α).run env f = .stuck := rfl

def SR.then (r : SR) (f : Env → Sto → SR) : SR := match r with
  | .next env st => f env st
  | r => r
@[simp] theorem SR.then_next (env : Env) (st : Sto) (f : Env → Sto → SR) : (SR.next env st).then f = f env st := rfl
@[simp] theorem SR.then_ret (d : D) (st : Sto) (f : Env → Sto → SR) : (SR.ret d st).then f = .ret d st := rfl
@[simp] theorem SR.then_brk (env : Env) (st : Sto) (f : Env → Sto → SR) : (SR.brk env st).then f = .brk env st := rfl
@[simp] theorem SR.then_cont (env : Env) (st : Sto) (f : Env → Sto → SR) : (SR.cont env st).then f = .cont env st := rfl
@[simp] theorem SR.then_exc (c : Nat) (fs : Option D) (env : Env) (st : Sto) (f : Env → Sto → SR) : (SR.exc c fs env st).then f = .exc c fs env st := rfl
@[simp] theorem SR.then_stuck (f : Env → Sto → SR) : SR.stuck.then f = .stuck := rfl

mutual
/-- expressions -/
inductive E where
  | var (i : Nat) | lit (d : D) | con (i : Nat) | bty (t : Ty) | gfn (i : Nat) | gcl (i : Nat)
  | bin (o : Operator) (a b : E) | neg (a : E)
  | cmp (o : CmpOp) (a b : E) | cmp2 (o p : CmpOp) (a b c : E) | cmpO (o : CmpOp) (a b : E)
  | not (a : E) | and (a b : E) | or (a b : E)
  | ite (t a b : E)
  | tup (es : List E) | lst (es : List E) | lstR (es : List E)
  | tupS (es : List (Bool × E)) | lstS (es : List (Bool × E)) | dic (ks vs : List E) | dicR (ks vs : List E)
  | call (f : Nat) (es : List E) | callv (i : Nat) (es : List E) | mk (c : Nat) (es : List E) | blt (f : Blt) (es : List E)
  | fld (a : E) (n : Nat) | meth (a : E) (n : Nat) (es : List E) | bm (a : E) (m : Bm) (es : List E)
  | isi (a : E) (c : Nat) | srt (a : E) (f : Option Nat) | fst (ps : List (Bool × E))
  | idx (a i : E) | slc (a : E) (lo hi : Option E) | rev (a : E)
  | comp (r : Bool) (el : E) (tg : Tg) (it : Iz) (c : Option E) (own : List (Str × Nat))
  | comp2 (r : Bool) (el : E) (tg : Tg) (it : Iz) (tg2 : Tg) (it2 : Iz) (own : List (Str × Nat)) (vs2 : List Nat)
  | lam (i : Nat) | frz (a : E) | catR (a b : E)
/-- what is walked -/
inductive Iz where
  | seq (e : E) | rng (es : List E) | zip (a b : E) | enum (a : E) | zip3 (a b c : E)
/-- targets -/
inductive Tg where
  | name (i : Nat) | tup (ts : List Tg) | sub (a i : E) | att (a : E) (n : Nat)
end

/-- what an except suite does: it returns a constant, or a word and the repr of what the error keeps -/
inductive Cb where
  | ret (d : D) | retR (pre : Str) (n : Nat)
structure Cz where
  cls : Nat
  nm : Option Nat
  bd : Cb

inductive S where
  | expr (e : E)
  | asg (t : Tg) (e : E)
  | par (is : List Nat) (es : List E)
  | aug (i : Nat) (o : Operator) (e : E)
  | ret (e : E) | retN
  | ite (t : E) (a b : List S)
  | whl (t : E) (b : List S)
  | for_ (t : Tg) (it : Iz) (b : List S)
  | raise (c : Nat) (e : E)
  | try_ (b : List S) (cs : List Cz)
  | pass | brk | cont
  | never

/-! ### data -/
mutual
def D.py : D → PyData
  | .non => .none
  | .bl b => .bool b
  | .int i => .int i
  | .str x => .str x
  | .tup xs => .tuple (D.pys xs)
  | .lst xs => .list (D.pys xs)
  | .rol _ => .none
  | .ty _ => .none
  | .fn _ => .none
  | .cls _ => .none
  | .ref _ => .none
  | .dic _ _ => .none
  | .obj _ _ _ => .none
  | .clo _ _ => .none
def D.pys : List D → List PyData
  | [] => []
  | x :: xs => D.py x :: D.pys xs
end
mutual
/-- plain data: no object of the store, no def -/
def D.plain : D → Bool
  | .non => true
  | .bl _ => true
  | .int _ => true
  | .str _ => true
  | .tup xs => D.plains xs
  | .lst xs => D.plains xs
  | .rol _ => false
  | .ty _ => false
  | .fn _ => false
  | .cls _ => false
  | .ref _ => false
  | .dic _ _ => false
  | .obj _ _ _ => false
  | .clo _ _ => false
def D.plains : List D → Bool
  | [] => true
  | x :: xs => D.plain x && D.plains xs
end
mutual
/-- its objects lie below n -/
def D.low (n : Nat) : D → Bool
  | .tup xs => D.lows n xs
  | .lst xs => D.lows n xs
  | .rol xs => D.lows n xs
  | .dic _ vs => D.lows n vs
  | .obj _ _ vs => D.lows n vs
  | .ref i => decide (i < n)
  | .non => true
  | .bl _ => true
  | .int _ => true
  | .str _ => true
  | .ty _ => true
  | .fn _ => true
  | .cls _ => true
  | .clo _ _ => true
def D.lows (n : Nat) : List D → Bool
  | [] => true
  | x :: xs => D.low n x && D.lows n xs
end
mutual
/-- its lambdas are of frames below n -/
def D.lowC (n : Nat) : D → Bool
  | .tup xs => D.lowsC n xs
  | .lst xs => D.lowsC n xs
  | .rol xs => D.lowsC n xs
  | .dic _ vs => D.lowsC n vs
  | .obj _ _ vs => D.lowsC n vs
  | .clo d _ => decide (d < n)
  | .non => true
  | .bl _ => true
  | .int _ => true
  | .str _ => true
  | .ty _ => true
  | .fn _ => true
  | .cls _ => true
  | .ref _ => true
def D.lowsC (n : Nat) : List D → Bool
  | [] => true
  | x :: xs => D.lowC n x && D.lowsC n xs
end
def O.low (n : Nat) : O → Bool
  | .lst xs => D.lows n xs
  | .dic _ vs => D.lows n vs
  | .ins _ _ vs => D.lows n vs
  | .gone => true
def O.lowC (n : Nat) : O → Bool
  | .lst xs => D.lowsC n xs
  | .dic _ vs => D.lowsC n vs
  | .ins _ _ vs => D.lowsC n vs
  | .gone => true

def dataOk (d : D) : Bool := d.plain && SeqAt.shaped d.py
def Sto.items (st : Sto) : D → Option (List D)
  | .lst xs => some xs
  | .ref i => match st[i]? with
    | some (.lst xs) => some xs
    | _ => none
  | _ => none
/-- an object of the store, read -/
def Sto.see (st : Sto) : D → D
  | .ref i => match st[i]? with
    | some (.lst xs) => .lst xs
    | _ => .ref i
  | d => d
def eqD (x y : D) : Option Bool := match x, y with
  | .str a, .str b => some (decide (a = b))
  | x, y => if dataOk x && dataOk y then some (PyData.eqv x.py y.py) else none
def keyPy : L2.Key → PyData
  | .inl i => .int i
  | .inr x => .str x
def D.flat : D → Bool
  | .non => true
  | .bl _ => true
  | .int _ => true
  | .str _ => true
  | _ => false
/-- plain data, or a dict of flat values -/
def D.pyT : D → PyData
  | .dic ks vs => .dict ((ks.map keyPy).zip (D.pys vs))
  | d => d.py
def D.plainT : D → Bool
  | .dic ks vs => decide (ks.length = vs.length) && vs.all D.flat
  | d => d.plain
def reprD (x : D) : Option Str := if x.plainT && x.pyT.showable && decide (x.pyT.shown.length ≤ sizeLine) && decide (x.pyT.depth ≤ 60) then some x.pyT.shown else none

def mulOk (i j : Int) : Bool := decide (i.natAbs.log2 + j.natAbs.log2 < 100000000)
def powOk (i j : Int) : Bool := decide (0 ≤ j) && decide ((Builtin.Int.intBits i : Int) * j ≤ 2 ^ 27)
def repL (xs : List D) : Nat → List D
  | 0 => []
  | n + 1 => xs ++ repL xs n

/-- k: how deep one may still call -/
def binD (k : Nat) (o : Operator) (x y : D) : Option D := match o with
  | .Add => match x, y with
    | .int i, .int j => some (.int (i + j))
    | .str a, .str b => if a.length + b.length ≤ sizeLine then some (.str (a ++ b)) else none
    | .tup xs, .tup ys => if xs.length + ys.length ≤ sizeLine then some (.tup (xs ++ ys)) else none
    | .lst xs, .lst ys => if xs.length + ys.length ≤ sizeLine then some (.lst (xs ++ ys)) else none
    | _, _ => none
  | .Sub => match x, y with
    | .int i, .int j => some (.int (i - j))
    | _, _ => none
  | .Mult => match x, y with
    | .int i, .int j => if mulOk i j then some (.int (i * j)) else none
    | .tup xs, .int j => if j.natAbs ≤ 1000 && decide (xs.length ≤ 1000) then some (.tup (repL xs j.toNat)) else none
    | .lst xs, .int j => if j.natAbs ≤ 1000 && decide (xs.length ≤ 1000) then some (.lst (repL xs j.toNat)) else none
    | _, _ => none
  | .FloorDiv => match x, y with
    | .int i, .int j => if j = 0 then none else if 40 ≤ k then some (.int (i.fdiv j)) else none
    | _, _ => none
  | .Mod => match x, y with
    | .int i, .int j => if j = 0 then none else some (.int (i.fmod j))
    | _, _ => none
  | .Pow => match x, y with
    | .int i, .int j => if powOk i j then some (.int (i ^ j.toNat)) else none
    | _, _ => none
  | _ => none

def strLt (a b : Str) : Bool := decide (a.cps.toList < b.cps.toList)
def isNon : D → Bool
  | .non => true
  | _ => false
/-- flat data as a value of the hand layer -/
def flatD : D → Option L2.V
  | .non => some .non
  | .bl b => some (.bl b)
  | .int i => some (.int i)
  | .str x => some (.str x)
  | _ => none
def flatsD : List D → Option (List L2.V)
  | [] => some []
  | d :: ds => match flatD d, flatsD ds with
    | some v, some vs => some (v :: vs)
    | _, _ => none
/-- by computing: a single sign -/
def inStr (a b : Str) : Bool := match a.cps.toList with
  | [c] => b.cps.toList.any fun d => d == c
  | _ => !(Builtin.Str.occurrences b a 0 b.length 1).isEmpty
def inSeq (x : D) (ys : List D) : Option Bool := match flatD x, flatsD ys with
  | some v, some vs => some (L2.inV v vs)
  | _, _ => none
def inD (x y : D) : Option Bool := match y with
  | .str b => match x with
    | .str a => some (inStr a b)
    | _ => none
  | .tup ys => inSeq x ys
  | .lst ys => inSeq x ys
  | _ => none

def cmpD (o : CmpOp) (x y : D) : Option Bool := match o with
  | .Eq => eqD x y
  | .NotEq => (eqD x y).map (!·)
  | .Lt => match x, y with
    | .int i, .int j => some (decide (i < j))
    | .str a, .str b => some (strLt a b)
    | _, _ => none
  | .LtE => match x, y with
    | .int i, .int j => some (decide (i ≤ j))
    | .str a, .str b => some (!strLt b a)
    | _, _ => none
  | .Gt => match x, y with
    | .int i, .int j => some (decide (j < i))
    | _, _ => none
  | .GtE => match x, y with
    | .int i, .int j => some (decide (j ≤ i))
    | .str a, .str b => some (!strLt a b)
    | _, _ => none
  | .Is => match y with
    | .non => some (isNon x)
    | .bl b => match x with
      | .bl a => some (decide (a = b))
      | _ => none
    | _ => none
  | .IsNot => match y with
    | .non => some (!isNon x)
    | .bl b => match x with
      | .bl a => some (!decide (a = b))
      | _ => none
    | _ => none
  | .In => inD x y
  | .NotIn => (inD x y).map (!·)

def seqD (st : Sto) : D → Option (List D)
  | .tup xs => some xs
  | .rol xs => some xs
  | d => Sto.items st d

def truth (st : Sto) : D → Option Bool
  | .non => some false
  | .bl b => some b
  | .int i => some (i != 0)
  | .str x => if x.length ≤ sizeLine then some ((x.length : Int) != 0) else none
  | .tup xs => some (!xs.isEmpty)
  | d => (Sto.items st d).map fun xs => !xs.isEmpty

def atD {α : Type} (xs : List α) (i : Int) : Option α := if 0 ≤ i then xs[i.toNat]? else if -(xs.length : Int) ≤ i then xs[(i + xs.length).toNat]? else none

def idxD (st : Sto) (x i : D) : Option D := match i with
  | .int i => match x with
    | .str z => if z.length ≤ sizeLine then (atD z.cps.toList i).map fun c => .str ⟨#[c]⟩ else none
    | x => (seqD st x).bind fun xs => atD xs i
  | _ => none

def cutD (xs : List D) (lo hi : Option Int) : List D := (xs.drop (HT.sIx xs.length 0 lo)).take (HT.sIx xs.length xs.length hi - HT.sIx xs.length 0 lo)

/-- classes by small words -/
inductive Tn where
  | non | bool | int | str | tuple | list | dict
deriving DecidableEq
def Tn.name : Tn → String
  | .non => "NoneType"
  | .bool => "bool"
  | .int => "int"
  | .str => "str"
  | .tuple => "tuple"
  | .list => "list"
  | .dict => "dict"
def tyD (st : Sto) : D → Option Tn
  | .non => some .non
  | .bl _ => some .bool
  | .int _ => some .int
  | .str _ => some .str
  | .tup _ => some .tuple
  | .lst _ => some .list
  | .dic _ _ => some .dict
  | .ref i => match st[i]? with
    | some (.lst _) => some .list
    | some (.dic _ _) => some .dict
    | _ => none
  | _ => none
def subTy : Tn → Ty → Bool
  | .bool, .bool => true
  | .bool, .int => true
  | .int, .int => true
  | .str, .str => true
  | .tuple, .tuple => true
  | .list, .list => true
  | .dict, .dict => true
  | _, _ => false

def allB : List D → Option Bool
  | [] => some true
  | .bl b :: r => (allB r).map (b && ·)
  | _ => none
def anyB : List D → Option Bool
  | [] => some false
  | .bl b :: r => (anyB r).map (b || ·)
  | _ => none

/-! ### built-ins' answers -/
def lenD : List D → Sto → Option D := fun xs st => match xs with
    | [.str x] => if x.length ≤ sizeLine then some (.int x.length) else none
    | [d] => (seqD st d).map fun ys => .int ys.length
    | _ => none
def absD : List D → Sto → Option D := fun xs _ => match xs with
    | [.int i] => some (.int (if i < 0 then -i else i))
    | _ => none
def minD : List D → Sto → Option D := fun xs _ => match xs with
    | [.int i, .int j] => some (.int (if j < i then j else i))
    | _ => none
def maxD : List D → Sto → Option D := fun xs _ => match xs with
    | [.int i, .int j] => some (.int (if j > i then j else i))
    | _ => none
def intD : List D → Sto → Option D := fun xs _ => match xs with
    | [.int i] => some (.int i)
    | [.bl b] => some (.int (if b then 1 else 0))
    | _ => none
def tupleD : List D → Sto → Option D := fun xs st => match xs with
    | [.tup xs] => some (.tup xs)
    | [d] => (Sto.items st d).map .tup
    | _ => none
def listD : List D → Sto → Option D := fun xs st => match xs with
    | [d] => (seqD st d).map .lst
    | _ => none
def allD : List D → Sto → Option D := fun xs st => match xs with
    | [d] => ((Sto.items st d).bind allB).map .bl
    | _ => none
def anyD : List D → Sto → Option D := fun xs st => match xs with
    | [d] => ((Sto.items st d).bind anyB).map .bl
    | _ => none
def isiD : List D → Sto → Option D := fun xs st => match xs with
    | [d, .ty n] => (tyD st d).map fun a => .bl (subTy a n)
    | _ => none
def reprL : List D → Sto → Option D := fun xs _ => match xs with
    | [d] => (reprD d).map .str
    | _ => none
def Blt.name : Blt → Str
  | .len => "len"
  | .abs => "abs"
  | .min => "min"
  | .max => "max"
  | .int => "int"
  | .tuple => "tuple"
  | .list => "list"
  | .all => "all"
  | .any => "any"
  | .isinstance => "isinstance"
  | .repr => "repr"
  | .str => "str"
  | .sum => "sum"
def bltD : Blt → List D → Sto → Option D
  | .len => lenD
  | .abs => absD
  | .min => minD
  | .max => maxD
  | .int => intD
  | .tuple => tupleD
  | .list => listD
  | .all => allD
  | .any => anyD
  | .isinstance => isiD
  | .repr => reprL
  | .str => fun _ _ => none
  | .sum => fun _ _ => none
/-- the store behind a method of a built-in class, and what it gives -/
def bmD : Bm → D → List D → Sto → Option (D × Sto)
  | .append, .ref i, [d], st => match st[i]? with
    | some (.lst xs) => if xs.length < sizeLine then some (.non, st.set i (.lst (xs ++ [d]))) else none
    | _ => none
  | .extend, .ref i, [.lst ys], st => match st[i]? with
    | some (.lst xs) => if xs.length + ys.length ≤ sizeLine then some (.non, st.set i (.lst (xs ++ ys))) else none
    | _ => none
  | _, _, _, _ => none

/-- a list of the store -/
def bmOk (x : D) (st : Sto) : Bool := match x with
  | .ref i => match st[i]? with
    | some (.lst _) => true
    | _ => false
  | _ => false

/-! ### classes and defs -/
/-- an exception class: the attribute that it keeps, whether its message shows it -/
structure XI where
  fld : Option Nat
  shw : Bool
structure Cl where
  name : Str
  sup : List Nat
  exc : Option XI
  ini : Option Nat
  mth : List (Nat × Nat)
  prp : List (Nat × Nat)
  eqm : Option Nat
structure Fd where
  name : Str
  names : List Str
  ps : List Str
  dft : List D
  lams : List E
  body : List S
structure Tab where
  fns : List Fd
  cls : List Cl
  con : List (Str × D)
  att : List Str
def Fd.pad (F : Fd) (ds : List D) : List D := ds ++ F.dft.drop (ds.length + F.dft.length - F.ps.length)
def Tab.isSub (T : Tab) (c c' : Nat) : Bool := match T.cls[c]? with
  | some k => k.sup.contains c'
  | none => false
def Tab.xi (T : Tab) (c : Nat) : Option XI := match T.cls[c]? with
  | some k => k.exc
  | none => none
/-- a suspended frame that has made lambdas -/
structure Frm where
  lams : List E
  env : Env

/-! ### the run -/
structure Cf where
  k : Nat
  T : Tab
  dep : Nat
  call : Env → Nat → List D → Sto → Res D
  clo : Env → Nat → Nat → List D → Sto → Res D

def Env.at (env : Env) (i : Nat) : Option D := match env[i]? with
  | some (some d) => some d
  | _ => none

def evL (f : E → Sto → Res D) : List E → Sto → Res (List D)
  | [], st => .ok [] st
  | e :: es, st => (f e st).bind fun d st => (evL f es st).bind fun ds st => .ok (d :: ds) st
def evLS (f : E → Sto → Res D) : List (Bool × E) → Sto → Res (List D)
  | [], st => .ok [] st
  | (b, e) :: es, st => (f e st).bind fun d st => if b then match d with
      | .tup xs => (evLS f es st).bind fun ds st => .ok (xs ++ ds) st
      | .lst xs => (evLS f es st).bind fun ds st => .ok (xs ++ ds) st
      | _ => .stuck
    else (evLS f es st).bind fun ds st => .ok (d :: ds) st

def evO (f : E → Sto → Res D) : Option E → Sto → Res (Option Int)
  | none, st => .ok none st
  | some e, st => (f e st).bind fun d st => match d with
    | .int i => .ok (some i) st
    | _ => .stuck

def intsD (lo : Int) : Nat → List D
  | 0 => []
  | n + 1 => .int lo :: intsD (lo + 1) n

def pairs : List D → List D → List D
  | x :: xs, y :: ys => .tup [x, y] :: pairs xs ys
  | _, _ => []
def enumD (i : Int) : List D → List D
  | [] => []
  | x :: xs => .tup [.int i, x] :: enumD (i + 1) xs

def rngD : List D → Option (List D)
  | [.int j] => if j.natAbs ≤ 4611686018427387903 then some (intsD 0 j.toNat) else none
  | [.int i, .int j] => if i.natAbs ≤ 4611686018427387903 then if j.natAbs ≤ 4611686018427387903 then some (intsD i (j - i).toNat) else none else none
  | _ => none

/-- a text, sign by sign -/
def signsD (x : Str) : List D := x.cps.toList.map fun c => .str ⟨#[c]⟩
/-- what is walked, as a list of values -/
def itD (f : E → Sto → Res D) : Iz → Sto → Res (List D)
  | .seq e, st => (f e st).bind fun d st => match d with
    | .tup xs => .ok xs st
    | .lst xs => .ok xs st
    | .rol xs => .ok xs st
    | .str x => .ok (signsD x) st
    | _ => .stuck
  | .rng es, st => (evL f es st).bind fun ds st => .of (rngD ds) st
  | .zip a b, st => (f a st).bind fun x st => (f b st).bind fun y st => match x, y with
    | .tup xs, .tup ys => .ok (pairs xs ys) st
    | .lst xs, .lst ys => .ok (pairs xs ys) st
    | .lst xs, .tup ys => .ok (pairs xs ys) st
    | .tup xs, .lst ys => .ok (pairs xs ys) st
    | _, _ => .stuck
  | .enum a, st => (f a st).bind fun x st => match x with
    | .lst xs => .ok (enumD 0 xs) st
    | .tup xs => .ok (enumD 0 xs) st
    | _ => .stuck
  | .zip3 _ _ _, _ => .stuck

mutual
/-- a target is set; f evaluates -/
def tgD (f : E → Env → Sto → Res D) : Tg → D → Env → Sto → Res Env
  | .name i, d, env, st => .ok (env.set i (some d)) st
  | .tup ts, d, env, st => match d with
    | .tup xs => if xs.length = ts.length then tgsD f ts xs env st else .stuck
    | .lst xs => if xs.length = ts.length then tgsD f ts xs env st else .stuck
    | _ => .stuck
  | .sub a i, d, env, st => (f a env st).bind fun x st => (f i env st).bind fun j st => match x, j with
    | .ref r, .int j => match st[r]? with
      | some (.lst xs) => if 0 ≤ j ∧ j < xs.length then .ok env (st.set r (.lst (xs.set j.toNat d))) else .stuck
      | _ => .stuck
    | _, _ => .stuck
  | .att _ _, _, _, _ => .stuck
def tgsD (f : E → Env → Sto → Res D) : List Tg → List D → Env → Sto → Res Env
  | [], [], env, st => .ok env st
  | t :: ts, d :: ds, env, st => (tgD f t d env st).bind fun env st => tgsD f ts ds env st
  | _, _, _, _ => .stuck
end

def wipeE (env : Env) : List Nat → Env
  | [] => env
  | v :: vs => (wipeE env vs).set v none
/-- within a comprehension's block, which began at env -/
def Cf.blk (C : Cf) (env : Env) : Cf := { C with call := fun _ => C.call env, clo := fun _ => C.clo env }

/-- a comprehension's turns -/
def compL (f : D → Sto → Res (Option D)) : List D → List D → Sto → Res (List D)
  | [], acc, st => .ok acc st
  | x :: xs, acc, st => (f x st).bind fun o st => match o with
    | some d => if acc.length < sizeLine then compL f xs (acc ++ [d]) st else .stuck
    | none => compL f xs acc st

/-- the same, counted -/
def compQ (f : D → Sto → Res (Option D)) : List D → Nat → Sto → Res (List D)
  | [], _, st => .ok [] st
  | x :: xs, n, st => (f x st).bind fun o st => match o with
    | some d => if n < sizeLine then (compQ f xs (n + 1) st).bind fun ds st => .ok (d :: ds) st else .stuck
    | none => compQ f xs n st
theorem Res.bind_bind {α β γ : Type} (r : Res α) (f : α → Sto → Res β) (g : β → Sto → Res γ) : (r.bind f).bind g = r.bind fun a st => (f a st).bind g := by cases r <;> rfl
theorem compL_q (f : D → Sto → Res (Option D)) : ∀ (xs acc : List D) (st : Sto), compL f xs acc st = (compQ f xs acc.length st).bind fun ds st => .ok (acc ++ ds) st
  | [], acc, st => by
    show Res.ok acc st = Res.ok (acc ++ []) st
    rw [List.append_nil]
  | x :: xs, acc, st => by
    show ((f x st).bind fun o st => match o with
      | some d => if acc.length < sizeLine then compL f xs (acc ++ [d]) st else .stuck
      | none => compL f xs acc st) = ((f x st).bind fun o st => match o with
      | some d => if acc.length < sizeLine then (compQ f xs (acc.length + 1) st).bind fun ds st => .ok (d :: ds) st else .stuck
      | none => compQ f xs acc.length st).bind fun ds st => .ok (acc ++ ds) st
    rw [Res.bind_bind]
    congr 1
    funext o st
    cases o with
    | none => exact compL_q f xs acc st
    | some d =>
      simp only
      split
      · rw [compL_q f xs (acc ++ [d]) st, Res.bind_bind, List.length_append, List.length_singleton]
        congr 1
        funext ds st
        rw [List.append_assoc]
        rfl
      · rfl

/-- a comprehension's turn -/
def turnC (gt : D → Env → Sto → Res Env) (ft : Env → Sto → Res Bool) (fe : Env → Sto → Res D) (vs : List Nat) (env : Env) (x : D) (st : Sto) : Res (Option D) :=
  ((gt x (wipeE env vs) st).bind fun env1 st => (ft env1 st).bind fun b st => if b then (fe env1 st).bind fun d st => .ok (some d) st else .ok none st).still
def compR (gi : Env → Sto → Res (List D)) (gt : Env → D → Env → Sto → Res Env) (ft : Env → Env → Sto → Res Bool) (fe : Env → Env → Sto → Res D) (vs : List Nat) (rr : Bool) (env : Env) (st : Sto) : Res D :=
  (gi env st).bind fun xs st => (compQ (turnC (gt env) (ft env) (fe env) vs env) xs 0 st).bind fun ds st => if rr then .ok (D.ref st.length) (st ++ [O.lst ds]) else .ok (D.lst ds) st
theorem compR_eq (gi : Env → Sto → Res (List D)) (gt : Env → D → Env → Sto → Res Env) (ft : Env → Env → Sto → Res Bool) (fe : Env → Env → Sto → Res D) (vs : List Nat) (rr : Bool) (env : Env) (st : Sto) : compR gi gt ft fe vs rr env st =
  (gi env st).bind fun xs st => (compL (turnC (gt env) (ft env) (fe env) vs env) xs [] st).bind fun ds st => if rr then .ok (D.ref st.length) (st ++ [O.lst ds]) else .ok (D.lst ds) st := by
  unfold compR
  congr 1
  funext xs st
  rw [compL_q, Res.bind_bind]
  rfl
def condT (f : E → Env → Sto → Res Bool) : Option E → Env → Sto → Res Bool
  | none, _, st => .ok true st
  | some c, env, st => f c env st

/-- an object of the store becomes a value -/
def frzD (d : D) (st : Sto) : Res D := match d with
  | .ref i => match st[i]? with
    | some (.lst xs) => .ok (.lst xs) (st.set i .gone)
    | _ => .stuck
  | d => .ok d st

/-! ### sorted -/
def keysD (f : D → Sto → Res D) : List D → Sto → Res (List Int)
  | [], st => .ok [] st
  | x :: xs, st => (f x st).still.bind fun d st => match d with
    | .int n => (keysD f xs st).bind fun ns st => .ok (n :: ns) st
    | _ => .stuck
def insK {α : Type} (n : Int) (d : α) : List (Int × α) → List (Int × α)
  | [] => [(n, d)]
  | (m, e) :: r => if n ≤ m then (n, d) :: (m, e) :: r else (m, e) :: insK n d r
def sortK {α : Type} : List Int → List α → List (Int × α)
  | n :: ns, d :: ds => insK n d (sortK ns ds)
  | _, _ => []
/-- no two keys alike -/
def upK {α : Type} : List (Int × α) → Bool
  | [] => true
  | (n, _) :: r => (match r with
    | [] => true
    | (m, _) :: _ => decide (n < m)) && upK r
def srtD (f : D → Sto → Res D) (x : D) (st : Sto) : Res D := match Sto.items st x with
  | some xs => (keysD f xs st).bind fun ns st => if upK (sortK ns xs) then .ok (.lst ((sortK ns xs).map Prod.snd)) st else .stuck
  | none => .stuck

mutual
def evT (C : Cf) (n : Nat) (e : E) (env : Env) (st : Sto) : Res Bool := match n with
  | 0 => .stuck
  | n + 1 => match e with
    | .not a => (evT C n a env st).bind fun c st => .ok (!c) st
    | .and a b => (evT C n a env st).bind fun c st => if c then evT C n b env st else .ok false st
    | .or a b => (evT C n a env st).bind fun c st => if c then .ok true st else evT C n b env st
    | .cmp o a b => asBool (ev C n (.cmp o a b) env st)
    | .cmp2 o p a b c => asBool (ev C n (.cmp2 o p a b c) env st)
    | .ite _ _ _ => .stuck
    | e => (ev C n e env st).bind fun d st => .of (truth st d) st
termination_by structural n
def ev (C : Cf) (n : Nat) (e : E) (env : Env) (st : Sto) : Res D := match n with
  | 0 => .stuck
  | n + 1 => match e with
    | .var i => .of (env.at i) st
    | .lit d => if d.low 0 then .ok d st else .stuck
    | .con i => .of ((C.T.con[i]?).map (·.2)) st
    | .bty t => .ok (.ty t) st
    | .gfn i => .ok (.fn i) st
    | .bin o a b => (ev C n a env st).bind fun x st => (ev C n b env st).bind fun y st => .of (binD C.k o (st.see x) (st.see y)) st
    | .catR a b => (ev C n a env st).bind fun x st => (ev C n b env st).bind fun y st => match binD C.k .Add (st.see x) (st.see y) with
      | some (.lst ds) => .ok (.ref st.length) (st ++ [.lst ds])
      | _ => .stuck
    | .neg a => (ev C n a env st).bind fun x st => match x with
      | .int i => .ok (.int (-i)) st
      | _ => .stuck
    | .cmp o a b => (ev C n a env st).bind fun x st => (ev C n b env st).bind fun y st => .of ((cmpD o (st.see x) (st.see y)).map .bl) st
    | .cmp2 o p a b c => (ev C n a env st).bind fun x st => (ev C n b env st).bind fun y st => match cmpD o x y with
      | some true => (ev C n c env st).bind fun z st => .of ((cmpD p y z).map .bl) st
      | some false => .ok (.bl false) st
      | none => .stuck
    | .not a => (ev C n a env st).bind fun x st => .of ((truth st x).map fun c => .bl (!c)) st
    | .and a b => (ev C n a env st).bind fun x st => match truth st x with
      | some true => ev C n b env st
      | some false => .ok x st
      | none => .stuck
    | .or a b => (ev C n a env st).bind fun x st => match truth st x with
      | some true => .ok x st
      | some false => ev C n b env st
      | none => .stuck
    | .ite t a b => (evT C n t env st).bind fun c st => if c then ev C n a env st else ev C n b env st
    | .tup es => (evL (fun e st => ev C n e env st) es st).bind fun ds st => if ds.length ≤ sizeLine then .ok (.tup ds) st else .stuck
    | .lst es => (evL (fun e st => ev C n e env st) es st).bind fun ds st => if ds.length ≤ sizeLine then .ok (.lst ds) st else .stuck
    | .lstR es => (evL (fun e st => ev C n e env st) es st).bind fun ds st => if ds.length ≤ sizeLine then .ok (.ref st.length) (st ++ [.lst ds]) else .stuck
    | .tupS es => (evLS (fun e st => ev C n e env st) es st).bind fun ds st => if ds.length ≤ sizeLine then .ok (.tup ds) st else .stuck
    | .lstS es => (evLS (fun e st => ev C n e env st) es st).bind fun ds st => if ds.length ≤ sizeLine then .ok (.lst ds) st else .stuck
    | .call f es => (evL (fun e st => ev C n e env st) es st).bind fun xs st => C.call env f xs st
    | .callv i es => match env.at i with
      | some (.fn f) => (evL (fun e st => ev C n e env st) es st).bind fun xs st => C.call env f xs st
      | some (.clo d j) => if es.isEmpty then C.clo env d j [] st else .stuck
      | _ => .stuck
    | .blt f es => (evL (fun e st => ev C n e env st) es st).bind fun xs st => .of (bltD f xs st) st
    | .bm a m es => (ev C n a env st).bind fun x st => if bmOk x st then (evL (fun e st => ev C n e env st) es st).bind fun xs st => match bmD m x xs st with
      | some (d, st) => .ok d st
      | none => .stuck else .stuck
    | .idx a i => (ev C n a env st).bind fun x st => (ev C n i env st).bind fun j st => .of (idxD st x j) st
    | .slc a lo hi => (ev C n a env st).bind fun x st => (evO (fun e st => ev C n e env st) lo st).bind fun l st => (evO (fun e st => ev C n e env st) hi st).bind fun h st => match x with
      | .tup xs => .ok (.tup (cutD xs l h)) st
      | .lst xs => .ok (.lst (cutD xs l h)) st
      | _ => .stuck
    | .rev a => (ev C n a env st).bind fun x st => match x with
      | .lst xs => .ok (.lst xs.reverse) st
      | _ => .stuck
    | .comp r el tg it c own => compR (fun env st => itD (fun e st => ev C n e env st) it st) (fun e0 x env st => tgD (fun e env st => ev (C.blk e0) n e env st) tg x env st)
        (fun e0 => condT (fun c env st => evT (C.blk e0) n c env st) c) (fun e0 env st => ev (C.blk e0) n el env st) (own.map (·.2)) r env st
    | .srt a (some f) => (ev C n a env st).bind fun x st => srtD (fun d st => C.call env f [d] st) x st
    | .lam i => .ok (.clo C.dep i) st
    | .frz a => (ev C n a env st).bind fun x st => frzD x st
    | _ => .stuck
termination_by structural n
end

def forL (f : D → Env → Sto → SR) : List D → Env → Sto → SR
  | [], env, st => .next env st
  | x :: xs, env, st => match f x env st with
    | .next env st => forL f xs env st
    | .cont env st => forL f xs env st
    | .brk env st => .next env st
    | r => r

def whlN (t : Env → Sto → Res Bool) (b : Env → Sto → SR) : Nat → Env → Sto → SR
  | 0, _, _ => .stuck
  | n + 1, env, st => (t env st).run env fun c st => if c then match b env st with
    | .next env st => whlN t b n env st
    | .cont env st => whlN t b n env st
    | .brk env st => .next env st
    | r => r
    else .next env st

def setAll : List Nat → List D → Env → Env
  | i :: is, d :: ds, env => setAll is ds (env.set i (some d))
  | _, _, env => env

def exL (f : S → Env → Sto → SR) : List S → Env → Sto → SR
  | [], env, st => .next env st
  | s :: ss, env, st => (f s env st).then fun env st => exL f ss env st

/-- how often a while turns at most -/
def wmax : Nat := 1000000000

/-- what a raised exception keeps -/
def showOk (d : D) : Bool := match reprD d with
  | some sh => decide (sh.length + 100 ≤ sizeLine)
  | none => false
def raiseD (x : Option XI) (d : D) : Option (Option D) := match x with
  | none => none
  | some x => match x.fld with
    | none => some none
    | some _ => if x.shw && !showOk d then none else some (some d)
/-- what an except suite gives -/
def cbD (xi : Option XI) (b : Cb) (v : Option D) : Option D := match b with
  | .ret d => if d.low 0 then some d else none
  | .retR pre n => match (match xi with | some x => if x.fld = some n then v else none | none => none : Option D) with
    | some d => match reprD d with
      | some s => if pre.length + s.length ≤ sizeLine then some (.str (pre ++ s)) else none
      | none => none
    | none => none
def nmOk (nm : Option Nat) (env : Env) : Bool := match nm with
  | some i => decide (i < env.length)
  | none => true
def catchD (T : Tab) (c : Nat) (v : Option D) (env : Env) (st : Sto) : List Cz → SR
  | [] => .exc c v env st
  | z :: zs => if T.isSub c z.cls then if nmOk z.nm env then match cbD (T.xi c) z.bd v with
      | some d => .ret d st
      | none => .stuck
    else .stuck else catchD T c v env st zs
def SR.catch (T : Tab) (cs : List Cz) : SR → SR
  | .exc c v env st => catchD T c v env st cs
  | r => r
def raiseS (xi : Option XI) (c : Nat) (fa : Env → Sto → Res D) (env : Env) (st : Sto) : SR := (fa env st).run env fun d st => match raiseD xi d with
  | some v => .exc c v env st
  | none => .stuck

def ex (C : Cf) (n : Nat) (s : S) (env : Env) (st : Sto) : SR := match n with
  | 0 => .stuck
  | n + 1 => match s with
    | .expr e => (ev C n e env st).run env fun _ st => .next env st
    | .asg t e => (ev C n e env st).run env fun d st => (tgD (fun e env st => ev C n e env st) t d env st).still.run env fun env st => .next env st
    | .par is es => (evL (fun e st => ev C n e env st) es st).run env fun ds st => .next (setAll is ds env) st
    | .ret e => (ev C n e env st).run env fun d st => .ret d st
    | .retN => .ret .non st
    | .ite t a b => (evT C n t env st).run env fun c st => if c then exL (ex C n) a env st else exL (ex C n) b env st
    | .whl t b => whlN (evT C n t) (exL (ex C n) b) wmax env st
    | .for_ t it b => (itD (fun e st => ev C n e env st) it st).run env fun xs st =>
        forL (fun x env st => (tgD (fun e env st => ev C n e env st) t x env st).still.run env fun env st => exL (ex C n) b env st) xs env st
    | .raise c e => if 30 ≤ C.k then raiseS (C.T.xi c) c (fun env st => ev C n e env st) env st else .stuck
    | .try_ b cs => (exL (ex C n) b env st).catch C.T cs
    | .pass => .next env st
    | .brk => .brk env st
    | .cont => .cont env st
    | .aug _ _ _ => .stuck
    | .never => .stuck
termination_by structural n

/-- behind a call: new objects that nobody knows are let go -/
def trim (n : Nat) (d : D) (st : Sto) : Res D :=
  if D.low n d && (st.take n).all (O.low n) then .ok d (st.take n) else .ok d st
/-- a frame's own lambdas stay within -/
def okC (lm : Option Nat) (d : D) (st : Sto) : Bool := match lm with
  | none => true
  | some k => d.lowC k && st.all (O.lowC k)
def finish (lm : Option Nat) (n : Nat) : SR → Res D
  | .next _ st => if okC lm .non st then trim n .non st else .stuck
  | .ret d st => if okC lm d st then trim n d st else .stuck
  | .exc c v _ st => if okC lm (v.getD .non) st then .exc c v st else .stuck
  | _ => .stuck

def pushF (fr : List Frm) (lams : List E) (env : Env) : List Frm := if lams.isEmpty then fr else fr ++ [⟨lams, env⟩]
def lmF (fr : List Frm) (lams : List E) : Option Nat := if lams.isEmpty then none else some fr.length
/-- a def's own run -/
def cfOf (T : Tab) (k : Nat) (fr : List Frm) (lams : List E) (cl : List Frm → Nat → List D → Sto → Res D) (cc : List Frm → Nat → Nat → List D → Sto → Res D) : Cf :=
  { k := k, T := T, dep := fr.length, call := fun env x ds st => cl (pushF fr lams env) x ds st, clo := fun env d i ds st => cc (pushF fr lams env) d i ds st }
/-- a lambda's run -/
def cfLam (T : Tab) (k : Nat) (fr : List Frm) (cl : List Frm → Nat → List D → Sto → Res D) (cc : List Frm → Nat → Nat → List D → Sto → Res D) : Cf :=
  { k := k, T := T, dep := 0, call := fun _ x ds st => cl fr x ds st, clo := fun _ d i ds st => cc fr d i ds st }
/-- how deep expressions and statements may be nested -/
def deep : Nat := 60
mutual
def callF (T : Tab) (k : Nat) (fr : List Frm) (x : Nat) (ds : List D) (st : Sto) : Res D := match k with
  | 0 => .stuck
  | k + 1 => match T.fns[x]? with
    | none => .stuck
    | some F => if (F.pad ds).length = F.ps.length then
        finish (lmF fr F.lams) st.length (exL (ex (cfOf T k fr F.lams (callF T k) (cloF T k)) deep) F.body ((F.pad ds).map some ++ List.replicate (F.names.length - (F.pad ds).length) none) st) else .stuck
termination_by structural k
def cloF (T : Tab) (k : Nat) (fr : List Frm) (d i : Nat) (ds : List D) (st : Sto) : Res D := match k with
  | 0 => .stuck
  | k + 1 => match fr[d]? with
    | none => .stuck
    | some f => match f.lams[i]? with
      | none => .stuck
      | some e => if ds.isEmpty then ev (cfLam T k fr (callF T k) (cloF T k)) deep e f.env st else .stuck
termination_by structural k
end
end Mu

end
section
set_option linter.all false
set_option Elab.async false
/-! The tie between the text's own trees and the interpreter's: what is checked. -/
namespace Mu
open PySem PySem.Spec PyProof.Rows L2

/-! ### the check -/
/-- where a piece of text stands: the slots' names, the scope, which cells were made at the entry -/
structure Ct where
  N : List Str
  sc : Scope
  fnB : Str → Bool
  T : Tab
  /-- the lambdas that may be made here -/
  L : List E
def Ct.kind (c : Ct) (x : Str) : Option NameKind := c.sc.names.lookup x
def Ct.vis (c : Ct) (x : Str) : Bool := match c.kind x with
  | some .local => true
  | some .cell => true
  | some .free => true
  | _ => false
def Ct.loc (c : Ct) (x : Str) : Bool := match c.kind x with
  | some .local => true
  | some .cell => true
  | _ => false
def Ct.gl (c : Ct) (x : Str) : Bool := match c.kind x with
  | some .globalImplicit => true
  | _ => false
def Ct.mine (c : Ct) (x : Str) : Bool := c.fnB x || match c.kind x with
  | some .local => true
  | _ => false
def Ct.blk (c : Ct) (scope : Scope) : Ct := ⟨c.N, relS scope c.sc, fun x => scope.names.lookup x == some .cell, c.T, []⟩
/-- a lambda's body: captured names and globals -/
def lamCt (N : List Str) (T : Tab) (scope : Scope) : Ct := ⟨N, scope, fun _ => false, T, []⟩
def Ct.fnN (c : Ct) (i : Nat) : Option Str := (c.T.fns[i]?).map (·.name)
def Ct.clN (c : Ct) (i : Nat) : Option Str := (c.T.cls[i]?).map (·.name)
def Ct.coN (c : Ct) (i : Nat) : Option Str := (c.T.con[i]?).map (·.1)
def argsNil : Arguments → Bool
  | ⟨[], [], none, [], [], none, []⟩ => true
  | _ => false
def lamSB (sc scope : Scope) : Bool :=
  decide (scope.kind = .function) && !scope.isCoroutine && !scope.isGenerator && scope.names.all fun y => !decide (y.2 = .local) && !decide (y.2 = .cell) && (!decide (y.2 = .free) || decide (sc.names.lookup y.1 = some .cell) || decide (sc.names.lookup y.1 = some .free))
def okName (y : Str) : Bool := !(y == ("__debug__" : Str)) && !(y == ("__classdict__" : Str)) && !decide (y = ("__name__" : Str))
def nStar : Expr → Bool
  | .Starred .. => false
  | _ => true
def nSlice : Expr → Bool
  | .Slice .. => false
  | _ => true
def nSet : Expr → Bool
  | .Set .. => false
  | _ => true
def baseOk : Expr → Bool
  | .Name .. => true
  | .Subscript .. => true
  | _ => false
def nComp : Expr → Bool
  | .ListComp .. => false
  | .SetComp .. => false
  | .DictComp .. => false
  | _ => true
def plainT : Expr → Bool
  | .UnaryOp .Not _ _ => false
  | .BoolOp .. => false
  | .IfExp .. => false
  | .Compare .. => false
  | _ => true
def litB : D → Const → Bool
  | .non, .none => true
  | .bl a, .bool b => a == b
  | .int a, .int b => decide (a = b)
  | .str a, .str b => decide (a = b)
  | _, _ => false
def keyB : L2.Key → Const → Bool
  | .inl i, .int j => decide (i = j)
  | .inr x, .str y => decide (x = y)
  | _, _ => false
/-- slots that a target stores -/
def tgS : Tg → List Nat
  | .name i => [i]
  | .tup ts => tgSs ts
  | .sub _ _ => []
  | .att _ _ => []
where tgSs : List Tg → List Nat
  | [] => []
  | t :: ts => tgS t ++ tgSs ts
def zipAll {α β : Type} (f : α → β → Bool) : List α → List β → Bool
  | [], [] => true
  | a :: as, b :: bs => f a b && zipAll f as bs
  | _, _ => false

mutual
def chkE (c : Ct) : Nat → E → Expr → Bool
  | 0, _, _ => false
  | n + 1, e, x => match e, x with
    | .var i, .Name y _ => decide (c.N[i]? = some y) && c.vis y && okName y
    | .lit d, .Constant v _ _ => litB d v
    | .lit (.dic [] []), .Dict [] [] _ => true
    | .lit (.dic [k] [d]), .Dict [some (.Constant kc _ _)] [.Constant vc _ _] _ => keyB k kc && litB d vc
    | .con z, .Name y _ => decide (c.coN z = some y) && c.gl y && okName y
    | .bty z, .Name y _ => decide (z.word = y) && c.gl y && okName y
    | .gfn z, .Name y _ => decide (c.fnN z = some y) && c.gl y && okName y
    | .bin o a b, .BinOp l p r _ => decide (o = p) && chkE c n a l && chkE c n b r
    | .neg a, .UnaryOp .USub l _ => chkE c n a l
    | .cmp o a b, .Compare l [p] [r] _ => decide (o = p) && !behindInMarks o r && chkE c n a l && chkE c n b r
    | .cmp2 o p a b d, .Compare l [o', p'] [r, s] _ => decide (o = o') && decide (p = p') && !lastMarks [o, p] [r, s] && chkE c n a l && chkE c n b r && chkE c n d s
    | .not a, .UnaryOp .Not l _ => chkE c n a l
    | .and a b, .BoolOp .And (l :: r :: rest) pos => chkE c n a l && (match rest with | [] => chkE c n b r | _ => chkE c n b (.BoolOp .And (r :: rest) pos))
    | .or a b, .BoolOp .Or (l :: r :: rest) pos => chkE c n a l && (match rest with | [] => chkE c n b r | _ => chkE c n b (.BoolOp .Or (r :: rest) pos))
    | .ite t a b, .IfExp u l r _ => chkT c n t u && chkE c n a l && chkE c n b r
    | .tup es, .Tuple xs _ _ => xs.all nStar && zipAll (fun e x => chkE c n e x) es xs
    | .lst es, .List xs _ => xs.all nStar && zipAll (fun e x => chkE c n e x) es xs
    | .lstR es, .List xs _ => xs.all nStar && zipAll (fun e x => chkE c n e x) es xs
    | .tupS es, .Tuple xs _ _ => zipAll (fun e x => match x with
        | .Starred y _ => e.1 && chkE c n e.2 y
        | y => !e.1 && chkE c n e.2 y) es xs
    | .lstS es, .List xs _ => zipAll (fun e x => match x with
        | .Starred y _ => e.1 && chkE c n e.2 y
        | y => !e.1 && chkE c n e.2 y) es xs
    | .catR a b, .BinOp l p r _ => decide (p = .Add) && chkE c n a l && chkE c n b r
    | .frz a, x => chkE c n a x
    | .lam i, .Lambda params body scope _ => argsNil params && lamSB c.sc scope && (match c.L[i]? with
        | some e => chkE (lamCt c.N c.T scope) n e body
        | none => false)
    | .call f es, .Call (.Name y _) xs [] _ => decide (c.fnN f = some y) && c.gl y && okName y && xs.all nStar && zipAll (fun e x => chkE c n e x) es xs
    | .callv i es, .Call (.Name y _) xs [] _ => decide (c.N[i]? = some y) && c.vis y && okName y && xs.all nStar && zipAll (fun e x => chkE c n e x) es xs
    | .blt f es, .Call (.Name y _) xs [] _ => decide (f.name = y) && c.gl y && okName y && !xs.isEmpty && xs.all nStar && zipAll (fun e x => chkE c n e x) es xs
    | .bm a .append [e], .Call (.Attribute l y apos) [x] [] cpos => decide (y = ("append" : Str)) && baseOk l && (apos.endLine == cpos.line) && nStar x && chkE c n a l && chkE c n e x
    | .bm a .extend [e], .Call (.Attribute l y apos) [x] [] cpos => decide (y = ("extend" : Str)) && baseOk l && (apos.endLine == cpos.line) && nStar x && chkE c n a l && chkE c n e x
    | .srt a (some f), .Call (.Name y _) [x] [⟨some z, .Name v _, _⟩] _ => decide (y = ("sorted" : Str)) && decide (z = ("key" : Str)) && c.gl y && nStar x && chkE c n a x && decide (c.fnN f = some v) && c.gl v && okName v
    | .idx a i, .Subscript l r _ => nSlice r && chkE c n a l && chkE c n i r
    | .slc a lo hi, .Subscript l (.Slice p q none _) _ => chkE c n a l && chkO c n lo p && chkO c n hi q
    | .rev a, .Subscript l (.Slice none none (some (.UnaryOp .USub (.Constant (.int 1) _ _) _)) _) _ => chkE c n a l
    | .comp _ el tg it cond own, .ListComp x [⟨t, i, ifs, 0⟩] scope _ => blkC c.N c.sc scope own && chkI c n t it i && nSet i && chkG (c.blk scope) n tg t && (tgS tg).all (fun j => (own.map (·.2)).contains j) &&
        (match cond, ifs with
          | none, [] => true
          | some e, [y] => chkT (c.blk scope) n e y
          | _, _ => false) && chkE (c.blk scope) n el x
    | _, _ => false
def chkT (c : Ct) : Nat → E → Expr → Bool
  | 0, _, _ => false
  | n + 1, e, x => match e, x with
    | .not a, .UnaryOp .Not l _ => chkT c n a l
    | .and a b, .BoolOp .And (l :: r :: rest) pos => chkT c n a l && (match rest with | [] => chkT c n b r | _ => chkT c n b (.BoolOp .And (r :: rest) pos))
    | .or a b, .BoolOp .Or (l :: r :: rest) pos => chkT c n a l && (match rest with | [] => chkT c n b r | _ => chkT c n b (.BoolOp .Or (r :: rest) pos))
    | .cmp o a b, .Compare l [p] [r] _ => decide (o = p) && !behindInMarks o r && chkE c n a l && chkE c n b r
    | .cmp2 o p a b d, .Compare l [o', p'] [r, s] _ => decide (o = o') && decide (p = p') && !lastMarks [o, p] [r, s] && chkE c n a l && chkE c n b r && chkE c n d s
    | .not _, _ => false
    | .and _ _, _ => false
    | .or _ _, _ => false
    | .cmp _ _ _, _ => false
    | .cmp2 _ _ _ _ _, _ => false
    | .ite _ _ _, _ => false
    | e, x => plainT x && chkE c n e x
def chkO (c : Ct) : Nat → Option E → Option Expr → Bool
  | 0, _, _ => false
  | n + 1, e, x => match e, x with
    | none, none => true
    | some e, some x => chkE c n e x
    | _, _ => false
def chkI (c : Ct) : Nat → Expr → Iz → Expr → Bool
  | 0, _, _, _ => false
  | n + 1, t, it, i => match it, i with
    | .seq e, x => chkE c n e x
    | .rng [a], .Call (.Name y _) [x] [] _ => decide (y = ("range" : Str)) && c.gl y && nStar x && chkE c n a x
    | .rng [a, b], .Call (.Name y _) [x, z] [] _ => decide (y = ("range" : Str)) && c.gl y && nStar x && nStar z && chkE c n a x && chkE c n b z
    | .zip a b, .Call (.Name y _) [x, z] [] _ => decide (y = ("zip" : Str)) && c.gl y && nStar x && nStar z && (match t with | .Tuple _ _ _ => true | _ => false) && chkE c n a x && chkE c n b z
    | .enum a, .Call (.Name y _) [x] [] _ => decide (y = ("enumerate" : Str)) && c.gl y && nStar x && (match t with | .Tuple _ _ _ => true | _ => false) && chkE c n a x
    | _, _ => false
def chkG (c : Ct) : Nat → Tg → Expr → Bool
  | 0, _, _ => false
  | n + 1, t, x => match t, x with
    | .name i, .Name y _ => decide (c.N[i]? = some y) && c.loc y && c.mine y
    | .tup ts, .Tuple xs _ _ => xs.all nStar && zipAll (fun t x => chkG c n t x) ts xs
    | .sub a i, .Subscript l r _ => nSlice r && chkE c n a l && chkE c n i r
    | _, _ => false
end


/-! ### statements -/
/-- whether a, b = x, y stores from the right, and which names; none: not said -/
def swP (c : Ct) (ts vs : List Expr) : Option (Option (List Str)) :=
  if (!(ts.length == 2 || ts.length == 3) || vs.length != ts.length) = true then some none
  else if (vs.any fun x => !nStar x) = true then some none
  else
    let line := (ts.head?.map (·.pos.line)).getD 0
    let names := ts.filterMap fun
      | .Name id pos => if c.kind id == some .local && pos.line == line then some id else none
      | _ => none
    if (names.length != ts.length || names.eraseDups.length != names.length) = true then some none
    else if (vs.all (foldedForSure 8)) = true then some none
    else if (vs.all (constantsAlone 8)) = true then none
    else some (some names)
def nSetDict : Expr → Bool
  | .SetComp .. => false
  | .DictComp .. => false
  | _ => true
/-- a list comprehension that is stored as its block is left -/
def lcHot (c : Ct) : Expr → Expr → Bool
  | .Name y py, .ListComp _ _ scope p0 => c.kind y == some .local && py.line == p0.line && !(scope.names.any fun (n, k) => n == y && (k == .local || k == .cell))
  | _, _ => false
def swNone (c : Ct) : Expr → Expr → Bool
  | .Tuple ts _ _, .Tuple vs _ _ => swP c ts vs == some none
  | .List _ _, _ => false
  | _, _ => true
def pnames (c : Ct) : List Nat → List Expr → Option (List Str)
  | [], [] => some []
  | i :: is, .Name y _ :: r => if c.N[i]? = some y ∧ c.kind y = some .local then (pnames c is r).map (y :: ·) else none
  | _, _ => none

/-- an except suite -/
def chkB (c : Ct) (nm : Option Str) : Cb → List Stmt → Bool
  | .ret d, [.Return (some (.Constant v _ _)) _] => litB d v
  | .retR p f, [.Return (some (.BinOp (.Constant (.str q) _ _) .Add (.Call (.Name y _) [.Attribute (.Name z _) g _] [] _) _)) _] =>
      decide (p = q) && decide (y = ("repr" : Str)) && c.gl y && decide (nm = some z) && decide (c.T.att[f]? = some g) && okName z
  | _, _ => false
def chkZ (c : Ct) (z : Cz) : ExceptHandler → Bool
  | .ExceptHandler (some (.Name y _)) nm su _ => decide (c.clN z.cls = some y) && (c.T.xi z.cls).isSome && c.gl y && okName y && chkB c nm z.bd su && (match z.nm, nm with
      | none, none => true
      | some i, some n => decide (c.N[i]? = some n) && decide (c.kind n = some .local)
      | _, _ => false)
  | _ => false
def chkZs (c : Ct) : List Cz → List ExceptHandler → Bool
  | [], [] => true
  | z :: zs, h :: hs => chkZ c z h && chkZs c zs hs
  | _, _ => false
mutual
def chkS (c : Ct) : Nat → S → Stmt → Bool
  | 0, _, _ => false
  | n + 1, s, t => match s, t with
    | .never, _ => true
    | .expr e, .Expr x _ => nComp x && chkE c n e x
    | .asg (.name i) (.comp r el tg it cond own), .Assign [.Name y py] (.ListComp x [⟨t, j, ifs, 0⟩] scope p0) pos =>
        if lcHot c (.Name y py) (.ListComp x [⟨t, j, ifs, 0⟩] scope p0) then
          decide (c.N[i]? = some y) && chkE c n (.comp r el tg it cond own) (.ListComp x [⟨t, j, ifs, 0⟩] scope p0)
        else chkG c n (.name i) (.Name y py) && chkE c n (.comp r el tg it cond own) (.ListComp x [⟨t, j, ifs, 0⟩] scope p0)
    | .asg g e, .Assign [t] x _ => nStar t && nSetDict x && !lcHot c t x && swNone c t x && chkG c n g t && chkE c n e x
    | .par is es, .Assign [.Tuple ts _ _] (.Tuple vs _ _) _ => (match swP c ts vs, pnames c is ts with
        | some (some ns), some ms => decide (ns = ms)
        | _, _ => false) && decide is.Nodup && vs.all nStar && zipAll (fun e x => chkE c n e x) es vs && (is.length == 2 || is.length == 3)
    | .ret e, .Return (some x) _ => chkE c n e x
    | .retN, .Return none _ => true
    | .ite t a b, .If x ss ts _ => chkT c n t x && chkL c n a ss && chkL c n b ts
    | .whl t b, .While x ss [] _ => chkT c n t x && chkL c n b ss
    | .for_ t it b, .For tg i ss [] _ => chkI c n tg it i && nSet i && chkG c n t tg && chkL c n b ss
    | .raise k e, .Raise (some (.Call (.Name y _) [x] [] _)) none _ => decide (c.clN k = some y) && (c.T.xi k).isSome && c.gl y && okName y && nStar x && chkE c n e x
    | .try_ b cs, .Try body (h :: hs) [] [] _ => chkL c n b body && chkZs c cs (h :: hs)
    | .pass, .Pass _ => true
    | .brk, .Break _ => true
    | .cont, .Continue _ => true
    | _, _ => false
def chkL (c : Ct) : Nat → List S → List Stmt → Bool
  | 0, _, _ => false
  | n + 1, ss, ts => match ss, ts with
    | [], [] => true
    | s :: ss, t :: ts => chkS c n s t && chkL c n ss ts
    | _, _ => false
end

end Mu

end
section
set_option linter.all false
set_option Elab.async false
/-! How the interpreter's data lie in the heap; what is wanted behind a step. -/
namespace Mu
open PySem L2

/-- what stays of a frame that makes lambdas: its environment, its slots' names, the lambdas -/
structure FrS where
  env : PySem.Env
  N : List Str
  lams : List E
/-- .. and what it holds while it waits -/
structure FrI where
  menv : Env
  σ : L2.St
structure Vw where
  T : Tab
  fs : List FrS
  fr : List FrI
  tb : List (Addr × Str)
def Vw.att (V : Vw) (i : Nat) : Str := (V.T.att[i]?).getD ""
def Vw.frames (V : Vw) : List Frm := (V.fs.zip V.fr).map fun p => ⟨p.1.lams, p.2.menv⟩
/-- the lambda's tree is the i-th one of the frame -/
def LamOk (T : Tab) (f : FrS) (i : Nat) (params : Arguments) (body : Expr) (scope : Scope) : Prop :=
  argsNil params = true ∧ lamSB f.env.scope scope = true ∧ ∃ e n, f.lams[i]? = some e ∧ chkE (lamCt f.N T scope) n e body = true
/-- a lambda's function object at f -/
def LamO (f : Addr) (F : FrS) (params : Arguments) (body : Expr) (scope : Scope) (c : Addr) : HO :=
  .ext fun h => ∃ pm ctv, h.get? f = some (PySem.W.kla_obj "<lambda>" (F.env.qual ++ "<lambda>") params body scope (cloFrom F.env.cells scope.names []) pm c ctv)

/-- where the store's objects lie; what else may not be met by a value (a list that a comprehension fills) -/
structure Rho where
  ix : List (Option Addr)
  no : List Addr
def Out (ρ : Rho) (a : Addr) : Prop := some a ∉ ρ.ix ∧ a ∉ ρ.no
def Rho.push (ρ : Rho) (p : Addr) : Rho := ⟨ρ.ix ++ [some p], ρ.no⟩
def Rho.hide (ρ : Rho) (p : Addr) : Rho := ⟨ρ.ix, p :: ρ.no⟩
def Rho.show (ρ : Rho) (l : List Addr) : Rho := ⟨ρ.ix, l⟩
def Rho.free (ρ : Rho) (i : Nat) : Rho := ⟨ρ.ix.set i none, ρ.no⟩

/-- a tuple at a that stays: tracked and not of the store, or written -/
def TupAt (K : PySem.W.Frag) (ρ : Rho) (H : Hp) (a : Addr) (xs : List V) : Prop := (Rd H a (.tup xs) ∧ Out ρ a) ∨ ∀ H', SqT K H' a xs
/-- a list that nobody writes: tracked -/
def LstAt (ρ : Rho) (H : Hp) (a : Addr) (xs : List V) : Prop := H a = some (.lst xs) ∧ Out ρ a
/-- .. or locked, or written -/
def RolAt (K : PySem.W.Frag) (ρ : Rho) (H : Hp) (a : Addr) (xs : List V) : Prop := (Rd H a (.lst xs) ∧ Out ρ a) ∨ ∀ H', SqL K H' a xs

mutual
inductive Rep (K : PySem.W.Frag) (mg : Str → Option Value) (V : Vw) (ρ : Rho) (H : Hp) : D → L2.V → Prop
  | non : Rep K mg V ρ H .non .non
  | bl (b : Bool) : Rep K mg V ρ H (.bl b) (.bl b)
  | int (i : Int) : Rep K mg V ρ H (.int i) (.int i)
  | str (x : Str) : Rep K mg V ρ H (.str x) (.str x)
  | ty (t : Ty) : Rep K mg V ρ H (.ty t) (.ty t.name)
  | fn {i : Nat} {F : Fd} {f : Addr} : V.T.fns[i]? = some F → mg F.name = some (.ref f) → Rep K mg V ρ H (.fn i) (.ref f)
  | cls {i : Nat} {k : Cl} {C : Addr} : V.T.cls[i]? = some k → mg k.name = some (.ref C) → Rep K mg V ρ H (.cls i) (.ref C)
  | tup {a : Addr} {xs : List L2.V} {ds : List D} : TupAt K ρ H a xs → RepL K mg V ρ H ds xs → Rep K mg V ρ H (.tup ds) (.ref a)
  | lst {a : Addr} {xs : List L2.V} {ds : List D} : LstAt ρ H a xs → RepL K mg V ρ H ds xs → Rep K mg V ρ H (.lst ds) (.ref a)
  | rol {a : Addr} {xs : List L2.V} {ds : List D} : RolAt K ρ H a xs → RepL K mg V ρ H ds xs → Rep K mg V ρ H (.rol ds) (.ref a)
  | ref {i : Nat} {a : Addr} {oa : Option Addr} : ρ.ix[i]? = some oa → (∀ b, oa = some b → b = a) → Rep K mg V ρ H (.ref i) (.ref a)
  | dic {a : Addr} {ks : List Key} {xs : List L2.V} {ds : List D} : H a = some (.dK (ks.zip xs)) → Out ρ a → ks.length = xs.length → RepL K mg V ρ H ds xs → Rep K mg V ρ H (.dic ks ds) (.ref a)
  | obj {a C dx : Addr} {c : Nat} {k : Cl} {ks : List Nat} {xs : List L2.V} {ds : List D} : V.T.cls[c]? = some k → mg k.name = some (.ref C) → H a = some (.ins C dx ((ks.map V.att).zip xs)) → Out ρ a → ks.length = xs.length →
      RepL K mg V ρ H ds xs → Rep K mg V ρ H (.obj c ks ds) (.ref a)
  | clo {f c : Addr} {d i : Nat} {F : FrS} {params : Arguments} {body : Expr} {scope : Scope} : V.fs[d]? = some F → LamOk V.T F i params body scope → H f = some (LamO f F params body scope c) → H c = some (LamX.CodeO c (F.env.qual ++ "<lambda>")) →
      Out ρ f → Out ρ c → Rep K mg V ρ H (.clo d i) (.ref f)
inductive RepL (K : PySem.W.Frag) (mg : Str → Option Value) (V : Vw) (ρ : Rho) (H : Hp) : List D → List L2.V → Prop
  | nil : RepL K mg V ρ H [] []
  | cons {d : D} {v : L2.V} {ds : List D} {vs : List L2.V} : Rep K mg V ρ H d v → RepL K mg V ρ H ds vs → RepL K mg V ρ H (d :: ds) (v :: vs)
end

/-- the store has grown (some of it has become values), all else that was tracked is as it was -/
structure Ext (ρ : Rho) (H : Hp) (ρ' : Rho) (H' : Hp) : Prop where
  no : ∃ l, ρ'.no = l ++ ρ.no ∧ ∀ a ∈ l, H a = none
  len : ρ.ix.length ≤ ρ'.ix.length
  old : ∀ i, i < ρ.ix.length → ρ'.ix[i]? = ρ.ix[i]? ∨ ρ'.ix[i]? = some none
  new : ∀ i a, ρ.ix.length ≤ i → ρ'.ix[i]? = some (some a) → H a = none
  same : ∀ a o, H a = some o → some a ∉ ρ.ix → H' a = some o ∨ ∃ ps ps', o = .tbl ps ∧ H' a = some (.tbl ps')
  live : ∀ a, H' a = none → H a = none
theorem Ext.refl (ρ : Rho) (H : Hp) : Ext ρ H ρ H := ⟨⟨[], by simp, by simp⟩, Nat.le_refl _, fun _ _ => .inl rfl, fun i a hi h => by
  have := (List.getElem?_eq_some_iff.mp h).1
  omega, fun _ _ h _ => .inl h, fun _ h => h⟩
/-- what is no table stays as it is -/
theorem Ext.keep {ρ ρ' : Rho} {H H' : Hp} {a : Addr} {o : HO} (e : Ext ρ H ρ' H') (h : H a = some o) (n : some a ∉ ρ.ix) (t : ∀ ps, o ≠ .tbl ps) : H' a = some o := by
  rcases e.same a o h n with q | ⟨ps, _, q, _⟩
  · exact q
  · exact absurd q (t ps)
theorem Ext.back {ρ ρ' : Rho} {H H' : Hp} {a : Addr} (e : Ext ρ H ρ' H') (m : some a ∈ ρ'.ix) : some a ∈ ρ.ix ∨ H a = none := by
  obtain ⟨i, hi⟩ := List.getElem?_of_mem m
  by_cases hl : i < ρ.ix.length
  · rcases e.old i hl with q | q
    · rw [hi] at q
      exact .inl (List.mem_of_getElem? q.symm)
    · rw [hi] at q
      cases q
  · exact .inr (e.new i a (by omega) hi)
theorem Ext.notIx {ρ ρ' : Rho} {H H' : Hp} {a : Addr} {o : HO} (e : Ext ρ H ρ' H') (h : H a = some o) (n : some a ∉ ρ.ix) : some a ∉ ρ'.ix := fun m => by
  rcases e.back m with q | q
  · exact n q
  · rw [h] at q
    cases q
theorem Ext.not {ρ ρ' : Rho} {H H' : Hp} {a : Addr} {o : HO} (e : Ext ρ H ρ' H') (h : H a = some o) (n : Out ρ a) : Out ρ' a :=
  ⟨e.notIx h n.1, by
    obtain ⟨l, e2, hl⟩ := e.no
    rw [e2]
    intro m
    rcases List.mem_append.mp m with m | m
    · rw [hl a m] at h; cases h
    · exact n.2 m⟩
theorem Ext.trans {ρ ρ1 ρ2 : Rho} {H H1 H2 : Hp} (a : Ext ρ H ρ1 H1) (b : Ext ρ1 H1 ρ2 H2) : Ext ρ H ρ2 H2 := by
  refine ⟨?_, Nat.le_trans a.len b.len, fun i hi => ?_, fun i c hi h => ?_, fun c o h n => ?_, fun c h => a.live c (b.live c h)⟩
  · obtain ⟨l, e, hl⟩ := a.no
    obtain ⟨l', e', hl'⟩ := b.no
    refine ⟨l' ++ l, by rw [e', e, List.append_assoc], fun c m => ?_⟩
    rcases List.mem_append.mp m with m | m
    · exact a.live c (hl' c m)
    · exact hl c m
  · have hi1 := Nat.lt_of_lt_of_le hi a.len
    rcases b.old i hi1 with q | q
    · rcases a.old i hi with p | p
      · exact .inl (q.trans p)
      · exact .inr (q.trans p)
    · exact .inr q
  · by_cases hl : i < ρ1.ix.length
    · rcases b.old i hl with q | q
      · exact a.new i c hi (q.symm.trans h)
      · rw [h] at q
        cases q
    · exact a.live c (b.new i c (by omega) h)
  · have n1 := a.notIx h n
    rcases a.same c o h n with q | ⟨ps, ps1, rfl, q⟩
    · exact b.same c o q n1
    · rcases b.same c _ q n1 with q | ⟨_, ps2, _, q⟩
      · exact .inr ⟨ps, ps1, rfl, q⟩
      · exact .inr ⟨ps, ps2, rfl, q⟩
theorem Ext.at {ρ ρ' : Rho} {H H' : Hp} {i : Nat} {a : Addr} {oa : Option Addr} (e : Ext ρ H ρ' H') (h : ρ.ix[i]? = some oa) (q : ∀ b, oa = some b → b = a) : ∃ ob, ρ'.ix[i]? = some ob ∧ ∀ b, ob = some b → b = a := by
  rcases e.old i (List.getElem?_eq_some_iff.mp h).1 with z | z
  · exact ⟨oa, z.trans h, q⟩
  · exact ⟨none, z, fun b z => by cases z⟩
section
variable {K : PySem.W.Frag} {mg : Str → Option Value} {V V' : Vw} {ρ ρ' : Rho} {H H' : Hp}
/-- how Rep goes from one place to another -/
structure Mv (K : PySem.W.Frag) (V : Vw) (ρ : Rho) (H : Hp) (V' : Vw) (ρ' : Rho) (H' : Hp) : Prop where
  T : V'.T = V.T
  fs : ∀ (d : Nat) (F : FrS), V.fs[d]? = some F → V'.fs[d]? = some F
  at_ : ∀ (i : Nat) (a : Addr) (oa : Option Addr), ρ.ix[i]? = some oa → (∀ b, oa = some b → b = a) → ∃ ob, ρ'.ix[i]? = some ob ∧ ∀ b, ob = some b → b = a
  keep : ∀ (a : Addr) (o : HO), H a = some o → (∀ ps, o ≠ .tbl ps) → Out ρ a → H' a = some o ∧ Out ρ' a
theorem Mv.tup {a : Addr} {xs : List L2.V} (e : Mv K V ρ H V' ρ' H') (h : TupAt K ρ H a xs) : TupAt K ρ' H' a xs := by
  rcases h with ⟨h | ⟨o, h⟩, n⟩ | h
  · have q := e.keep _ _ h (fun _ z => by cases z) n
    exact .inl ⟨.inl q.1, q.2⟩
  · have q := e.keep _ _ h (fun _ z => by cases z) n
    exact .inl ⟨.inr ⟨o, q.1⟩, q.2⟩
  · exact .inr h
theorem Mv.lst {a : Addr} {xs : List L2.V} (e : Mv K V ρ H V' ρ' H') (h : LstAt ρ H a xs) : LstAt ρ' H' a xs := e.keep _ _ h.1 (fun _ z => by cases z) h.2
theorem Mv.rol {a : Addr} {xs : List L2.V} (e : Mv K V ρ H V' ρ' H') (h : RolAt K ρ H a xs) : RolAt K ρ' H' a xs := by
  rcases h with ⟨h | ⟨o, h⟩, n⟩ | h
  · have q := e.keep _ _ h (fun _ z => by cases z) n
    exact .inl ⟨.inl q.1, q.2⟩
  · have q := e.keep _ _ h (fun _ z => by cases z) n
    exact .inl ⟨.inr ⟨o, q.1⟩, q.2⟩
  · exact .inr h
theorem Mv.attE (e : Mv K V ρ H V' ρ' H') : V'.att = V.att := by
  funext i
  unfold Vw.att
  rw [e.T]
mutual
theorem Rep.mv (e : Mv K V ρ H V' ρ' H') : ∀ {d : D} {v : L2.V}, Rep K mg V ρ H d v → Rep K mg V' ρ' H' d v
  | _, _, .non => .non
  | _, _, .bl b => .bl b
  | _, _, .int i => .int i
  | _, _, .str x => .str x
  | _, _, .ty n => .ty n
  | _, _, .fn h q => .fn (by rw [e.T]; exact h) q
  | _, _, .cls h q => .cls (by rw [e.T]; exact h) q
  | _, _, .tup t r => .tup (e.tup t) (RepL.mv e r)
  | _, _, .lst t r => .lst (e.lst t) (RepL.mv e r)
  | _, _, .rol t r => .rol (e.rol t) (RepL.mv e r)
  | _, _, .ref h q => by
    obtain ⟨ob, h1, h2⟩ := e.at_ _ _ _ h q
    exact .ref h1 h2
  | _, _, .dic h n l r => .dic (e.keep _ _ h (fun _ z => by cases z) n).1 (e.keep _ _ h (fun _ z => by cases z) n).2 l (RepL.mv e r)
  | _, _, .obj h1 h2 h n l r => .obj (by rw [e.T]; exact h1) h2 (by rw [e.attE]; exact (e.keep _ _ h (fun _ z => by cases z) n).1) (e.keep _ _ h (fun _ z => by cases z) n).2 l (RepL.mv e r)
  | _, _, .clo h1 h2 h3 h4 h5 h6 => .clo (e.fs _ _ h1) (by rw [e.T]; exact h2) (e.keep _ _ h3 (fun _ z => by unfold LamO at z; cases z) h5).1 (e.keep _ _ h4 (fun _ z => by unfold LamX.CodeO at z; cases z) h6).1
      (e.keep _ _ h3 (fun _ z => by unfold LamO at z; cases z) h5).2 (e.keep _ _ h4 (fun _ z => by unfold LamX.CodeO at z; cases z) h6).2
theorem RepL.mv (e : Mv K V ρ H V' ρ' H') : ∀ {ds : List D} {vs : List L2.V}, RepL K mg V ρ H ds vs → RepL K mg V' ρ' H' ds vs
  | _, _, .nil => .nil
  | _, _, .cons h t => .cons (Rep.mv e h) (RepL.mv e t)
end
theorem Ext.mv (e : Ext ρ H ρ' H') : Mv K V ρ H V ρ' H' := ⟨rfl, fun _ _ h => h, fun i a oa h q => e.at h q, fun a o h t n => ⟨e.keep h n.1 t, e.not h n⟩⟩
theorem TupAt.ext {a : Addr} {xs : List L2.V} (e : Ext ρ H ρ' H') (h : TupAt K ρ H a xs) : TupAt K ρ' H' a xs := (e.mv (V := ⟨⟨[], [], [], []⟩, [], [], []⟩)).tup h
theorem RolAt.ext {a : Addr} {xs : List L2.V} (e : Ext ρ H ρ' H') (h : RolAt K ρ H a xs) : RolAt K ρ' H' a xs := (e.mv (V := ⟨⟨[], [], [], []⟩, [], [], []⟩)).rol h
theorem LstAt.ext {a : Addr} {xs : List L2.V} (e : Ext ρ H ρ' H') (h : LstAt ρ H a xs) : LstAt ρ' H' a xs := ⟨e.keep h.1 h.2.1 (fun _ z => by cases z), e.not h.1 h.2⟩
theorem Rep.ext {d : D} {v : L2.V} (e : Ext ρ H ρ' H') (r : Rep K mg V ρ H d v) : Rep K mg V ρ' H' d v := r.mv e.mv
theorem RepL.ext {ds : List D} {vs : List L2.V} (e : Ext ρ H ρ' H') (r : RepL K mg V ρ H ds vs) : RepL K mg V ρ' H' ds vs := r.mv e.mv
theorem TupAt.sq {a : Addr} {xs : List L2.V} (h : TupAt K ρ H a xs) : SqT K H a xs := by
  rcases h with ⟨h, _⟩ | h
  · exact .inl h
  · exact h H
theorem LstAt.sq {a : Addr} {xs : List L2.V} (h : LstAt ρ H a xs) : SqL K H a xs := .inl (.inl h.1)
theorem RolAt.sq {a : Addr} {xs : List L2.V} (h : RolAt K ρ H a xs) : SqL K H a xs := by
  rcases h with ⟨h, _⟩ | h
  · exact .inl h
  · exact h H
theorem RepL.length : ∀ {ds : List D} {vs : List L2.V}, RepL K mg V ρ H ds vs → ds.length = vs.length
  | _, _, .nil => rfl
  | _, _, .cons _ t => by simp [RepL.length t]
theorem RepL.append : ∀ {ds es : List D} {vs us : List L2.V}, RepL K mg V ρ H ds vs → RepL K mg V ρ H es us → RepL K mg V ρ H (ds ++ es) (vs ++ us)
  | _, _, _, _, .nil, s => s
  | _, _, _, _, .cons h t, s => .cons h (RepL.append t s)
theorem RepL.get : ∀ {ds : List D} {vs : List L2.V} {i : Nat} {d : D}, RepL K mg V ρ H ds vs → ds[i]? = some d → ∃ v, vs[i]? = some v ∧ Rep K mg V ρ H d v
  | _, _, _, _, .nil, e => by simp at e
  | _, _, 0, _, .cons h _, e => by simp at e; subst e; exact ⟨_, rfl, h⟩
  | _, _, i + 1, _, .cons _ t, e => by
    obtain ⟨v, h1, h2⟩ := RepL.get (i := i) t (by simpa using e)
    exact ⟨v, by simpa using h1, h2⟩
theorem RepL.getV : ∀ {ds : List D} {vs : List L2.V} {i : Nat} {v : L2.V}, RepL K mg V ρ H ds vs → vs[i]? = some v → ∃ d, ds[i]? = some d ∧ Rep K mg V ρ H d v
  | _, _, _, _, .nil, e => by simp at e
  | _, _, 0, _, .cons h _, e => by simp at e; subst e; exact ⟨_, rfl, h⟩
  | _, _, i + 1, _, .cons _ t, e => by
    obtain ⟨v, h1, h2⟩ := RepL.getV (i := i) t (by simpa using e)
    exact ⟨v, by simpa using h1, h2⟩
theorem RepL.take : ∀ {ds : List D} {vs : List L2.V} (n : Nat), RepL K mg V ρ H ds vs → RepL K mg V ρ H (ds.take n) (vs.take n)
  | _, _, 0, _ => .nil
  | _, _, _ + 1, .nil => .nil
  | _, _, n + 1, .cons h t => .cons h (RepL.take n t)
theorem RepL.drop : ∀ {ds : List D} {vs : List L2.V} (n : Nat), RepL K mg V ρ H ds vs → RepL K mg V ρ H (ds.drop n) (vs.drop n)
  | _, _, 0, r => r
  | _, _, _ + 1, .nil => .nil
  | _, _, n + 1, .cons _ t => RepL.drop n t
theorem RepL.set {d : D} {v : L2.V} (r : Rep K mg V ρ H d v) : ∀ {ds : List D} {vs : List L2.V} (i : Nat), RepL K mg V ρ H ds vs → RepL K mg V ρ H (ds.set i d) (vs.set i v)
  | _, _, _, .nil => .nil
  | _, _, 0, .cons _ t => .cons r t
  | _, _, i + 1, .cons q t => .cons q (RepL.set r i t)
theorem RepL.rep : ∀ {ds : List D} {vs : List L2.V} (n : Nat), RepL K mg V ρ H ds vs → RepL K mg V ρ H (repL ds n) (List.replicate n vs).flatten
  | _, _, 0, _ => .nil
  | ds, vs, n + 1, r => by
    rw [List.replicate_succ, List.flatten_cons]
    exact r.append (RepL.rep n r)
theorem RepL.reverse {ds : List D} {vs : List L2.V} (r : RepL K mg V ρ H ds vs) : RepL K mg V ρ H ds.reverse vs.reverse := by
  have aux : ∀ {ds : List D} {vs : List L2.V} {es : List D} {us : List L2.V}, RepL K mg V ρ H ds vs → RepL K mg V ρ H es us → RepL K mg V ρ H (ds.reverseAux es) (vs.reverseAux us) := by
    intro ds
    induction ds with
    | nil => intro vs es us h s; cases h; exact s
    | cons d ds ih => intro vs es us h s; cases h with | cons h t => have q := ih t (RepL.cons h s); exact q
  exact aux r .nil
end

def RepO (K : PySem.W.Frag) (mg : Str → Option Value) (V : Vw) (ρ : Rho) (H : Hp) (a : Addr) : O → Prop
  | .lst ds => ∃ xs, H a = some (.lst xs) ∧ RepL K mg V ρ H ds xs
  | .dic ks ds => ∃ xs, H a = some (.dK (ks.zip xs)) ∧ ks.length = xs.length ∧ RepL K mg V ρ H ds xs
  | .ins c ks ds => ∃ k C dx xs, V.T.cls[c]? = some k ∧ mg k.name = some (.ref C) ∧ H a = some (.ins C dx ((ks.map V.att).zip xs)) ∧ ks.length = xs.length ∧ RepL K mg V ρ H ds xs
  | .gone => False
/-- the slots -/
structure EnvRep (K : PySem.W.Frag) (mg : Str → Option Value) (V : Vw) (ρ : Rho) (H : Hp) (env : Env) (σ : St) : Prop where
  len : env.length = σ.length
  at_ : ∀ (i : Nat) (d : D), env[i]? = some (some d) → ∃ v, σ[i]? = some (some v) ∧ Rep K mg V ρ H d v
/-- the tables of code objects -/
structure TbOk (V : Vw) (ρ : Rho) (H : Hp) : Prop where
  tabs : LamX.Tabs V.tb H
  out : ∀ p ∈ V.tb, Out ρ p.1
  only : ∀ a ps, H a = some (.tbl ps) → ∃ p ∈ V.tb, p.1 = a
/-- the store lies at ρ -/
structure Wd (K : PySem.W.Frag) (mg : Str → Option Value) (V : Vw) (ρ : Rho) (st : Sto) (H : Hp) : Prop where
  len : ρ.ix.length = st.length
  inj : ∀ (i j : Nat) (a : Addr), ρ.ix[i]? = some (some a) → ρ.ix[j]? = some (some a) → i = j
  ob : ∀ (i : Nat) (a : Addr) (o : O), ρ.ix[i]? = some (some a) → st[i]? = some o → RepO K mg V ρ H a o
  gn : ∀ i : Nat, ρ.ix[i]? = some none → st[i]? = some O.gone
  pv : ∀ a ∈ ρ.no, (H a ≠ none ∧ ∀ φ, H a ≠ some (.ext φ)) ∧ some a ∉ ρ.ix
  frs : ∀ (d : Nat) (fi : FrI), V.fr[d]? = some fi → EnvRep K mg V ρ H fi.menv fi.σ
  tb : TbOk V ρ H
section
variable {K : PySem.W.Frag} {mg : Str → Option Value} {V V' : Vw} {ρ ρ' : Rho} {H H' : Hp} {st st' : Sto} {env : Env} {σ : St}
theorem EnvRep.mv (e : Mv K V ρ H V' ρ' H') (r : EnvRep K mg V ρ H env σ) : EnvRep K mg V' ρ' H' env σ := ⟨r.len, fun i d h => by
  obtain ⟨v, h1, h2⟩ := r.at_ i d h
  exact ⟨v, h1, h2.mv e⟩⟩
theorem EnvRep.ext (e : Ext ρ H ρ' H') (r : EnvRep K mg V ρ H env σ) : EnvRep K mg V ρ' H' env σ := r.mv e.mv
theorem EnvRep.set {d : D} {v : L2.V} (r : EnvRep K mg V ρ H env σ) (h : Rep K mg V ρ H d v) (i : Nat) : EnvRep K mg V ρ H (env.set i (some d)) (σ.set i (some v)) := by
  refine ⟨by simp [r.len], fun j e hj => ?_⟩
  by_cases hi : i = j
  · subst hi
    have hl : i < env.length := by
      have := (List.getElem?_eq_some_iff.mp hj).1
      simpa using this
    rw [List.getElem?_set_self hl] at hj
    cases hj
    exact ⟨v, by rw [List.getElem?_set_self (by rw [← r.len]; exact hl)], h⟩
  · rw [List.getElem?_set_ne hi] at hj
    obtain ⟨u, h1, h2⟩ := r.at_ j e hj
    exact ⟨u, by rw [List.getElem?_set_ne hi]; exact h1, h2⟩
theorem EnvRep.setNone (r : EnvRep K mg V ρ H env σ) (i : Nat) : EnvRep K mg V ρ H (env.set i none) (σ.set i none) := by
  refine ⟨by simp [r.len], fun j e hj => ?_⟩
  by_cases hi : i = j
  · subst hi
    have hl : i < env.length := by
      have := (List.getElem?_eq_some_iff.mp hj).1
      simpa using this
    rw [List.getElem?_set_self hl] at hj
    cases hj
  · rw [List.getElem?_set_ne hi] at hj
    obtain ⟨u, h1, h2⟩ := r.at_ j e hj
    exact ⟨u, by rw [List.getElem?_set_ne hi]; exact h1, h2⟩
theorem EnvRep.wipe (r : EnvRep K mg V ρ H env σ) : ∀ vs : List Nat, EnvRep K mg V ρ H (wipeE env vs) (L2.wipe σ vs)
  | [] => r
  | v :: vs => (EnvRep.wipe r vs).setNone v
theorem RepO.mv {a : Addr} {o : O} (e : Mv K V ρ H V' ρ' H') (hh : H' a = H a) (h : RepO K mg V ρ H a o) : RepO K mg V' ρ' H' a o := by
  cases o with
  | lst ds => obtain ⟨xs, q, r⟩ := h; exact ⟨xs, by rw [hh]; exact q, r.mv e⟩
  | dic ks ds => obtain ⟨xs, q, l, r⟩ := h; exact ⟨xs, by rw [hh]; exact q, l, r.mv e⟩
  | ins c ks ds => obtain ⟨k, C, dx, xs, h1, h2, q, l, r⟩ := h; exact ⟨k, C, dx, xs, by rw [e.T]; exact h1, h2, by rw [hh, e.attE]; exact q, l, r.mv e⟩
  | gone => exact h
theorem RepO.there {a : Addr} {o : O} (h : RepO K mg V ρ H a o) : ∃ u, H a = some u ∧ (∀ ps, u ≠ .tbl ps) ∧ ∀ φ, u ≠ .ext φ := by
  cases o with
  | lst ds => obtain ⟨xs, e, _⟩ := h; exact ⟨_, e, fun _ z => (by cases z), fun _ z => (by cases z)⟩
  | dic ks ds => obtain ⟨xs, e, _⟩ := h; exact ⟨_, e, fun _ z => (by cases z), fun _ z => (by cases z)⟩
  | ins c ks ds => obtain ⟨k, C, dx, xs, _, _, e, _⟩ := h; exact ⟨_, e, fun _ z => (by cases z), fun _ z => (by cases z)⟩
  | gone => exact h.elim
theorem Wd.get (w : Wd K mg V ρ st H) {i : Nat} {a : Addr} (h : ρ.ix[i]? = some (some a)) : ∃ o, st[i]? = some o ∧ RepO K mg V ρ H a o := by
  have hi : i < st.length := by rw [← w.len]; exact (List.getElem?_eq_some_iff.mp h).1
  exact ⟨st[i], by simp [hi], w.ob i a _ h (by simp [hi])⟩
theorem Wd.mem (w : Wd K mg V ρ st H) {a : Addr} (h : some a ∈ ρ.ix) : ∃ u, H a = some u ∧ (∀ ps, u ≠ .tbl ps) ∧ ∀ φ, u ≠ .ext φ := by
  obtain ⟨i, hi⟩ := List.getElem?_of_mem h
  obtain ⟨o, _, r⟩ := w.get hi
  exact r.there
theorem Wd.fresh (w : Wd K mg V ρ st H) {a : Addr} (h : H a = none) : Out ρ a := by
  refine ⟨fun m => ?_, fun m => (w.pv a m).1.1 h⟩
  obtain ⟨u, e, _⟩ := w.mem m
  rw [h] at e; cases e
/-- an object of the store that a value speaks of -/
theorem Wd.spoken (w : Wd K mg V ρ st H) {i : Nat} {a : Addr} {oa : Option Addr} {o : O} (h : ρ.ix[i]? = some oa) (q : ∀ b, oa = some b → b = a) (hs : st[i]? = some o) (hg : o ≠ .gone) : ρ.ix[i]? = some (some a) ∧ RepO K mg V ρ H a o := by
  cases oa with
  | none =>
    have z := w.gn i h
    rw [hs] at z
    exact absurd (Option.some.inj z) hg
  | some b =>
    obtain rfl := q b rfl
    exact ⟨h, w.ob i b o h hs⟩
theorem upd_live {p : Addr} {o : HO} {a : Addr} (h : upd H p o a = none) : H a = none := by
  by_cases e : a = p
  · subst e; rw [upd_same] at h; cases h
  · rw [upd_ne e] at h; exact h
theorem upd_keep {p : Addr} {o : HO} {a : Addr} (h : H a ≠ none) : upd H p o a ≠ none := fun q => h (upd_live q)
theorem upd_kept {p : Addr} {o : HO} {a : Addr} (h : H a ≠ none ∧ ∀ φ, H a ≠ some (.ext φ)) (hp : a ≠ p ∨ ∀ φ, o ≠ .ext φ) : upd H p o a ≠ none ∧ ∀ φ, upd H p o a ≠ some (.ext φ) := by
  by_cases e : a = p
  · subst e
    refine ⟨by rw [upd_same]; simp, fun φ q => ?_⟩
    rw [upd_same] at q
    rcases hp with z | z
    · exact z rfl
    · exact z φ (Option.some.inj q)
  · rw [upd_ne e]
    exact h
theorem TbOk.upd {a : Addr} {o : HO} (t : TbOk V ρ H) (h1 : ∀ ps, H a ≠ some (.tbl ps)) (h2 : ∀ φ, H a ≠ some (.ext φ)) (h3 : ∀ ps, o ≠ .tbl ps) : TbOk V ρ (L2.upd H a o) := by
  have nt : ∀ b ps, H b = some (.tbl ps) → b ≠ a := fun b ps e z => by subst z; exact h1 ps e
  refine ⟨fun p hp => ?_, t.out, fun b ps e => ?_⟩
  · obtain ⟨ps, a1, a2, a3⟩ := t.tabs p hp
    refine ⟨ps, by rw [upd_ne (nt _ _ a1)]; exact a1, a2, fun pos cv hc => ?_⟩
    obtain ⟨c, e1, e2⟩ := a3 pos cv hc
    refine ⟨c, e1, ?_⟩
    rw [upd_ne fun z => ?_]
    · exact e2
    · subst z
      unfold LamX.CodeO at e2
      exact h2 _ e2
  · by_cases hb : b = a
    · subst hb
      rw [upd_same] at e
      exact absurd (Option.some.inj e) (h3 ps)
    · rw [upd_ne hb] at e
      exact t.only b ps e
theorem TbOk.rho (t : TbOk V ρ H) (h : ∀ p ∈ V.tb, Out ρ p.1 → Out ρ' p.1) : TbOk V ρ' H := ⟨t.tabs, fun p hp => h p hp (t.out p hp), t.only⟩
theorem TbOk.there (t : TbOk V ρ H) {p : Addr × Str} (hp : p ∈ V.tb) : H p.1 ≠ none := by
  obtain ⟨ps, a1, _⟩ := t.tabs p hp
  rw [a1]
  exact Option.some_ne_none _
/-- a new object beside the store -/
theorem Ext.fresh {p : Addr} {o : HO} (hp : H p = none) : Ext ρ H ρ (upd H p o) :=
  ⟨⟨[], by simp, by simp⟩, Nat.le_refl _, fun _ _ => .inl rfl, (Ext.refl ρ H).new, fun a u h _ => .inl (by rw [upd_ne (ne_of_none h hp)]; exact h), fun a h => upd_live h⟩
theorem Wd.new {p : Addr} {o : HO} (w : Wd K mg V ρ st H) (hp : H p = none) (ho : ∀ ps, o ≠ .tbl ps := by intro _ z; cases z) : Wd K mg V ρ st (upd H p o) :=
  ⟨w.len, w.inj, fun i a u h1 h2 => (w.ob i a u h1 h2).mv (Ext.fresh hp).mv (upd_ne fun e => (w.fresh hp).1 (by rw [← e]; exact List.mem_of_getElem? h1)), w.gn, fun a m => ⟨upd_kept (w.pv a m).1 (.inl fun e => (w.pv a m).1.1 (by rw [e]; exact hp)), (w.pv a m).2⟩,
    fun d fi h => (w.frs d fi h).ext (Ext.fresh hp), w.tb.upd (fun ps => by rw [hp]; exact nofun) (fun φ => by rw [hp]; exact nofun) ho⟩
/-- a new object of the store -/
theorem Ext.push {p : Addr} {o : HO} (hp : H p = none) : Ext ρ H (ρ.push p) (upd H p o) := by
  refine ⟨⟨[], rfl, by simp⟩, by simp [Rho.push], fun i hi => .inl ?_, fun i a hi h => ?_, fun a u h _ => .inl (by rw [upd_ne (ne_of_none h hp)]; exact h), fun a h => upd_live h⟩
  · show (ρ.ix ++ [some p])[i]? = _
    rw [List.getElem?_append_left hi]
  · have h : (ρ.ix ++ [some p])[i]? = some (some a) := h
    rw [List.getElem?_append_right hi] at h
    have e : i = ρ.ix.length := by
      have := (List.getElem?_eq_some_iff.mp h).1
      simp at this
      omega
    subst e
    simp at h
    subst h
    exact hp
theorem gn_push {p : Addr} {o' : O} {i : Nat} (w : Wd K mg V ρ st H) (h : (ρ.ix ++ [some p])[i]? = some none) : (st ++ [o'])[i]? = some O.gone := by
  by_cases hi : i < ρ.ix.length
  · rw [List.getElem?_append_left hi] at h
    rw [List.getElem?_append_left (by rw [← w.len]; exact hi)]
    exact w.gn i h
  · rw [List.getElem?_append_right (by omega)] at h
    have := (List.getElem?_eq_some_iff.mp h).1
    have e : i - ρ.ix.length = 0 := by
      simp at this
      omega
    rw [e] at h
    simp at h
theorem Wd.pushAt {p : Addr} {H2 : Hp} {o' : O} (w : Wd K mg V ρ st H) (e : Ext ρ H (ρ.push p) H2) (hs : ∀ a, some a ∈ ρ.ix → H2 a = H a) (hp : Out ρ p) (r : RepO K mg V (ρ.push p) H2 p o') (tb : TbOk V (ρ.push p) H2) : Wd K mg V (ρ.push p) (st ++ [o']) H2 := by
  have split : ∀ {i : Nat} {a : Addr}, (ρ.push p).ix[i]? = some (some a) → (i < ρ.ix.length ∧ ρ.ix[i]? = some (some a)) ∨ (i = ρ.ix.length ∧ a = p) := fun {i a} h => by
    have h : (ρ.ix ++ [some p])[i]? = some (some a) := h
    by_cases hi : i < ρ.ix.length
    · rw [List.getElem?_append_left hi] at h
      exact .inl ⟨hi, h⟩
    · have e : i = ρ.ix.length := by
        have := (List.getElem?_eq_some_iff.mp h).1
        simp at this
        omega
      subst e
      rw [List.getElem?_append_right (Nat.le_refl _)] at h
      simp at h
      exact .inr ⟨rfl, h.symm⟩
  refine ⟨by simp [Rho.push, w.len], fun i j a h1 h2 => ?_, fun i a u h1 h2 => ?_, fun i h => ?_, fun a m => ?_, fun d fi h => (w.frs d fi h).ext e, tb⟩
  · rcases split h1 with ⟨_, g1⟩ | ⟨rfl, rfl⟩
    · rcases split h2 with ⟨_, h2⟩ | ⟨rfl, rfl⟩
      · exact w.inj i j a g1 h2
      · exact absurd (List.mem_of_getElem? g1) hp.1
    · rcases split h2 with ⟨_, h2⟩ | ⟨rfl, _⟩
      · exact absurd (List.mem_of_getElem? h2) hp.1
      · rfl
  · rcases split h1 with ⟨hi, h1⟩ | ⟨rfl, rfl⟩
    · rw [List.getElem?_append_left (by rw [← w.len]; exact hi)] at h2
      exact (w.ob i a u h1 h2).mv e.mv (hs a (List.mem_of_getElem? h1))
    · rw [w.len, List.getElem?_append_right (Nat.le_refl _)] at h2
      simp at h2
      subst h2
      exact r
  · exact gn_push w h
  · have q := w.pv a m
    refine ⟨⟨fun z => q.1.1 (e.live a z), fun φ z => ?_⟩, ?_⟩
    · cases hu : H a with
      | none => exact q.1.1 hu
      | some u =>
        rcases e.same a u hu q.2 with y | ⟨_, _, _, y⟩
        · rw [z] at y
          cases y
          exact q.1.2 φ hu
        · rw [z] at y
          cases y
    show some a ∉ ρ.ix ++ [some p]
    intro z
    rcases List.mem_append.mp z with z | z
    · exact q.2 z
    · have : a = p := by simpa using z
      subst this
      exact hp.2 m
theorem Out.push {a p : Addr} (h : Out ρ a) (hn : a ≠ p) : Out (ρ.push p) a := ⟨fun m => by
  rcases List.mem_append.mp (show some a ∈ ρ.ix ++ [some p] from m) with m | m
  · exact h.1 m
  · exact hn (by simpa using m), h.2⟩
theorem Wd.push {p : Addr} {o : HO} {o' : O} (w : Wd K mg V ρ st H) (hp : H p = none) (r : RepO K mg V (ρ.push p) (upd H p o) p o') (ho : ∀ ps, o ≠ .tbl ps := by intro _ z; cases z) : Wd K mg V (ρ.push p) (st ++ [o']) (upd H p o) :=
  w.pushAt (Ext.push hp) (fun a m => upd_ne fun e => (w.fresh hp).1 (by rw [← e]; exact m)) (w.fresh hp) r
    ((w.tb.upd (fun ps => by rw [hp]; exact nofun) (fun φ => by rw [hp]; exact nofun) ho).rho fun q hq h => h.push fun e => w.tb.there hq (by rw [e]; exact hp))
/-- the heap has grown beside the store: tables may be longer -/
theorem Ext.grown (e : ∀ a o, H a = some o → H' a = some o ∨ ∃ ps ps', o = .tbl ps ∧ H' a = some (.tbl ps')) (l : ∀ a, H' a = none → H a = none) : Ext ρ H ρ H' :=
  ⟨⟨[], by simp, by simp⟩, Nat.le_refl _, fun _ _ => .inl rfl, (Ext.refl ρ H).new, fun a o h _ => e a o h, l⟩
theorem Wd.grown (w : Wd K mg V ρ st H) (e : ∀ a o, H a = some o → H' a = some o ∨ ∃ ps ps', o = .tbl ps ∧ H' a = some (.tbl ps')) (l : ∀ a, H' a = none → H a = none) (T : LamX.Tabs V.tb H')
    (only : ∀ a ps, H' a = some (.tbl ps) → ∃ ps', H a = some (.tbl ps')) : Wd K mg V ρ st H' := by
  have ex : Ext ρ H ρ H' := Ext.grown e l
  refine ⟨w.len, w.inj, fun i a o h1 h2 => ?_, w.gn, fun a m => ⟨⟨fun z => (w.pv a m).1.1 (l a z), fun φ z => ?_⟩, (w.pv a m).2⟩, fun d fi h => (w.frs d fi h).ext ex, T, w.tb.out, fun a ps h => ?_⟩
  · have r := w.ob i a o h1 h2
    obtain ⟨u, hu, n1, _⟩ := r.there
    refine r.mv ex.mv ?_
    rcases e a u hu with y | ⟨ps, _, y, _⟩
    · rw [y, hu]
    · exact absurd y (n1 ps)
  · cases hu : H a with
    | none => exact (w.pv a m).1.1 hu
    | some u =>
      rcases e a u hu with y | ⟨_, _, _, y⟩
      · rw [z] at y
        cases y
        exact (w.pv a m).1.2 φ hu
      · rw [z] at y
        cases y
  · obtain ⟨ps', h'⟩ := only a ps h
    exact w.tb.only a ps' h'
theorem Wd.last {p : Addr} (w : Wd K mg V ρ st H) : (ρ.push p).ix[st.length]? = some (some p) := by
  show (ρ.ix ++ [some p])[st.length]? = _
  rw [← w.len, List.getElem?_append_right (Nat.le_refl _)]
  simp
/-- an object of the store is written -/
theorem Ext.put {i : Nat} {a : Addr} {o : HO} (h : ρ.ix[i]? = some (some a)) : Ext ρ H ρ (upd H a o) :=
  ⟨⟨[], by simp, by simp⟩, Nat.le_refl _, fun _ _ => .inl rfl, (Ext.refl ρ H).new, fun b u hb n => .inl (by rw [upd_ne fun e => n (by rw [e]; exact List.mem_of_getElem? h)]; exact hb), fun b hb => upd_live hb⟩
theorem Wd.put {i : Nat} {a : Addr} {o : HO} {o' : O} (w : Wd K mg V ρ st H) (h : ρ.ix[i]? = some (some a)) (r : RepO K mg V ρ (upd H a o) a o') (ho : ∀ ps, o ≠ .tbl ps := by intro _ z; cases z) : Wd K mg V ρ (st.set i o') (upd H a o) := by
  obtain ⟨u0, e0, n1, n2⟩ := w.mem (List.mem_of_getElem? h)
  refine ⟨by simp [w.len], w.inj, fun j b u h1 h2 => ?_, fun j hj => ?_, fun c m => ⟨upd_kept (w.pv c m).1 (.inl fun e => (w.pv c m).2 (by rw [e]; exact List.mem_of_getElem? h)), (w.pv c m).2⟩, fun d fi hf => (w.frs d fi hf).ext (Ext.put h), w.tb.upd (fun ps z => n1 ps (by rw [e0] at z; exact Option.some.inj z)) (fun φ z => n2 φ (by rw [e0] at z; exact Option.some.inj z)) ho⟩
  by_cases e : i = j
  · subst e
    have e1 : b = a := by rw [h] at h1; exact (Option.some.inj (Option.some.inj h1)).symm
    subst e1
    have hl : i < st.length := by rw [← w.len]; exact (List.getElem?_eq_some_iff.mp h).1
    rw [List.getElem?_set_self hl] at h2
    cases h2
    exact r
  · rw [List.getElem?_set_ne e] at h2
    refine (w.ob j b u h1 h2).mv (Ext.put h).mv (upd_ne fun z => e ?_)
    subst z
    exact w.inj i j b h h1
  · have e : i ≠ j := fun e => by
      subst e
      rw [h] at hj
      cases hj
    rw [List.getElem?_set_ne e]
    exact w.gn j hj
/-- an object of the store becomes a value -/
theorem Ext.free (i : Nat) : Ext ρ H (ρ.free i) H := by
  refine ⟨⟨[], rfl, by simp⟩, by simp [Rho.free], fun j hj => ?_, fun j a hj h => ?_, fun _ _ h _ => .inl h, fun _ h => h⟩
  · show (ρ.ix.set i none)[j]? = _ ∨ (ρ.ix.set i none)[j]? = _
    by_cases e : i = j
    · subst e
      exact .inr (List.getElem?_set_self hj)
    · exact .inl (List.getElem?_set_ne e)
  · have h : (ρ.ix.set i none)[j]? = some (some a) := h
    have := (List.getElem?_eq_some_iff.mp h).1
    rw [List.length_set] at this
    omega
theorem mem_free {i : Nat} {a : Addr} (h : some a ∈ (ρ.free i).ix) : some a ∈ ρ.ix := by
  rcases List.mem_or_eq_of_mem_set h with q | q
  · exact q
  · cases q
theorem Out.free {i : Nat} {a : Addr} (h : Out ρ a) : Out (ρ.free i) a := ⟨fun m => h.1 (mem_free m), h.2⟩
theorem Wd.free (w : Wd K mg V ρ st H) (i : Nat) : Wd K mg V (ρ.free i) (st.set i .gone) H := by
  have back : ∀ {j : Nat} {a : Addr}, (ρ.free i).ix[j]? = some (some a) → i ≠ j ∧ ρ.ix[j]? = some (some a) := fun {j a} h => by
    have h : (ρ.ix.set i none)[j]? = some (some a) := h
    by_cases e : i = j
    · subst e
      by_cases hl : i < ρ.ix.length
      · rw [List.getElem?_set_self hl] at h
        cases h
      · rw [List.getElem?_eq_none (by simpa using hl)] at h
        cases h
    · rw [List.getElem?_set_ne e] at h
      exact ⟨e, h⟩
  refine ⟨by simp [Rho.free, w.len], fun j k a h1 h2 => w.inj j k a (back h1).2 (back h2).2, fun j a u h1 h2 => ?_, fun j hj => ?_, fun a m => ⟨(w.pv a m).1, fun z => (w.pv a m).2 (mem_free z)⟩, fun d fi h => (w.frs d fi h).ext (Ext.free i), w.tb.rho fun p _ h => h.free⟩
  · obtain ⟨e, h1⟩ := back h1
    rw [List.getElem?_set_ne e] at h2
    exact (w.ob j a u h1 h2).mv (Ext.free i).mv rfl
  · have hj : (ρ.ix.set i none)[j]? = some none := hj
    by_cases e : i = j
    · subst e
      have hl := (List.getElem?_eq_some_iff.mp hj).1
      rw [List.length_set, w.len] at hl
      exact List.getElem?_set_self hl
    · rw [List.getElem?_set_ne e] at hj ⊢
      exact w.gn j hj
theorem Wd.out_free (w : Wd K mg V ρ st H) {i : Nat} {a : Addr} (h : ρ.ix[i]? = some (some a)) : Out (ρ.free i) a := by
  refine ⟨fun m => ?_, fun m => (w.pv a m).2 (List.mem_of_getElem? h)⟩
  obtain ⟨j, hj⟩ := List.getElem?_of_mem m
  have hj : (ρ.ix.set i none)[j]? = some (some a) := hj
  have hl : i < ρ.ix.length := (List.getElem?_eq_some_iff.mp h).1
  by_cases e : i = j
  · subst e
    rw [List.getElem?_set_self hl] at hj
    cases hj
  · rw [List.getElem?_set_ne e] at hj
    exact e (w.inj i j a h hj)
/-! ### a hidden list -/
theorem Ext.hide {D : Addr} {o : HO} (hD : H D = none) : Ext ρ H (ρ.hide D) (upd H D o) :=
  ⟨⟨[D], rfl, by simp [hD]⟩, Nat.le_refl _, fun _ _ => .inl rfl, (Ext.refl ρ H).new, fun a u h _ => .inl (by rw [upd_ne (ne_of_none h hD)]; exact h), fun a h => upd_live h⟩
theorem Wd.hide {D : Addr} {o : HO} (w : Wd K mg V ρ st H) (hD : H D = none) (ho : ∀ ps, o ≠ .tbl ps := by intro _ z; cases z) (hx : ∀ φ, o ≠ .ext φ := by intro _ z; cases z) : Wd K mg V (ρ.hide D) st (upd H D o) := by
  refine ⟨w.len, w.inj, fun i a u h1 h2 => ?_, w.gn, fun a m => ?_, fun d fi h => (w.frs d fi h).ext (Ext.hide hD), (w.tb.upd (fun ps => by rw [hD]; exact nofun) (fun φ => by rw [hD]; exact nofun) ho).rho fun p hp h => ⟨h.1, fun m => ?_⟩⟩
  · refine (w.ob i a u h1 h2).mv (Ext.hide hD).mv (upd_ne fun e => (w.fresh hD).1 (by rw [← e]; exact List.mem_of_getElem? h1))
  · rcases List.mem_cons.mp m with e | m
    · subst e
      exact ⟨⟨by rw [upd_same]; simp, fun φ z => by rw [upd_same] at z; exact hx φ (Option.some.inj z)⟩, (w.fresh hD).1⟩
    · exact ⟨upd_kept (w.pv a m).1 (.inr hx), (w.pv a m).2⟩
  · rcases List.mem_cons.mp m with e | m
    · exact w.tb.there hp (by rw [e]; exact hD)
    · exact h.2 m
/-- the hidden list is written -/
theorem mv_priv {D : Addr} {o : HO} (hD : D ∈ ρ.no) : Mv K V ρ H V ρ (upd H D o) :=
  ⟨rfl, fun _ _ h => h, fun i a oa h q => ⟨oa, h, q⟩, fun a u h t n => ⟨by rw [upd_ne fun e => n.2 (by rw [e]; exact hD)]; exact h, n⟩⟩
theorem Wd.priv {D : Addr} {o : HO} {xs : List L2.V} (w : Wd K mg V ρ st H) (hD : D ∈ ρ.no) (hl : H D = some (.lst xs)) (ho : ∀ ps, o ≠ .tbl ps := by intro _ z; cases z) (hx : ∀ φ, o ≠ .ext φ := by intro _ z; cases z) : Wd K mg V ρ st (upd H D o) :=
  ⟨w.len, w.inj, fun i a u h1 h2 => (w.ob i a u h1 h2).mv (mv_priv hD) (upd_ne fun z => (w.pv D hD).2 (by rw [← z]; exact List.mem_of_getElem? h1)), w.gn, fun a m => ⟨upd_kept (w.pv a m).1 (.inr hx), (w.pv a m).2⟩, fun d fi h => (w.frs d fi h).mv (mv_priv hD),
    w.tb.upd (fun ps => by rw [hl]; exact nofun) (fun φ => by rw [hl]; exact nofun) ho⟩
/-- less is hidden -/
theorem mv_show {l : List Addr} (hl : ∀ b ∈ l, b ∈ ρ.no) : Mv K V ρ H V (ρ.show l) H :=
  ⟨rfl, fun _ _ h => h, fun i a oa h q => ⟨oa, h, q⟩, fun a u h t n => ⟨h, n.1, fun m => n.2 (hl a m)⟩⟩
theorem Wd.show {l : List Addr} (w : Wd K mg V ρ st H) (hl : ∀ b ∈ l, b ∈ ρ.no) : Wd K mg V (ρ.show l) st H :=
  ⟨w.len, w.inj, fun i a u h1 h2 => (w.ob i a u h1 h2).mv (mv_show hl) rfl, w.gn, fun a m => w.pv a (hl a m), fun d fi h => (w.frs d fi h).mv (mv_show hl), w.tb.rho fun p _ h => ⟨h.1, fun m => h.2 (hl _ m)⟩⟩
/-- the hidden list becomes one of the store -/
theorem mv_own {D : Addr} {l : List Addr} (hD : D ∈ ρ.no) (hl : ∀ b ∈ l, b ∈ ρ.no) : Mv K V ρ H V ((ρ.show l).push D) H := by
  refine ⟨rfl, fun _ _ h => h, fun i a oa h q => ⟨oa, ?_, q⟩, fun a u h t n => ⟨h, fun m => ?_, fun m => n.2 (hl a m)⟩⟩
  · show (ρ.ix ++ [some D])[i]? = _
    rw [List.getElem?_append_left (List.getElem?_eq_some_iff.mp h).1]
    exact h
  · rcases List.mem_append.mp (show some a ∈ ρ.ix ++ [some D] from m) with m | m
    · exact n.1 m
    · have e : a = D := by simpa using m
      exact n.2 (by rw [e]; exact hD)
theorem Wd.own {D : Addr} {l : List Addr} {ds : List Mu.D} {vs : List L2.V} (w : Wd K mg V ρ st H) (hD : D ∈ ρ.no) (hl : ∀ b ∈ l, b ∈ ρ.no) (hn : D ∉ l) (e : H D = some (.lst vs)) (r : RepL K mg V ρ H ds vs) : Wd K mg V ((ρ.show l).push D) (st ++ [.lst ds]) H := by
  have w2 := w.show hl
  have M : Mv K V ρ H V ((ρ.show l).push D) H := mv_own hD hl
  have split : ∀ {i : Nat} {a : Addr}, ((ρ.show l).push D).ix[i]? = some (some a) → (i < ρ.ix.length ∧ ρ.ix[i]? = some (some a)) ∨ (i = ρ.ix.length ∧ a = D) := fun {i a} h => by
    have h : (ρ.ix ++ [some D])[i]? = some (some a) := h
    by_cases hi : i < ρ.ix.length
    · rw [List.getElem?_append_left hi] at h
      exact .inl ⟨hi, h⟩
    · have e : i = ρ.ix.length := by
        have := (List.getElem?_eq_some_iff.mp h).1
        simp at this
        omega
      subst e
      rw [List.getElem?_append_right (Nat.le_refl _)] at h
      simp at h
      exact .inr ⟨rfl, h.symm⟩
  have nD : some D ∉ ρ.ix := (w.pv D hD).2
  refine ⟨by simp [Rho.push, Rho.show, w.len], fun i j a h1 h2 => ?_, fun i a u h1 h2 => ?_, fun i h => gn_push w h, fun a m => ⟨(w.pv a (hl a m)).1, fun z => ?_⟩, fun d fi h => (w.frs d fi h).mv M, w.tb.rho fun p hp h => ⟨fun m => ?_, fun m => h.2 (hl _ m)⟩⟩
  · rcases split h1 with ⟨_, g1⟩ | ⟨rfl, rfl⟩
    · rcases split h2 with ⟨_, h2⟩ | ⟨rfl, rfl⟩
      · exact w.inj i j a g1 h2
      · exact absurd (List.mem_of_getElem? g1) nD
    · rcases split h2 with ⟨_, h2⟩ | ⟨rfl, _⟩
      · exact absurd (List.mem_of_getElem? h2) nD
      · rfl
  · rcases split h1 with ⟨hi, h1⟩ | ⟨rfl, rfl⟩
    · rw [List.getElem?_append_left (by rw [← w.len]; exact hi)] at h2
      exact (w.ob i a u h1 h2).mv M rfl
    · rw [w.len, List.getElem?_append_right (Nat.le_refl _)] at h2
      simp at h2
      subst h2
      exact ⟨vs, e, r.mv M⟩
  · rcases List.mem_append.mp (show some a ∈ ρ.ix ++ [some D] from z) with z | z
    · exact (w.pv a (hl a m)).2 z
    · have e : a = D := by simpa using z
      exact hn (by rw [← e]; exact m)
  · rcases List.mem_append.mp (show some p.1 ∈ ρ.ix ++ [some D] from m) with m | m
    · exact h.1 m
    · have e : p.1 = D := by simpa using m
      exact h.2 (by rw [e]; exact hD)
end

/-! ### another view of the same -/
/-- a frame waits -/
def Vw.at (V : Vw) (b : Bool) (env : Env) (σ : L2.St) : Vw := if b then { V with fr := V.fr ++ [⟨env, σ⟩] } else V
theorem Vw.at_T {V : Vw} {b : Bool} {env : Env} {σ : L2.St} : (V.at b env σ).T = V.T := by cases b <;> rfl
theorem Vw.at_fs {V : Vw} {b : Bool} {env : Env} {σ : L2.St} : (V.at b env σ).fs = V.fs := by cases b <;> rfl
theorem Vw.at_tb {V : Vw} {b : Bool} {env : Env} {σ : L2.St} : (V.at b env σ).tb = V.tb := by cases b <;> rfl
section
variable {K : PySem.W.Frag} {mg : Str → Option Value} {V V' : Vw} {ρ ρ' : Rho} {H H' : Hp} {st : Sto} {env : Env} {σ : St}
theorem mv_view (h1 : V'.T = V.T) (h2 : V'.fs = V.fs) : Mv K V ρ H V' ρ H := ⟨h1, fun d F h => by rw [h2]; exact h, fun i a oa h q => ⟨oa, h, q⟩, fun a o h _ n => ⟨h, n⟩⟩
theorem Wd.view (w : Wd K mg V ρ st H) (h1 : V'.T = V.T) (h2 : V'.fs = V.fs) (h3 : V'.tb = V.tb) (hf : ∀ (d : Nat) (fi : FrI), V'.fr[d]? = some fi → EnvRep K mg V' ρ H fi.menv fi.σ) : Wd K mg V' ρ st H :=
  ⟨w.len, w.inj, fun i a o a1 a2 => (w.ob i a o a1 a2).mv (mv_view h1 h2) rfl, w.gn, w.pv, hf, by rw [h3]; exact w.tb.tabs, by rw [h3]; exact w.tb.out, by rw [h3]; exact w.tb.only⟩
theorem Wd.atV (w : Wd K mg V ρ st H) (b : Bool) (er : EnvRep K mg V ρ H env σ) : Wd K mg (V.at b env σ) ρ st H := by
  refine w.view Vw.at_T Vw.at_fs Vw.at_tb fun d fi h => ?_
  have M : Mv K V ρ H (V.at b env σ) ρ H := mv_view Vw.at_T Vw.at_fs
  cases b with
  | false => exact w.frs d fi h
  | true =>
    have h : (V.fr ++ [⟨env, σ⟩])[d]? = some fi := h
    by_cases hl : d < V.fr.length
    · rw [List.getElem?_append_left hl] at h
      exact (w.frs d fi h).mv M
    · rw [List.getElem?_append_right (by omega)] at h
      have e : d - V.fr.length = 0 := by
        have := (List.getElem?_eq_some_iff.mp h).1
        simp at this
        omega
      rw [e] at h
      cases h
      exact er.mv M
/-- back: what waited ahead of it waits still -/
theorem Wd.unV {ρ0 : Rho} {H0 : Hp} {st0 : Sto} {b : Bool} (w : Wd K mg (V.at b env σ) ρ st H) (w0 : Wd K mg V ρ0 st0 H0) (e : Ext ρ0 H0 ρ H) : Wd K mg V ρ st H :=
  w.view Vw.at_T.symm Vw.at_fs.symm Vw.at_tb.symm fun d fi h => (w0.frs d fi h).ext e
theorem mv_un {b : Bool} : Mv K (V.at b env σ) ρ H V ρ H := mv_view Vw.at_T.symm Vw.at_fs.symm
end

/-! ### what is wanted behind a step -/
/-- an exception of the class c that keeps v -/
def ExR (K : PySem.W.Frag) (mg : Str → Option Value) (V : Vw) (ρ : Rho) (H : Hp) (c : Nat) (v : Option D) (cls : Value) (dd : Option Addr) : Prop :=
  ∃ k C xi, V.T.cls[c]? = some k ∧ mg k.name = some (.ref C) ∧ cls = .ref C ∧ k.exc = some xi ∧
    ∀ d, v = some d → ∃ f a x, xi.fld = some f ∧ dd = some a ∧ H a = some (.xd [(V.att f, x)]) ∧ Out ρ a ∧ Rep K mg V ρ H d x

section
variable {α β γ δ : Type}
def Post (K : PySem.W.Frag) (mg : Str → Option Value) (V : Vw) (W : WX) (σ : St) (ρ : Rho) (H : Hp) (R : Rho → Hp → α → β → Prop) (r : Res α) (Q : β → Hp → Prop) : Prop :=
  match r with
  | .ok d st' => ∀ v H' ρ', Ext ρ H ρ' H' → Wd K mg V ρ' st' H' → R ρ' H' d v → Q v H'
  | .exc c x st' => ∀ cls dd H' ρ', Ext ρ H ρ' H' → Wd K mg V ρ' st' H' → ExR K mg V ρ' H' c x cls dd → W cls dd σ H'
  | .stuck => False
/-- the reading of something that the interpreter runs -/
def Rdg (K : PySem.W.Frag) (mg : Str → Option Value) (V : Vw) (W : WX) (R : Rho → Hp → α → β → Prop) (f : Env → Sto → Res α) : St → Hp → (β → Hp → Prop) → Prop :=
  fun σ H Q => ∃ ρ env st, EnvRep K mg V ρ H env σ ∧ Wd K mg V ρ st H ∧ Post K mg V W σ ρ H R (f env st) Q
variable {K : PySem.W.Frag} {mg : Str → Option Value} {V : Vw} {W : WX} {σ : St} {ρ ρ' : Rho} {H H' : Hp} {R : Rho → Hp → α → β → Prop} {R' : Rho → Hp → γ → δ → Prop} {st : Sto} {env : Env}
theorem Post.ext {r : Res α} {Q : β → Hp → Prop} (e : Ext ρ H ρ' H') (h : Post K mg V W σ ρ H R r Q) : Post K mg V W σ ρ' H' R r Q := by
  cases r with
  | ok d st => exact fun v H2 ρ2 e2 => h v H2 ρ2 (e.trans e2)
  | exc c fs st => exact fun c d H2 ρ2 e2 => h c d H2 ρ2 (e.trans e2)
  | stuck => exact h
theorem Post.ok {a : α} {Q : β → Hp → Prop} {v : β} (h : Post K mg V W σ ρ H R (.ok a st) Q) (e : Ext ρ H ρ' H') (w : Wd K mg V ρ' st H') (r : R ρ' H' a v) : Q v H' := h v H' ρ' e w r
theorem Post.here {a : α} {Q : β → Hp → Prop} {v : β} (h : Post K mg V W σ ρ H R (.ok a st) Q) (w : Wd K mg V ρ st H) (r : R ρ H a v) : Q v H := h v H ρ (Ext.refl ρ H) w r
/-- one step, then the rest -/
theorem Rdg.bind {f : Env → Sto → Res α} {g : α → Sto → Res γ} {Q : δ → Hp → Prop} (er : EnvRep K mg V ρ H env σ) (w : Wd K mg V ρ st H) (h : Post K mg V W σ ρ H R' ((f env st).bind g) Q) :
    Rdg K mg V W R f σ H fun v H1 => ∃ ρ1 a st1, Ext ρ H ρ1 H1 ∧ EnvRep K mg V ρ1 H1 env σ ∧ Wd K mg V ρ1 st1 H1 ∧ R ρ1 H1 a v ∧ Post K mg V W σ ρ1 H1 R' (g a st1) Q := by
  refine ⟨ρ, env, st, er, w, ?_⟩
  cases e : f env st with
  | ok d st' =>
    rw [e] at h
    exact fun v H1 ρ1 e1 w1 r1 => ⟨ρ1, d, st', e1, er.ext e1, w1, r1, Post.ext e1 h⟩
  | exc c fs st' =>
    rw [e] at h
    exact h
  | stuck =>
    rw [e] at h
    exact h
theorem Rdg.of {f : Env → Sto → Res α} {Q : β → Hp → Prop} (er : EnvRep K mg V ρ H env σ) (w : Wd K mg V ρ st H) (h : Post K mg V W σ ρ H R (f env st) Q) : Rdg K mg V W R f σ H Q := ⟨ρ, env, st, er, w, h⟩
theorem Post.mono {r : Res α} {Q Q' : β → Hp → Prop} (h : Post K mg V W σ ρ H R r Q) (hq : ∀ v H', Q v H' → Q' v H') : Post K mg V W σ ρ H R r Q' := by
  cases r with
  | ok d st => exact fun v H2 ρ2 e2 w r => hq _ _ (h v H2 ρ2 e2 w r)
  | exc c fs st => exact h
  | stuck => exact h
end

def PostS (K : PySem.W.Frag) (mg : Str → Option Value) (V : Vw) (W : WX) (ρ : Rho) (H : Hp) (r : SR) (D : Ends) : Prop :=
  match r with
  | .next env st => ∀ σ' H' ρ', Ext ρ H ρ' H' → Wd K mg V ρ' st H' → EnvRep K mg V ρ' H' env σ' → D.nx σ' H'
  | .ret d st => ∀ v H' ρ', Ext ρ H ρ' H' → Wd K mg V ρ' st H' → Rep K mg V ρ' H' d v → D.rt v H'
  | .brk env st => ∀ σ' H' ρ', Ext ρ H ρ' H' → Wd K mg V ρ' st H' → EnvRep K mg V ρ' H' env σ' → D.bk σ' H'
  | .cont env st => ∀ σ' H' ρ', Ext ρ H ρ' H' → Wd K mg V ρ' st H' → EnvRep K mg V ρ' H' env σ' → D.ct σ' H'
  | .exc c fs env st => ∀ cls dd σ' H' ρ', Ext ρ H ρ' H' → Wd K mg V ρ' st H' → EnvRep K mg V ρ' H' env σ' → ExR K mg V ρ' H' c fs cls dd → W cls dd σ' H'
  | .stuck => False
def RdS (K : PySem.W.Frag) (mg : Str → Option Value) (V : Vw) (W : WX) (f : Env → Sto → SR) : TS := fun D σ H => ∃ ρ env st, EnvRep K mg V ρ H env σ ∧ Wd K mg V ρ st H ∧ PostS K mg V W ρ H (f env st) D
section
variable {α β : Type} {K : PySem.W.Frag} {mg : Str → Option Value} {V : Vw} {W : WX} {σ : St} {ρ ρ' : Rho} {H H' : Hp} {R : Rho → Hp → α → β → Prop} {st : Sto} {env : Env} {D : Ends}
theorem PostS.ext {r : SR} (e : Ext ρ H ρ' H') (h : PostS K mg V W ρ H r D) : PostS K mg V W ρ' H' r D := by
  cases r with
  | next env st => exact fun σ2 H2 ρ2 e2 => h σ2 H2 ρ2 (e.trans e2)
  | ret d st => exact fun v H2 ρ2 e2 => h v H2 ρ2 (e.trans e2)
  | brk env st => exact fun σ2 H2 ρ2 e2 => h σ2 H2 ρ2 (e.trans e2)
  | cont env st => exact fun σ2 H2 ρ2 e2 => h σ2 H2 ρ2 (e.trans e2)
  | exc c fs env st => exact fun c d σ2 H2 ρ2 e2 => h c d σ2 H2 ρ2 (e.trans e2)
  | stuck => exact h
theorem RdS.of {f : Env → Sto → SR} (er : EnvRep K mg V ρ H env σ) (w : Wd K mg V ρ st H) (h : PostS K mg V W ρ H (f env st) D) : RdS K mg V W f D σ H := ⟨ρ, env, st, er, w, h⟩
/-- an expression ahead of what a statement does with it -/
theorem Rdg.run {f : Env → Sto → Res α} {g : α → Sto → SR} (er : EnvRep K mg V ρ H env σ) (w : Wd K mg V ρ st H) (h : PostS K mg V W ρ H ((f env st).run env g) D) :
    Rdg K mg V W R f σ H fun v H1 => ∃ ρ1 a st1, Ext ρ H ρ1 H1 ∧ EnvRep K mg V ρ1 H1 env σ ∧ Wd K mg V ρ1 st1 H1 ∧ R ρ1 H1 a v ∧ PostS K mg V W ρ1 H1 (g a st1) D := by
  refine ⟨ρ, env, st, er, w, ?_⟩
  cases e : f env st with
  | ok d st' =>
    rw [e] at h
    exact fun v H1 ρ1 e1 w1 r1 => ⟨ρ1, d, st', e1, er.ext e1, w1, r1, PostS.ext e1 h⟩
  | exc c fs st' =>
    rw [e] at h
    exact fun cls dd H1 ρ1 e1 w1 x => h cls dd σ H1 ρ1 e1 w1 (er.ext e1) x
  | stuck =>
    rw [e] at h
    exact h
end
end Mu

end
section
set_option linter.all false
set_option Elab.async false
set_option maxRecDepth 100000
set_option maxHeartbeats 4000000
/-! tuple * int, of every kind. -/
namespace Mu
open PySem PySem.Spec PyProof.Rows L2
theorem iteN {c : Prop} [Decidable c] {M : Model} {A : Around} {α : Type} {x y : Sem α} {Q : α → Shared → Prop} {E : Value → Shared → Prop} {s : Shared} (h : ¬ c) (q : wpAny M A y Q E s) : wpAny M A (if c then x else y) Q E s := by rw [if_neg h]; exact q
theorem iteY {c : Prop} [Decidable c] {M : Model} {A : Around} {α : Type} {x y : Sem α} {Q : α → Shared → Prop} {E : Value → Shared → Prop} {s : Shared} (h : c) (q : wpAny M A x Q E s) : wpAny M A (if c then x else y) Q E s := by rw [if_pos h]; exact q
theorem tmul_self (l : Addr) (xs : Array Value) (n : Nat) (dd : Option Addr) (sl : Array (Option Value)) (x : Int) (u : Tok) (c0 : ¬ (decide (x < -(2 ^ 63)) || decide (x ≥ 2 ^ 63)) = true) (c1 : (xs.isEmpty || x == 1) = true) :
    Meets (Builtin.«tuple.__mul__» ⟨[.ref l, .int x u], []⟩) (fun _ R s => s.heap.get? l = some { cls := .type "tuple", dict := dd, data := .seq xs n, slots := sl } ∧ R (.ok (.ret (Value.ref l))) s) :=
  .of_wp fun P w A R s h => by
    obtain ⟨hp, g, d, tk, os⟩ := s
    obtain ⟨e, h⟩ := h
    have f0 := AutoSeq1.idx_int
    wp_walk using wpAny_loadPart' e
    refine iteN c0 ?_
    wp_walk using wpAny_loadPart' e
    exact ⟨_, rfl, h⟩
theorem tmul_none (l : Addr) (xs : Array Value) (n : Nat) (dd : Option Addr) (sl : Array (Option Value)) (x : Int) (u : Tok) (c0 : ¬ (decide (x < -(2 ^ 63)) || decide (x ≥ 2 ^ 63)) = true) (c1 : ¬ (xs.isEmpty || x == 1) = true) (c2 : (decide (x ≤ 0) || xs.isEmpty) = true) :
    Meets (Builtin.«tuple.__mul__» ⟨[.ref l, .int x u], []⟩) (fun _ R s => s.heap.get? l = some { cls := .type "tuple", dict := dd, data := .seq xs n, slots := sl } ∧
      R (.ok (.ret (Value.ref s.heap.objs.size))) { s with heap := s.heap.push { cls := .type "tuple", data := .seq #[] } }) :=
  .of_wp fun P w A R s h => by
    obtain ⟨hp, g, d, tk, os⟩ := s
    obtain ⟨e, h⟩ := h
    have f0 := AutoSeq1.idx_int
    wp_walk using wpAny_loadPart' e
    refine iteN c0 ?_
    wp_walk using wpAny_loadPart' e
    exact ⟨_, rfl, h⟩
def rMulT (K : PySem.W.Frag) : R2 := fun x y H Q => ∃ l k xs, x = .ref l ∧ y = .int k ∧ SqT K H l xs ∧ k.natAbs ≤ 1000 ∧ xs.length ≤ 1000 ∧ ((xs = [] ∨ k = 1) → Q (.ref l) H) ∧
  (xs ≠ [] → k ≠ 1 → ∀ p, H p = none → Q (.ref p) (upd H p (.tup (List.replicate k.toNat xs).flatten)))
theorem op_mulT {X : Cx} : OpR X (binaryOp .Mult) (rMulT X.K) := by
  intro pins s σ H x y v u Q I rx ry h
  obtain ⟨l, k, xs, rfl, rfl, hT, hk, hz, q1, q2⟩ := h
  by_cases big : xs ≠ [] ∧ 2 ≤ k
  · exact op_repT pins s σ H _ _ v u Q I rx ry ⟨l, k, xs, rfl, rfl, hT, big.1, big.2, by omega, hz, q2 big.1 (by omega)⟩
  cases rx
  obtain ⟨t, rfl⟩ := ry
  obtain ⟨its, r, ⟨⟨cls, dd, data, sl⟩, ho, hc, n, hd⟩, hs⟩ := I.tuple hT
  simp only at hc hd
  subst hc hd
  have hle : its.length = xs.length := r.length.symm
  have em : its.toArray.isEmpty = xs.isEmpty := by
    cases its with
    | nil => cases r; rfl
    | cons a b => cases r; rfl
  have c0 : ¬ (decide (k < -(2 ^ 63)) || decide (k ≥ 2 ^ 63)) = true := by
    rw [decide_eq_false (by omega), decide_eq_false (by omega)]
    decide
  refine wpAny_binaryOp_repeat_ref (T := "tuple") (U := "int") (by decide) ⟨_, ho, rfl⟩ (fun s' => typeIs_int s' k t) noFill_tuple_mul F.fills_int_mul F.slot_int_rmul repeat_tuple F.slot_int_index.lookup
    (call_meets F.slot_int_rmul (typeIs_int s k t) F.entry_int_rmul (F.args_int_rmul_2 _ _) (int_rmul_tuple k t l its.toArray n dd sl) ⟨ho, rfl, ⟨_, ho, rfl⟩, ?_⟩)
  by_cases one : xs = [] ∨ k = 1
  · refine call_meets F.slot_tuple_mul ⟨_, ho, rfl⟩ F.entry_tuple_mul (F.args_tuple_mul_2 _ _) (tmul_self l its.toArray n dd sl k t c0 ?_) ⟨ho, ⟨.ref l, H, I, rfl, q1 one⟩⟩
    rw [em]
    rcases one with e | e
    · subst e; rfl
    · subst e; cases xs <;> rfl
  · have hne : xs ≠ [] := fun e => one (.inl e)
    have hk1 : k ≠ 1 := fun e => one (.inr e)
    have k0 : k ≤ 0 := by
      by_cases z : 2 ≤ k
      · exact absurd ⟨hne, z⟩ big
      · omega
    have e0 : xs.isEmpty = false := by
      cases xs with
      | nil => exact absurd rfl hne
      | cons a b => rfl
    refine call_meets F.slot_tuple_mul ⟨_, ho, rfl⟩ F.entry_tuple_mul (F.args_tuple_mul_2 _ _) (tmul_none l its.toArray n dd sl k t c0 (by rw [em, e0]; simpa using hk1) (by simp [k0])) ⟨ho, ?_⟩
    have e1 : (List.replicate k.toNat xs).flatten = [] := by
      have : k.toNat = 0 := by omega
      rw [this]
      rfl
    have q := q2 hne hk1
    rw [e1] at q
    exact ⟨.ref s.heap.objs.size, _, I.laid (t' := s.toks) (o := .tup []) (fun b ob z => Heap.get?_push_of_some _ z) (Nat.le_refl _) ⟨Nat.zero_le _, [], .nil, IsTup.new _ _⟩, rfl, q _ (I.hok.fresh (Nat.le_refl _))⟩
end Mu

end
section
set_option linter.all false
set_option Elab.async false
/-! Operators, comparisons, truth, places, built-ins: what the interpreter says of data is what happens. -/
namespace Mu
open PySem PySem.Spec PyProof.Rows L2

/-- what the context must bear beside the hand layer's own facts -/
structure Ctx (X : Cx) : Prop where
  calm : X.calm = true
  gd : X.A.guards = some []
  seer : X.base.NoSeer
  tree : X.prog.given.tree = none
  plain : ∃ env l, X.A.frames = some (env :: l) ∧ env.scope.isGenerator = false ∧ env.scope.isCoroutine = false ∧ env.builtins = builtinsNs ∧ env.globals = mainGlobals

section
variable {X : Cx} {V : Vw} {ρ : Rho} {H : Hp}
mutual
theorem Rep.dp {K : PySem.W.Frag} {mg : Str → Option Value} {V : Vw} : ∀ {d : D} {v : L2.V}, Rep K mg V ρ H d v → d.plain = true → Dp K H v d.py
  | _, _, .non, _ => by unfold D.py; exact .non
  | _, _, .bl b, _ => by unfold D.py; exact .bl b
  | _, _, .int i, _ => by unfold D.py; exact .int i
  | _, _, .str x, _ => by unfold D.py; exact .str x
  | _, _, .tup t r, h => by unfold D.py; exact .tup t.sq (RepL.dp r (by unfold D.plain at h; exact h))
  | _, _, .lst t r, h => by unfold D.py; exact .lst t.sq (RepL.dp r (by unfold D.plain at h; exact h))
  | _, _, .rol _ _, h => by unfold D.plain at h; cases h
  | _, _, .ty _, h => by unfold D.plain at h; cases h
  | _, _, .fn _ _, h => by unfold D.plain at h; cases h
  | _, _, .cls _ _, h => by unfold D.plain at h; cases h
  | _, _, .ref _ _, h => by unfold D.plain at h; cases h
  | _, _, .dic _ _ _ _, h => by unfold D.plain at h; cases h
  | _, _, .obj _ _ _ _ _ _, h => by unfold D.plain at h; cases h
  | _, _, .clo _ _ _ _ _ _, h => by unfold D.plain at h; cases h
theorem RepL.dp {K : PySem.W.Frag} {mg : Str → Option Value} {V : Vw} : ∀ {ds : List D} {vs : List L2.V}, RepL K mg V ρ H ds vs → D.plains ds = true → DpAll K H vs (D.pys ds)
  | _, _, .nil, _ => by unfold D.pys; exact .nil
  | _, _, .cons h t, q => by
    unfold D.plains at q
    rw [Bool.and_eq_true] at q
    unfold D.pys
    exact .cons (Rep.dp h q.1) (RepL.dp t q.2)
end
/-- a value, or a list of the store that is read -/
inductive RepW (K : PySem.W.Frag) (mg : Str → Option Value) (V : Vw) (ρ : Rho) (H : Hp) : D → L2.V → Prop
  | of {d : D} {v : L2.V} : Rep K mg V ρ H d v → RepW K mg V ρ H d v
  | lst {ds : List D} {a : Addr} {xs : List L2.V} : H a = some (.lst xs) → RepL K mg V ρ H ds xs → RepW K mg V ρ H (.lst ds) (.ref a)
section
variable {K : PySem.W.Frag} {mg : Str → Option Value} {V : Vw} {st : Sto}
theorem RepW.inv {ds : List D} {v : L2.V} (r : RepW K mg V ρ H (.lst ds) v) : ∃ a xs, v = .ref a ∧ H a = some (.lst xs) ∧ RepL K mg V ρ H ds xs := by
  cases r with
  | of r => cases r with | lst t r => exact ⟨_, _, rfl, t.1, r⟩
  | lst h r => exact ⟨_, _, rfl, h, r⟩
theorem RepW.rep {d : D} {v : L2.V} (r : RepW K mg V ρ H d v) (h : ∀ ds, d ≠ .lst ds) : Rep K mg V ρ H d v := by
  cases r with
  | of r => exact r
  | lst _ _ => exact absurd rfl (h _)
theorem RepW.dp {d : D} {v : L2.V} (r : RepW K mg V ρ H d v) (h : d.plain = true) : Dp K H v d.py := by
  cases r with
  | of r => exact r.dp h
  | lst e r =>
    unfold D.py
    exact .lst (SqL.of e) (RepL.dp r (by unfold D.plain at h; exact h))
theorem see_of {d : D} {v : L2.V} (w : Wd K mg V ρ st H) (r : Rep K mg V ρ H d v) : RepW K mg V ρ H (st.see d) v := by
  cases r with
  | @ref i a oa h q =>
    unfold Sto.see
    simp only
    split
    · rename_i xs e
      obtain ⟨_, ys, h1, h2⟩ := w.spoken h q e (by intro z; cases z)
      exact .lst h1 h2
    · exact .of (.ref h q)
  | non => exact .of .non
  | bl b => exact .of (.bl b)
  | int i => exact .of (.int i)
  | str x => exact .of (.str x)
  | ty t => exact .of (.ty t)
  | fn a b => exact .of (.fn a b)
  | cls a b => exact .of (.cls a b)
  | tup a b => exact .of (.tup a b)
  | lst a b => exact .of (.lst a b)
  | rol a b => exact .of (.rol a b)
  | dic a b c d => exact .of (.dic a b c d)
  | obj a b c d e f => exact .of (.obj a b c d e f)
  | clo a b c d e f => exact .of (.clo a b c d e f)
end
theorem mulOk_ok {i j : Int} (h : mulOk i j = true) : IntMulOk i j := by
  have h3 := of_decide_eq_true h
  have b : ∀ x : Int, Builtin.Int.intBits x ≤ x.natAbs.log2 + 1 := fun x => by
    unfold Builtin.Int.intBits
    split <;> omega
  have h1 := b i
  have h2 := b j
  unfold IntMulOk
  intro z
  have z2 := (Bool.and_eq_true_iff.mp z).2
  unfold Builtin.Int.intTooBig at z2
  have z3 := of_decide_eq_true z2
  have e : bitsLine = 134217728 := by decide
  omega
theorem op_mulX : OpR X (binaryOp .Mult) (rI (fun i j => mulOk i j = true) fun i j => .int (i * j)) := opI fun _ _ _ _ _ _ _ hc q => mul_int q (mulOk_ok hc)
theorem op_powX : OpR X (binaryOp .Pow) (rI (fun i j => powOk i j = true) fun i j => .int (i ^ j.toNat)) := opI fun _ _ _ _ _ _ _ hc q => by
  unfold powOk at hc
  rw [Bool.and_eq_true] at hc
  exact PyProof.Rows.pow_int (of_decide_eq_true hc.1) (of_decide_eq_true hc.2) q
theorem Ctx.pylong {σ : L2.St} {pins : List (Addr × Obj)} {s : Shared} (G : Ctx X) {k : Nat} (hr : Room k X.A) (hk : 40 ≤ k) (I : Inv X pins σ H s) : PySem.PylongRoom (model X.prog X.w) X.A s := by
  obtain ⟨env, l, h1, h2, h3, h4, h5⟩ := G.plain
  have hd := hr.dp
  exact PySem.PylongRoom.of I.nolimit (by show X.A.depth + 100 < _; omega) (PySem.SeerAt.of (G.seer.keeps I.bk) G.tree h1 h2 h3 h4 h5)
theorem op_fdivX (G : Ctx X) {k : Nat} (hr : Room k X.A) (hk : 40 ≤ k) : OpR X (binaryOp .FloorDiv) (rI (fun _ j => j ≠ 0) fun i j => .int (i.fdiv j)) := by
  intro pins s σ H x y v u Q I rx ry h
  obtain ⟨i, j, rfl, rfl, hc, q⟩ := h
  obtain ⟨t, rfl⟩ := rx
  obtain ⟨t', rfl⟩ := ry
  exact PyProof.Rows.floordiv_int hc ⟨.int (i.fdiv j), H, I.tok _, ⟨_, rfl⟩, q⟩ (.inr (G.pylong hr hk I))

section
variable {K : PySem.W.Frag} {mg : Str → Option Value} {V : Vw} {st : Sto}
theorem RepW.int_inv {i : Int} {v : L2.V} (r : RepW K mg V ρ H (.int i) v) : v = .int i := by
  cases r.rep (by intro ds z; cases z)
  rfl
theorem RepW.str_inv {x : Str} {v : L2.V} (r : RepW K mg V ρ H (.str x) v) : v = .str x := by
  cases r.rep (by intro ds z; cases z)
  rfl
theorem RepW.non_inv {v : L2.V} (r : RepW K mg V ρ H .non v) : v = .non := by
  cases r.rep (by intro ds z; cases z)
  rfl
theorem RepW.bl_inv {b : Bool} {v : L2.V} (r : RepW K mg V ρ H (.bl b) v) : v = .bl b := by
  cases r.rep (by intro ds z; cases z)
  rfl
theorem RepW.tup_inv {ds : List D} {v : L2.V} (r : RepW K mg V ρ H (.tup ds) v) : ∃ a xs, v = .ref a ∧ TupAt K ρ H a xs ∧ RepL K mg V ρ H ds xs := by
  have r' := r.rep (by intro ds z; cases z)
  cases r' with
  | tup t r2 => exact ⟨_, _, rfl, t, r2⟩
theorem repl_nil_iff {ds : List D} {vs : List L2.V} (r : RepL K mg V ρ H ds vs) : vs = [] ↔ ds = [] := by
  cases r with
  | nil => exact ⟨fun _ => rfl, fun _ => rfl⟩
  | cons _ _ => exact ⟨fun z => (by cases z), fun z => (by cases z)⟩
theorem flat_inv {d : D} {v x : L2.V} (r : RepW K mg V ρ H d x) (h : flatD d = some v) : x = v ∧ flatV v = true := by
  cases d with
  | non => cases h; exact ⟨r.non_inv, rfl⟩
  | bl b =>
    cases h
    cases r.rep (by intro ds z; cases z)
    exact ⟨rfl, rfl⟩
  | int i => cases h; exact ⟨r.int_inv, rfl⟩
  | str y => cases h; exact ⟨r.str_inv, rfl⟩
  | _ => cases h
theorem flats_inv : ∀ {ds : List D} {vs xs : List L2.V}, RepL K mg V ρ H ds xs → flatsD ds = some vs → xs = vs ∧ vs.all flatV = true
  | [], vs, xs, r, h => by
    cases r
    cases h
    exact ⟨rfl, rfl⟩
  | d :: ds, vs, xs, r, h => by
    cases r with
    | @cons _ x _ xs r1 r2 =>
      unfold flatsD at h
      split at h
      · rename_i v ws h1 h2
        cases h
        obtain ⟨e1, f1⟩ := flat_inv (.of r1) h1
        obtain ⟨e2, f2⟩ := flats_inv r2 h2
        subst e1
        subst e2
        exact ⟨rfl, by rw [List.all_cons, f1, f2]; rfl⟩
      · cases h
end
/-- the reading of an operation that makes data -/
def rBin (K : PySem.W.Frag) (mg : Str → Option Value) (V : Vw) (f : D → D → Option D) : R2 := fun x y H Q =>
  ∃ ρ st d e z, Wd K mg V ρ st H ∧ RepW K mg V ρ H d x ∧ RepW K mg V ρ H e y ∧ f d e = some z ∧ ∀ v H', Ext ρ H ρ H' → Wd K mg V ρ st H' → Rep K mg V ρ H' z v → Q v H'
theorem op_bin (G : Ctx X) {k : Nat} (hr : Room k X.A) (o : Operator) : OpR X (binaryOp o) (rBin X.K X.mg V (binD k o)) := by
  intro pins s σ H x y v u Q I rx ry h
  obtain ⟨ρ, st, d, e, z, w, r1, r2, hz, q⟩ := h
  cases o with
  | Add =>
    unfold binD at hz
    simp only at hz
    split at hz
    · rename_i i j
      cases hz
      obtain rfl := r1.int_inv
      obtain rfl := r2.int_inv
      exact op_add pins s σ H _ _ v u Q I rx ry ⟨i, j, rfl, rfl, q _ _ (Ext.refl _ _) w (.int _)⟩
    · rename_i a b
      split at hz
      · rename_i hl
        cases hz
        obtain rfl := r1.str_inv
        obtain rfl := r2.str_inv
        exact op_add_str pins s σ H _ _ v u Q I rx ry ⟨a, b, rfl, rfl, hl, q _ _ (Ext.refl _ _) w (.str _)⟩
      · cases hz
    · rename_i ds es
      split at hz
      · rename_i hl
        cases hz
        obtain ⟨a, xs, rfl, t, r⟩ := r1.tup_inv
        obtain ⟨b, ys, rfl, t', r'⟩ := r2.tup_inv
        have l1 := r.length
        have l2 := r'.length
        refine op_catA pins s σ H _ _ v u Q I rx ry ⟨a, b, xs, ys, rfl, rfl, t.sq, t'.sq, by omega, fun e => ?_, fun _ e => ?_, fun _ _ p hp => ?_⟩
        · have e' := (repl_nil_iff r).mp e
          subst e'
          exact q _ _ (Ext.refl _ _) w (.tup t' r')
        · have e' := (repl_nil_iff r').mp e
          subst e'
          rw [List.append_nil] at q
          exact q _ _ (Ext.refl _ _) w (.tup t r)
        · exact q _ _ (Ext.fresh hp) (w.new hp) (.tup (.inl ⟨.inl upd_same, w.fresh hp⟩) ((r.append r').ext (Ext.fresh hp)))
      · cases hz
    · rename_i ds es
      split at hz
      · rename_i hl
        cases hz
        obtain ⟨a, xs, rfl, t, r⟩ := r1.inv
        obtain ⟨b, ys, rfl, t', r'⟩ := r2.inv
        have l1 := r.length
        have l2 := r'.length
        refine op_cat pins s σ H _ _ v u Q I rx ry ⟨a, b, xs, ys, rfl, rfl, t, t', by omega, fun p hp => ?_⟩
        exact q _ _ (Ext.fresh hp) (w.new hp) (.lst ⟨upd_same, w.fresh hp⟩ ((r.append r').ext (Ext.fresh hp)))
      · cases hz
    · cases hz
  | Sub =>
    unfold binD at hz
    simp only at hz
    split at hz
    · rename_i i j
      cases hz
      obtain rfl := r1.int_inv
      obtain rfl := r2.int_inv
      exact op_sub pins s σ H _ _ v u Q I rx ry ⟨i, j, rfl, rfl, q _ _ (Ext.refl _ _) w (.int _)⟩
    · cases hz
  | Mult =>
    unfold binD at hz
    simp only at hz
    split at hz
    · rename_i i j
      split at hz
      · rename_i hm
        cases hz
        obtain rfl := r1.int_inv
        obtain rfl := r2.int_inv
        exact op_mulX pins s σ H _ _ v u Q I rx ry ⟨i, j, rfl, rfl, hm, q _ _ (Ext.refl _ _) w (.int _)⟩
      · cases hz
    · rename_i ds j
      split at hz
      · rename_i hb
        rw [Bool.and_eq_true, decide_eq_true_eq, decide_eq_true_eq] at hb
        cases hz
        obtain ⟨a, xs, rfl, t, r⟩ := r1.tup_inv
        obtain rfl := r2.int_inv
        have l1 := r.length
        refine op_mulT pins s σ H _ _ v u Q I rx ry ⟨a, j, xs, rfl, rfl, t.sq, hb.1, by omega, fun e => ?_, fun _ _ p hp => ?_⟩
        · refine q _ _ (Ext.refl _ _) w (.tup t ?_)
          have e1 : repL ds j.toNat = ds := by
            rcases e with e | e
            · have e' := (repl_nil_iff r).mp e
              subst e'
              have aux : ∀ n, repL [] n = [] := fun n => by
                induction n with
                | zero => rfl
                | succ n ih => unfold repL; rw [ih]; rfl
              exact aux _
            · subst e
              show ds ++ [] = ds
              rw [List.append_nil]
          rw [e1]
          exact r
        · exact q _ _ (Ext.fresh hp) (w.new hp) (.tup (.inl ⟨.inl upd_same, w.fresh hp⟩) ((r.rep _).ext (Ext.fresh hp)))
      · cases hz
    · rename_i ds j
      split at hz
      · rename_i hb
        rw [Bool.and_eq_true, decide_eq_true_eq, decide_eq_true_eq] at hb
        cases hz
        obtain ⟨a, xs, rfl, t, r⟩ := r1.inv
        obtain rfl := r2.int_inv
        have l1 := r.length
        have hm : xs.length * j.toNat ≤ 1000 * 1000 := Nat.mul_le_mul (by omega) (by omega)
        refine op_rep pins s σ H _ _ v u Q I rx ry ⟨a, j, xs, rfl, rfl, t, by omega, by omega, by rw [sizeLine_eq]; omega, fun p hp => ?_⟩
        exact q _ _ (Ext.fresh hp) (w.new hp) (.lst ⟨upd_same, w.fresh hp⟩ ((r.rep _).ext (Ext.fresh hp)))
      · cases hz
    · cases hz
  | FloorDiv =>
    unfold binD at hz
    simp only at hz
    split at hz
    · rename_i i j
      split at hz
      · cases hz
      · rename_i hj
        split at hz
        · rename_i hk
          cases hz
          obtain rfl := r1.int_inv
          obtain rfl := r2.int_inv
          exact op_fdivX G hr hk pins s σ H _ _ v u Q I rx ry ⟨i, j, rfl, rfl, hj, q _ _ (Ext.refl _ _) w (.int _)⟩
        · cases hz
    · cases hz
  | Mod =>
    unfold binD at hz
    simp only at hz
    split at hz
    · rename_i i j
      split at hz
      · cases hz
      · rename_i hj
        cases hz
        obtain rfl := r1.int_inv
        obtain rfl := r2.int_inv
        exact op_modN pins s σ H _ _ v u Q I rx ry ⟨i, j, rfl, rfl, hj, q _ _ (Ext.refl _ _) w (.int _)⟩
    · cases hz
  | Pow =>
    unfold binD at hz
    simp only at hz
    split at hz
    · rename_i i j
      split at hz
      · rename_i hm
        cases hz
        obtain rfl := r1.int_inv
        obtain rfl := r2.int_inv
        exact op_powX pins s σ H _ _ v u Q I rx ry ⟨i, j, rfl, rfl, hm, q _ _ (Ext.refl _ _) w (.int _)⟩
      · cases hz
    · cases hz
  | _ => cases hz

/-- the reading of a comparison -/
def rCmp (K : PySem.W.Frag) (mg : Str → Option Value) (V : Vw) (f : D → D → Option Bool) : R2 := fun x y H Q =>
  ∃ ρ d e c, RepW K mg V ρ H d x ∧ RepW K mg V ρ H e y ∧ f d e = some c ∧ Q (.bl c) H
theorem eqD_split {x y : D} {c : Bool} (h : eqD x y = some c) : (∃ a b, x = .str a ∧ y = .str b ∧ c = decide (a = b)) ∨ (x.plain = true ∧ y.plain = true ∧ SeqAt.shaped x.py = true ∧ SeqAt.shaped y.py = true ∧ c = PyData.eqv x.py y.py) := by
  unfold eqD dataOk at h
  split at h
  · cases h
    exact .inl ⟨_, _, rfl, rfl, rfl⟩
  split at h
  · rename_i q
    simp only [Bool.and_eq_true] at q
    cases h
    exact .inr ⟨q.1.1, q.2.1, q.1.2, q.2.2, rfl⟩
  · cases h
theorem dec_strs {a b : Str} : decide (L2.V.str a = L2.V.str b) = decide (a = b) := by simp
theorem isNon_dec {K : PySem.W.Frag} {mg : Str → Option Value} {V : Vw} {d : D} {x : L2.V} (r : RepW K mg V ρ H d x) : isNon d = decide (x = .non) := by
  cases r with
  | of r => cases r <;> simp [isNon]
  | lst _ _ => simp [isNon]
theorem ord_cases {o : CmpOp} {d e : D} {c : Bool} (ho : o = .Lt ∨ o = .LtE ∨ o = .Gt ∨ o = .GtE) (h : cmpD o d e = some c) : (∃ i j, d = .int i ∧ e = .int j) ∨ ∃ a b, d = .str a ∧ e = .str b := by
  rcases ho with rfl | rfl | rfl | rfl <;> unfold cmpD at h <;> simp only at h <;> split at h <;> first | exact .inl ⟨_, _, rfl, rfl⟩ | exact .inr ⟨_, _, rfl, rfl⟩ | cases h
theorem op_ord {o : CmpOp} {k : Nat} (ho : o = .Lt ∨ o = .LtE ∨ o = .Gt ∨ o = .GtE)
    (h1 : ∀ (i j : Int) (t u : Tok) (Q : Value → Shared → Prop) (s : Shared) (c : Bool), cmpD o (.int i) (.int j) = some c → Q (.bool c) s → wpAny (model X.prog X.w) X.A (compareOp o (.int i t) (.int j u)) Q X.xe s)
    (h2 : ∀ (i j : Str) (t u : Tok) (pins : List (Addr × Obj)) (s : Shared) (σ : L2.St) (H : Hp) (Q : VK) (c : Bool), Inv X pins σ H s → cmpD o (.str i) (.str j) = some c → Q (.bl c) H → wpAny (model X.prog X.w) X.A (compareOp o (.str i t) (.str j u)) (EP X pins σ Q) X.xe s) :
    OpR X (compareOp o) (rCmp X.K X.mg V (cmpD o)) := by
  intro pins s σ H x y v u Q I rx ry h
  obtain ⟨ρ, d, e, c, r1, r2, hc, q⟩ := h
  rcases ord_cases ho hc with ⟨i, j, rfl, rfl⟩ | ⟨a, b, rfl, rfl⟩
  · obtain rfl := r1.int_inv
    obtain rfl := r2.int_inv
    obtain ⟨t, rfl⟩ := rx
    obtain ⟨t', rfl⟩ := ry
    exact h1 i j t t' _ s c hc ⟨.bl _, H, I, rfl, q⟩
  · obtain rfl := r1.str_inv
    obtain rfl := r2.str_inv
    obtain ⟨t, rfl⟩ := rx
    obtain ⟨t', rfl⟩ := ry
    exact h2 a b t t' pins s σ H Q c I hc q
theorem inStr_eq (a b : Str) : inStr a b = !(Builtin.Str.occurrences b a 0 b.length 1).isEmpty := by
  unfold inStr
  split
  · rename_i c h
    have e : a = ⟨#[c]⟩ := by
      obtain ⟨⟨l⟩⟩ := a
      have h : l = [c] := h
      rw [h]
    rw [e, StrLaws.found_one, Bool.eq_iff_iff, List.any_eq_true, decide_eq_true_eq]
    exact ⟨fun ⟨d, m, z⟩ => by rw [← eq_of_beq z]; exact m, fun m => ⟨c, m, beq_self_eq_true c⟩⟩
  · rfl
theorem in_cases {d e : D} {c : Bool} (h : inD d e = some c) : (∃ a b, d = .str a ∧ e = .str b ∧ c = !(Builtin.Str.occurrences b a 0 b.length 1).isEmpty) ∨ ∃ v vs, flatD d = some v ∧ c = L2.inV v vs ∧ ∃ ys, flatsD ys = some vs ∧ (e = .tup ys ∨ e = .lst ys) := by
  have sq : ∀ ys, inSeq d ys = some c → ∃ v vs, flatD d = some v ∧ c = L2.inV v vs ∧ flatsD ys = some vs := fun ys h => by
    unfold inSeq at h
    split at h
    · rename_i v vs h1 h2
      cases h
      exact ⟨v, vs, h1, rfl, h2⟩
    · cases h
  unfold inD at h
  split at h
  · split at h
    · cases h
      exact .inl ⟨_, _, rfl, rfl, inStr_eq _ _⟩
    · cases h
  · obtain ⟨v, vs, h1, h2, h3⟩ := sq _ h
    exact .inr ⟨v, vs, h1, h2, _, h3, .inl rfl⟩
  · obtain ⟨v, vs, h1, h2, h3⟩ := sq _ h
    exact .inr ⟨v, vs, h1, h2, _, h3, .inr rfl⟩
  · cases h
theorem seq_inv {K : PySem.W.Frag} {mg : Str → Option Value} {V : Vw} {e : D} {y : L2.V} {ys : List D} {vs : List L2.V} (r : RepW K mg V ρ H e y) (h : flatsD ys = some vs) (he : e = .tup ys ∨ e = .lst ys) : ∃ p, y = .ref p ∧ (SqL K H p vs ∨ SqT K H p vs) ∧ vs.all flatV = true := by
  rcases he with rfl | rfl
  · obtain ⟨a, xs, rfl, t, r⟩ := r.tup_inv
    obtain ⟨rfl, f⟩ := flats_inv r h
    exact ⟨a, rfl, .inr t.sq, f⟩
  · obtain ⟨a, xs, rfl, t, r⟩ := r.inv
    obtain ⟨rfl, f⟩ := flats_inv r h
    exact ⟨a, rfl, .inl (SqL.of t), f⟩
theorem op_cmp {k : Nat} (hr : Room k X.A) (o : CmpOp) : OpR X (compareOp o) (rCmp X.K X.mg V (cmpD o)) := by
  cases o with
  | Eq =>
    intro pins s σ H x y v u Q I rx ry h
    obtain ⟨ρ, d, e, c, r1, r2, hc, q⟩ := h
    rcases eqD_split hc with ⟨a, b, rfl, rfl, rfl⟩ | ⟨p1, p2, s1, s2, rfl⟩
    · obtain rfl := r1.str_inv
      obtain rfl := r2.str_inv
      exact op_eq pins s σ H _ _ v u Q I rx ry ⟨rfl, by rw [dec_strs]; exact q⟩
    exact op_eqD hr.units pins s σ H x y v u Q I rx ry ⟨_, _, r1.dp p1, r2.dp p2, s1, s2, q⟩
  | NotEq =>
    intro pins s σ H x y v u Q I rx ry h
    obtain ⟨ρ, d, e, c, r1, r2, hc, q⟩ := h
    unfold cmpD at hc
    cases he : eqD d e with
    | none => simp only [he] at hc; cases hc
    | some b =>
      simp only [he, Option.map_some] at hc
      cases hc
      rcases eqD_split he with ⟨a, b, rfl, rfl, rfl⟩ | ⟨p1, p2, s1, s2, rfl⟩
      · obtain rfl := r1.str_inv
        obtain rfl := r2.str_inv
        exact op_ne pins s σ H _ _ v u Q I rx ry ⟨rfl, by rw [dec_strs]; exact q⟩
      exact op_neD hr.units pins s σ H x y v u Q I rx ry ⟨_, _, r1.dp p1, r2.dp p2, s1, s2, q⟩
  | Lt => exact op_ord (k := k) (.inl rfl) (fun i j t u Q s c hc h => by cases hc; exact lt_int h) fun i j t u pins s σ H Q c I hc h => (by cases hc; exact op_lt_str pins s σ H (.str i) (.str j) _ _ Q I ⟨t, rfl⟩ ⟨u, rfl⟩ ⟨i, j, rfl, rfl, h⟩)
  | LtE => exact op_ord (k := k) (.inr (.inl rfl)) (fun i j t u Q s c hc h => by cases hc; exact le_int h) fun i j t u pins s σ H Q c I hc h => (by cases hc; exact op_le_str pins s σ H (.str i) (.str j) _ _ Q I ⟨t, rfl⟩ ⟨u, rfl⟩ ⟨i, j, rfl, rfl, h⟩)
  | Gt => exact op_ord (k := k) (.inr (.inr (.inl rfl))) (fun i j t u Q s c hc h => by cases hc; exact gt_int h) fun i j t u pins s σ H Q c I hc h => by cases hc
  | GtE => exact op_ord (k := k) (.inr (.inr (.inr rfl))) (fun i j t u Q s c hc h => by cases hc; exact ge_int h) fun i j t u pins s σ H Q c I hc h => (by cases hc; exact op_ge_str pins s σ H (.str i) (.str j) _ _ Q I ⟨t, rfl⟩ ⟨u, rfl⟩ ⟨i, j, rfl, rfl, h⟩)
  | Is =>
    intro pins s σ H x y v u Q I rx ry h
    obtain ⟨ρ, d, e, c, r1, r2, hc, q⟩ := h
    unfold cmpD at hc
    simp only at hc
    split at hc
    · cases hc
      obtain rfl := r2.non_inv
      exact op_isN pins s σ H x _ v u Q I rx ry ⟨rfl, by rw [← isNon_dec r1]; exact q⟩
    · split at hc
      · cases hc
        obtain rfl := r1.bl_inv
        obtain rfl := r2.bl_inv
        exact op_isBl pins s σ H _ _ v u Q I rx ry ⟨_, _, rfl, rfl, q⟩
      · cases hc
    · cases hc
  | IsNot =>
    intro pins s σ H x y v u Q I rx ry h
    obtain ⟨ρ, d, e, c, r1, r2, hc, q⟩ := h
    unfold cmpD at hc
    simp only at hc
    split at hc
    · cases hc
      obtain rfl := r2.non_inv
      exact op_notN pins s σ H x _ v u Q I rx ry ⟨rfl, by rw [← isNon_dec r1]; exact q⟩
    · split at hc
      · cases hc
        obtain rfl := r1.bl_inv
        obtain rfl := r2.bl_inv
        exact op_notBl pins s σ H _ _ v u Q I rx ry ⟨_, _, rfl, rfl, q⟩
      · cases hc
    · cases hc
  | In =>
    intro pins s σ H x y v u Q I rx ry h
    obtain ⟨ρ, d, e, c, r1, r2, hc, q⟩ := h
    rcases in_cases (show inD d e = some c from hc) with ⟨a, b, rfl, rfl, rfl⟩ | ⟨z, zs, h1, rfl, ys, h2, he⟩
    · obtain rfl := r1.str_inv
      obtain rfl := r2.str_inv
      exact op_in_str pins s σ H _ _ v u Q I rx ry ⟨a, b, rfl, rfl, q⟩
    · obtain ⟨rfl, f1⟩ := flat_inv r1 h1
      obtain ⟨p, rfl, hs, f2⟩ := seq_inv r2 h2 he
      exact op_in_seq pins s σ H _ _ v u Q I rx ry ⟨p, zs, rfl, hs, f1, f2, q⟩
  | NotIn =>
    intro pins s σ H x y v u Q I rx ry h
    obtain ⟨ρ, d, e, c, r1, r2, hc, q⟩ := h
    have hc : (inD d e).map (!·) = some c := hc
    cases hi : inD d e with
    | none => rw [hi] at hc; cases hc
    | some b =>
      rw [hi] at hc
      cases hc
      rcases in_cases hi with ⟨a, b, rfl, rfl, rfl⟩ | ⟨z, zs, h1, rfl, ys, h2, he⟩
      · obtain rfl := r1.str_inv
        obtain rfl := r2.str_inv
        exact L2.op_notin_str pins s σ H _ _ v u Q I rx ry ⟨a, b, rfl, rfl, q⟩
      · obtain ⟨rfl, f1⟩ := flat_inv r1 h1
        obtain ⟨p, rfl, hs, f2⟩ := seq_inv r2 h2 he
        exact op_notIn_seq pins s σ H _ _ v u Q I rx ry ⟨p, zs, rfl, hs, f1, f2, q⟩
end
end Mu

end
section
set_option linter.all false
set_option Elab.async false
set_option maxRecDepth 100000
/-! enumerate and zip over lists and tuples, in any mix. -/
namespace Mu
open PySem PySem.Spec PyProof.Rows L2

/-- t: a tuple; else a list -/
def SqK (t : Bool) (K : PySem.W.Frag) (H : Hp) (a : Addr) (xs : List V) : Prop := if t then SqT K H a xs else SqL K H a xs
def ItK (t : Bool) (h : Heap) (it a : Addr) (i : Nat) : Prop := if t then h.IsTupleIter it a i else h.IsListIter it a i
def IsK (t : Bool) (h : Heap) (a : Addr) (items : Array Value) : Prop := if t then h.IsTuple a items else h.IsList a items
def itO (t : Bool) (a : Addr) : Obj := if t then { cls := .type "tuple_iterator", data := .fields #[.ref a, .int 0 0] } else { cls := .type "list_iterator", data := .fields #[.ref a, .int 0 0] }
theorem itO_at {t : Bool} {h : Heap} {it a : Addr} (e : h.get? it = some (itO t a)) : ItK t h it a 0 := by
  cases t
  · exact ⟨_, e, rfl, rfl⟩
  · exact ⟨_, e, rfl, rfl⟩
theorem begins_K (t : Bool) (a : Addr) (items : Array Value) : Begins (.ref a) (itO t a) fun h => IsK t h a items := by
  cases t
  · exact begins_list a items
  · exact begins_tuple a items
theorem ItK.obj {t : Bool} {h : Heap} {it a : Addr} {i : Nat} (x : ItK t h it a i) : ∃ o vs, h.get? it = some o ∧ o.data = .fields vs := by
  cases t
  · obtain ⟨o, e, _, d⟩ := x
    exact ⟨o, _, e, d⟩
  · obtain ⟨o, e, _, d⟩ := x
    exact ⟨o, _, e, d⟩
theorem ItK.keep {t : Bool} {h h' : Heap} {it a : Addr} {i : Nat} (x : ItK t h it a i) (k : ∀ o, h.get? it = some o → h'.get? it = some o) : ItK t h' it a i := by
  cases t
  · exact Heap.IsListIter.at x k
  · exact Heap.IsTupleIter.at x k
theorem IsK.obj {t : Bool} {h : Heap} {a : Addr} {items : Array Value} (x : IsK t h a items) : ∃ o n, h.get? a = some o ∧ o.data = .seq items n := by
  cases t
  · obtain ⟨o, e, _, n, d⟩ := x
    exact ⟨o, n, e, d⟩
  · obtain ⟨o, e, _, n, d⟩ := x
    exact ⟨o, n, e, d⟩
theorem IsK.ne {t u : Bool} {h : Heap} {a b it : Addr} {i : Nat} {items : Array Value} (x : IsK t h a items) (y : ItK u h it b i) : a ≠ it := by
  rintro rfl
  obtain ⟨o, n, e, d⟩ := x.obj
  obtain ⟨o', vs, e', d'⟩ := y.obj
  rw [e] at e'
  cases e'
  rw [d] at d'
  cases d'
theorem draws_K {P : Program} {w : World} {A : Around} (t : Bool) (hh : A.handled = none) (it a : Addr) (hne : a ≠ it) (items : Array Value) :
    Draws P w A it [it, a] items.size (fun i v => items[i]? = some v) (fun i h => ItK t h it a i ∧ IsK t h a items) := by
  cases t
  · exact .list hh it a hne items
  · exact .tuple hh it a hne items
section
variable {X : Cx} {pins : List (Addr × Obj)} {σ : L2.St} {H : Hp} {s : Shared} {t : Bool} {a : Addr} {xs ys : List V}
theorem sq_is (I : Inv X pins σ H s) (h : SqK t X.K H a xs) : ∃ its : List Value, Vals xs its ∧ IsK t s.heap a its.toArray ∧ a < s.heap.objs.size := by
  cases t
  · obtain ⟨its, r, p, _⟩ := I.list h
    exact ⟨its, r, p.isList, p.lt⟩
  · obtain ⟨its, r, p, _⟩ := I.tuple h
    exact ⟨its, r, p, p.lt⟩
theorem sq_inj (I : Inv X pins σ H s) (h : SqK t X.K H a xs) (h' : SqK t X.K H a ys) : xs = ys := by
  cases t
  · exact I.list_inj h h'
  · exact I.tuple_inj h h'
end

/-! ### enumerate -/
def IteK (t : Bool) (K : PySem.W.Frag) (a : Addr) : It :=
  ⟨fun i H => ∃ (xs : List V) (x : V), SqK t K H a xs ∧ xs[i]? = some x, fun i H v H' => ∃ T x, v = .ref T ∧ H T = none ∧ H' = upd H T (.tup [.int (i : Nat), x]) ∧ ∀ xs, SqK t K H a xs → xs[i]? = some x, fun i H => ∃ xs : List V, SqK t K H a xs ∧ xs.length = i⟩
theorem turn_enumK {P : Program} {w : World} {K : PySem.W.Frag} {elts : List Expr} {kk : Nat} {tp : Pos} (t : Bool) (a e it : Addr) :
    Turn P w K (.Tuple elts kk tp) (IteK t K a) [e, it] e (fun i h => (∃ old, IsEnum h e it ((i : Nat) : Int) old) ∧ ItK t h it a i ∧ e ≠ it ∧ e ≠ a) where
  mem := List.mem_cons_self
  obj := by
    rintro i h ⟨⟨old, he⟩, hi, _⟩ b hb
    rcases List.mem_cons.mp hb with rfl | hb
    · exact ⟨_, he, fun v q => nomatch q⟩
    · obtain rfl := List.mem_singleton.mp hb
      obtain ⟨o, vs, e1, d⟩ := hi.obj
      exact ⟨o, e1, fun v q => by rw [d] at q; cases q⟩
  keep := by
    rintro i h h' ⟨⟨old, he⟩, hi, n1, n2⟩ k
    exact ⟨⟨old, k e List.mem_cons_self _ he⟩, hi.keep fun o q => k it (List.mem_cons_of_mem _ List.mem_cons_self) o q, n1, n2⟩
  item := by
    intro X hP hw hK hc i pins s σ H E I hf st hg
    subst hP hw hK
    obtain ⟨⟨old, he⟩, hit, n1, n2⟩ := st
    obtain ⟨xs, x, hq, hx⟩ := hg
    obtain ⟨its, rv, p, _⟩ := sq_is I hq
    obtain ⟨u, hu, ru⟩ := rv.get hx
    have hel : e < s.heap.objs.size := Heap.lt_size he
    obtain ⟨oi, vi, ei, _⟩ := hit.obj
    have hil := Heap.lt_size ei
    have D := draws_K (P := X.prog) (w := X.w) (A := X.A.in1) t (I.ok.hd hc) it a (p.ne hit) its.toArray
    have hlt : i < its.toArray.size := by
      have := (List.getElem?_eq_some_iff.mp hu).1
      simpa using this
    refine wpAny_pyNext_enum_itemD D he ⟨hit, p⟩ hlt n1 (by simp [n1, n2]) fun y h' tk hy ho hs hT hsz hk => ?_
    have ey : y = u := by
      have hy' : its[i]? = some y := by simpa using hy
      rw [hu] at hy'
      exact (Option.some.inj hy').symm
    subst ey
    refine ⟨_, rfl, wpAny_letOwnedTupleGo_enum (s := { s with heap := h', toks := tk + 1 }) ho fun h2 he2 sb => ?_⟩
    have hT2 : h2.get? s.heap.objs.size = some { cls := .type "tuple", data := .seq #[.int i tk, y] } := (sb.2 _ (Nat.ne_of_gt hel)).trans hT
    have new : ObjOk X.prog X.w (upd H s.heap.objs.size (.tup [.int (i : Nat), x])) h2 s.heap.objs.size (.tup [.int (i : Nat), x]) :=
      ⟨by show 2 ≤ sizeLine; decide, [.int i tk, y], .cons ⟨_, rfl⟩ (.cons ru .nil), ⟨_, hT2, rfl, _, rfl⟩⟩
    have I1 : Inv X pins σ (upd H s.heap.objs.size (.tup [.int (i : Nat), x])) { s with heap := h2, toks := tk + 1 } :=
      I.turnedNew (ch := [e, it]) (fun b ob hb q => (sb.2 b fun z => hb (by simp [z])).trans (hk b ob (fun z => hb (by simp [z])) (fun z => hb (by simp [z])) q)) hf (Nat.le_refl _) new
    refine ⟨.ref s.heap.objs.size, _, I1, rfl, ⟨_, x, rfl, I.hok.fresh (Nat.le_refl _), rfl, fun zs hz => by rw [sq_inj I hz hq]; exact hx⟩, ⟨⟨y, ?_⟩, hs.1.keep fun o q => (sb.2 it n1.symm).trans q, n1, n2⟩, fun b hb => ?_⟩
    · have e1 : ((i + 1 : Nat) : Int) = (i : Int) + 1 := by omega
      rw [e1]
      exact he2
    · have hlt : b < s.heap.objs.size := by
        rcases List.mem_cons.mp hb with rfl | hb
        · exact hel
        · obtain rfl := List.mem_singleton.mp hb
          exact hil
      rw [upd_ne (Nat.ne_of_lt hlt)]
      exact (hf b hb).1
  done := by
    intro X hP hw hK hc i pins s σ H E I hf st hg
    subst hP hw hK
    obtain ⟨⟨old, he⟩, hit, n1, n2⟩ := st
    obtain ⟨xs, hq, hx⟩ := hg
    obtain ⟨its, rv, p, _⟩ := sq_is I hq
    obtain ⟨f0, f1, f2, f3, f4, f5⟩ := hf it (List.mem_cons_of_mem _ List.mem_cons_self)
    have hl := rv.length
    have D := draws_K (P := X.prog) (w := X.w) (A := X.A.in1) t (I.ok.hd hc) it a (p.ne hit) its.toArray
    have es : i = its.toArray.size := by rw [List.size_toArray]; omega
    subst es
    exact wpAny_pyNext_enum_endD D he ⟨hit, p⟩ fun h' eb => ⟨rfl, I.turned (t' := s.toks) (fun b o hb q => eb b o hb q) f0 f1 f3 f4 f5⟩
  self := by
    rintro A i s Q E ⟨⟨_, he⟩, _⟩ h
    exact wpAny_pyIter_enum he h
theorem meets_enum1 {v : Value} {o : Obj} {B0 : Heap → Prop} (B : Begins v o B0) :
    Meets (Builtin.«enumerate.__new__» ⟨[.type "enumerate", v], []⟩) (fun _ R s => B0 s.heap ∧
      R (.ok (.ret (.ref (s.heap.push o).objs.size))) { s with heap := (s.heap.push o).push { cls := .type "enumerate", data := .fields #[.none, .bool false, .ref s.heap.objs.size, rawInt 0, .none, .none] } }) :=
  .of_wp fun P w A R s h => by
    obtain ⟨hp, g, d, tk, os⟩ := s
    obtain ⟨h1, h⟩ := h
    have sb := sub_enumerate
    have q1 : ∀ {A' : Around} {E : Value → Shared → Prop} {Q : Value → Shared → Prop}, Q (.ref hp.objs.size) ⟨hp.push o, g, d, tk, os⟩ → wpAny (model P w) A' (pyIter v) Q E ⟨hp, g, d, tk, os⟩ := B.iter P w _ _ ⟨hp, g, d, tk, os⟩ _ h1
    wp_walk using q1
    refine wpAny_stack_any fun st => wpAny_pure ?_
    split
    · rename_i c _ _ _ _ _
      cases (c == Value.type "enumerate") <;> (wp_walk using q1; exact ⟨_, rfl, h⟩)
    · wp_walk using q1
      exact ⟨_, rfl, h⟩
theorem call_enum1 {P : Program} {w : World} {A : Around} {E : Value → Shared → Prop} {s : Shared} {v : Value} {o : Obj} {B0 : Heap → Prop} {Q : Value → Shared → Prop} (B : Begins v o B0) (h1 : B0 s.heap)
    (h : ∀ h', IsEnum h' (s.heap.objs.size + 1) s.heap.objs.size 0 .none → h'.get? s.heap.objs.size = some o → (∀ b o, s.heap.get? b = some o → h'.get? b = some o) → Q (.ref (s.heap.objs.size + 1)) { s with heap := h' }) :
    wpAny (model P w) A (call (.type "enumerate") [v]) Q E s := by
  refine callType_new F.called_enumerate (by decide) (F.typeCall_enumerate_1 _) (F.newCall_enumerate_1 _) (fun obj => F.args_object_init_2 obj _) F.entry_enumerate_new (meets_enum1 B) ⟨h1, ?_⟩
  have hz : (s.heap.push o).objs.size = s.heap.objs.size + 1 := Heap.size_push ..
  have he : IsEnum ((s.heap.push o).push { cls := .type "enumerate", data := .fields #[.none, .bool false, .ref s.heap.objs.size, rawInt 0, .none, .none] }) (s.heap.objs.size + 1) s.heap.objs.size 0 .none := by
    rw [← hz]
    exact Heap.get?_push_size (s.heap.push o) rfl
  show _ ∧ _
  rw [hz]
  exact ⟨⟨_, he, rfl⟩, h _ he (Heap.get?_push_of_some _ (Heap.get?_push_size _ B.free)) fun b o x => Heap.get?_push_of_some _ (Heap.get?_push_of_some _ x)⟩
def iEnumK (K : PySem.W.Frag) (ta : TA) : TI := fun σ H R => ta σ H fun vs H1 => ∃ t a xs, vs = [.ref a] ∧ SqK t K H1 a xs ∧ R (IteK t K a) H1
theorem pi_enumK {X : Cx} {e : Expr} {ta : TA} {p pos tp : Pos} {elts : List Expr} {kk : Nat} (hg : Gl X "enumerate") (hm : X.mg "enumerate" = none) (ha : PA X [e] ta) (hs : starEach [e] X.env = [(false, eval e X.env)]) :
    PI X (.Tuple elts kk tp) (.Call (.Name "enumerate" p) [e] [] pos) (iEnumK X.K ta) := by
  refine ⟨fun pins s σ H R I h => Call_ (ld_blt I hg hm boot_enumerate (PyProof.Rows.callWith_type1 (thn (ha.run pos pins s σ H _ I h) fun us s1 hv => ?_) hs rfl))⟩
  obtain ⟨vs, H1, I1, r1, t, a, xs, rfl, hq, q⟩ := hv
  obtain rfl := Vals.ref1 r1
  obtain ⟨its, rv, p', la⟩ := sq_is I1 hq
  refine call_enum1 (begins_K t a its.toArray) p' fun h' he hit hk => wpAny_pyIter_enum he ?_
  have I2 : Inv X pins σ H1 { s1 with heap := h' } := I1.kept (t' := s1.toks) hk
  refine ⟨s1.heap.objs.size + 1, [s1.heap.objs.size + 1, s1.heap.objs.size], _, _, H1, rfl, I2, turn_enumK t a (s1.heap.objs.size + 1) s1.heap.objs.size, ⟨⟨.none, he⟩, itO_at hit, Nat.succ_ne_self _, Nat.ne_of_gt (Nat.lt_succ_of_lt la)⟩, fun b hb => ?_, q⟩
  have hle : s1.heap.objs.size ≤ b := by
    rcases List.mem_cons.mp hb with rfl | hb
    · exact Nat.le_add_right _ _
    · exact Nat.le_of_eq (List.mem_singleton.mp hb).symm
  exact I1.fpOk hle (I1.hok.fresh hle)

/-! ### zip of two -/
def ItzK (t u : Bool) (K : PySem.W.Frag) (a b : Addr) : It :=
  ⟨fun i H => ∃ (xs ys : List V) (x y : V), SqK t K H a xs ∧ SqK u K H b ys ∧ xs[i]? = some x ∧ ys[i]? = some y,
    fun i H v H' => ∃ T x y, v = .ref T ∧ H T = none ∧ H' = upd H T (.tup [x, y]) ∧ (∀ xs, SqK t K H a xs → xs[i]? = some x) ∧ ∀ ys, SqK u K H b ys → ys[i]? = some y,
    fun i H => ∃ xs ys : List V, SqK t K H a xs ∧ SqK u K H b ys ∧ i ≤ xs.length ∧ i ≤ ys.length ∧ (i = xs.length ∨ i = ys.length)⟩
theorem turn_zipK {P : Program} {w : World} {K : PySem.W.Frag} {elts : List Expr} {kk : Nat} {tp : Pos} {t u : Bool} {a b z TI TO i1 i2 : Addr} (S : ZipSep2 z TI TO i1 i2 [i1, a] [i2, b]) :
    Turn P w K (.Tuple elts kk tp) (ItzK t u K a b) [z, TI, TO, i1, i2] z (fun i h => IsZip h z TI TO .none ∧ IsTupOf2 h TI (.ref i1) (.ref i2) ∧ (∃ x y, IsTupOf2 h TO x y) ∧ ItK t h i1 a i ∧ ItK u h i2 b i) where
  mem := List.mem_cons_self
  obj := by
    rintro i h ⟨hz, hTI, ⟨x, y, hTO⟩, h1, h2⟩ c hc
    obtain ⟨o1, v1, e1, d1⟩ := h1.obj
    obtain ⟨o2, v2, e2, d2⟩ := h2.obj
    simp only [List.mem_cons, List.not_mem_nil, or_false] at hc
    rcases hc with rfl | rfl | rfl | rfl | rfl
    · exact ⟨_, hz, fun v q => nomatch q⟩
    · exact ⟨_, hTI, fun v q => nomatch q⟩
    · exact ⟨_, hTO, fun v q => nomatch q⟩
    · exact ⟨o1, e1, fun v q => by rw [d1] at q; cases q⟩
    · exact ⟨o2, e2, fun v q => by rw [d2] at q; cases q⟩
  keep := by
    rintro i h h' ⟨hz, hTI, ⟨x, y, hTO⟩, h1, h2⟩ k
    exact ⟨k z (by simp) _ hz, k TI (by simp) _ hTI, ⟨x, y, k TO (by simp) _ hTO⟩, h1.keep fun o q => k i1 (by simp) o q, h2.keep fun o q => k i2 (by simp) o q⟩
  item := by
    intro X hP hw hK hc i pins s σ H E I hf st hg
    subst hP hw hK
    obtain ⟨hz, hTI, ⟨x0, y0, hTO⟩, h1, h2⟩ := st
    obtain ⟨xs, ys, x, y, hqx, hqy, hx, hy⟩ := hg
    obtain ⟨its, rv, p1, _⟩ := sq_is I hqx
    obtain ⟨its2, rv2, p2, _⟩ := sq_is I hqy
    obtain ⟨u1, hu1, ru1⟩ := rv.get hx
    obtain ⟨u2, hu2, ru2⟩ := rv2.get hy
    have hzl : z < s.heap.objs.size := Heap.lt_size hz
    have D1 := draws_K (P := X.prog) (w := X.w) (A := X.A.in1) t (I.ok.hd hc) i1 a (p1.ne h1) its.toArray
    have D2 := draws_K (P := X.prog) (w := X.w) (A := X.A.in1) u (I.ok.hd hc) i2 b (p2.ne h2) its2.toArray
    have l1 : i < its.toArray.size := by
      have := (List.getElem?_eq_some_iff.mp hu1).1
      simpa using this
    have l2 : i < its2.toArray.size := by
      have := (List.getElem?_eq_some_iff.mp hu2).1
      simpa using this
    refine wpAny_pyNext_zipD2_item S D1 D2 hz hTI hTO ⟨h1, p1⟩ ⟨h2, p2⟩ l1 l2 fun y1 y2 h' tk k1 k2 z' TO' g1 g2 hT hsz hk => ?_
    have e1 : y1 = u1 := by
      have k1 : its[i]? = some y1 := by simpa using k1
      rw [hu1] at k1
      exact (Option.some.inj k1).symm
    have e2 : y2 = u2 := by
      have k2 : its2[i]? = some y2 := by simpa using k2
      rw [hu2] at k2
      exact (Option.some.inj k2).symm
    subst e1
    subst e2
    refine ⟨_, rfl, wpAny_letOwnedTupleGo_zip (s := { s with heap := h', toks := tk }) z' fun h3 z3 sb => ?_⟩
    have hT2 : h3.get? s.heap.objs.size = some { cls := .type "tuple", data := .seq #[y1, y2] } := (sb.2 _ (Nat.ne_of_gt hzl)).trans hT
    have new : ObjOk X.prog X.w (upd H s.heap.objs.size (.tup [x, y])) h3 s.heap.objs.size (.tup [x, y]) :=
      ⟨by show 2 ≤ sizeLine; decide, [y1, y2], .cons ru1 (.cons ru2 .nil), ⟨_, hT2, rfl, _, rfl⟩⟩
    have I1 : Inv X pins σ (upd H s.heap.objs.size (.tup [x, y])) { s with heap := h3, toks := tk } :=
      I.turnedNew (ch := [z, TI, TO, i1, i2]) (fun c o hb q => (sb.2 c fun q' => hb (by simp [q'])).trans (hk c o (fun q' => hb (by simp [q'])) (fun q' => hb (by simp [q'])) (fun q' => hb (by simp [q'])) (fun q' => hb (by simp [q'])) q)) hf (Nat.le_refl _) new
    refine ⟨.ref s.heap.objs.size, _, I1, rfl, ⟨_, x, y, rfl, I.hok.fresh (Nat.le_refl _), rfl, fun l hl => by rw [sq_inj I hl hqx]; exact hx, fun l hl => by rw [sq_inj I hl hqy]; exact hy⟩, ⟨z3, ?_, ⟨y1, y2, ?_⟩, ?_, ?_⟩, fun c hcm => ?_⟩
    · exact (sb.2 _ S.TIz).trans (hk _ _ S.TIz S.TITO S.TIi1 S.TIi2 hTI)
    · exact (sb.2 _ S.TOz).trans TO'
    · exact g1.1.keep fun o q => (sb.2 _ S.zi1.symm).trans q
    · exact g2.1.keep fun o q => (sb.2 _ S.zi2.symm).trans q
    · have hlt : c < s.heap.objs.size := by
        obtain ⟨_, _, a1, _⟩ := h1.obj
        obtain ⟨_, _, a2, _⟩ := h2.obj
        simp only [List.mem_cons, List.not_mem_nil, or_false] at hcm
        rcases hcm with rfl | rfl | rfl | rfl | rfl
        · exact hzl
        · exact Heap.lt_size hTI
        · exact Heap.lt_size hTO
        · exact Heap.lt_size a1
        · exact Heap.lt_size a2
      rw [upd_ne (Nat.ne_of_lt hlt)]
      exact (hf c hcm).1
  done := by
    intro X hP hw hK hc i pins s σ H E I hf st hg
    subst hP hw hK
    obtain ⟨hz, hTI, ⟨x0, y0, hTO⟩, h1, h2⟩ := st
    obtain ⟨xs, ys, hqx, hqy, m1, m2, hend⟩ := hg
    obtain ⟨its, rv, p1, _⟩ := sq_is I hqx
    obtain ⟨its2, rv2, p2, _⟩ := sq_is I hqy
    have l1 := rv.length
    have l2 := rv2.length
    have D1 := draws_K (P := X.prog) (w := X.w) (A := X.A.in1) t (I.ok.hd hc) i1 a (p1.ne h1) its.toArray
    have D2 := draws_K (P := X.prog) (w := X.w) (A := X.A.in1) u (I.ok.hd hc) i2 b (p2.ne h2) its2.toArray
    exact wpAny_pyNext_zipD2_end S D1 D2 hz hTI hTO ⟨h1, p1⟩ ⟨h2, p2⟩ (by rw [List.size_toArray]; omega) (by rw [List.size_toArray]; omega) (by rw [List.size_toArray, List.size_toArray]; omega)
      fun h' tk hk => ⟨rfl, I.turnedL (t' := tk) (ch := [z, TI, TO, i1, i2]) (fun c o hb q => hk c o (fun q' => hb (by simp [q'])) (fun q' => hb (by simp [q'])) (fun q' => hb (by simp [q'])) (fun q' => hb (by simp [q'])) q) hf⟩
  self := by
    rintro A i s Q E st h
    exact wpAny_pyIter_zip st.1 h
def iZipK (K : PySem.W.Frag) (ta : TA) : TI := fun σ H R => ta σ H fun vs H1 => ∃ t u a b xs ys, vs = [.ref a, .ref b] ∧ SqK t K H1 a xs ∧ SqK u K H1 b ys ∧ R (ItzK t u K a b) H1
theorem pi_zipK {X : Cx} {e e2 : Expr} {ta : TA} {p pos tp : Pos} {elts : List Expr} {kk : Nat} (hg : Gl X "zip") (hm : X.mg "zip" = none) (ha : PA X [e, e2] ta)
    (hs : starEach [e, e2] X.env = (false, eval e X.env) :: starEach [e2] X.env) (hpl : (backTo pos (starEach [e2] X.env)).any (·.1) = false) :
    PI X (.Tuple elts kk tp) (.Call (.Name "zip" p) [e, e2] [] pos) (iZipK X.K ta) := by
  refine ⟨fun pins s σ H R I h => Call_ (ld_blt I hg hm PyProof.Rows.boot_zip (PyProof.Rows.callWith_type1 (thn (ha.run pos pins s σ H _ I h) fun us s1 hv => ?_) hs hpl))⟩
  obtain ⟨vs, H1, I1, r1, t, u, a, b, xs, ys, rfl, hqx, hqy, q⟩ := hv
  cases r1 with
  | cons r rr =>
    cases rr with
    | cons r' rr =>
      cases rr
      cases r
      cases r'
      obtain ⟨its, rv, p1, la⟩ := sq_is I1 hqx
      obtain ⟨its2, rv2, p2, lb⟩ := sq_is I1 hqy
      refine zip_begins2 (begins_K t a its.toArray) (begins_K u b its2.toArray) p1 p2 fun h' hz hTI hTO g1 g2 hsz hk => wpAny_pyIter_zip hz ?_
      have I2 : Inv X pins σ H1 { s1 with heap := h' } := I1.kept (t' := s1.toks) hk
      refine ⟨s1.heap.objs.size + 4, [s1.heap.objs.size + 4, s1.heap.objs.size + 2, s1.heap.objs.size + 3, s1.heap.objs.size, s1.heap.objs.size + 1], _, _, H1, rfl, I2,
        turn_zipK (zip_sep2 (N := s1.heap.objs.size) (fp1 := [a]) (fp2 := [b]) (fun c hc => by rw [List.mem_singleton.mp hc]; exact la) fun c hc => by rw [List.mem_singleton.mp hc]; exact lb), ⟨hz, hTI, ⟨_, _, hTO⟩, itO_at g1, itO_at g2⟩, fun c hcm => ?_, q⟩
      have hle : s1.heap.objs.size ≤ c := by
        simp only [List.mem_cons, List.not_mem_nil, or_false] at hcm
        rcases hcm with rfl | rfl | rfl | rfl | rfl
        · exact Nat.le_add_right _ _
        · exact Nat.le_add_right _ _
        · exact Nat.le_add_right _ _
        · exact Nat.le_refl _
        · exact Nat.le_add_right _ _
      exact I1.fpOk hle (I1.hok.fresh hle)
end Mu

end
section
set_option linter.all false
set_option Elab.async false
/-! Truth, places, slices, built-in functions, what is walked. -/
namespace Mu
open PySem PySem.Spec PyProof.Rows L2

section
variable {X : Cx} {K : PySem.W.Frag} {mg : Str → Option Value} {V : Vw} {ρ : Rho} {H : Hp} {st : Sto}
theorem items_ref {i : Nat} {a : Addr} {oa : Option Addr} {ds : List D} (w : Wd K mg V ρ st H) (hi : ρ.ix[i]? = some oa) (hq : ∀ b, oa = some b → b = a) (h : Sto.items st (.ref i) = some ds) : ρ.ix[i]? = some (some a) ∧ RepO K mg V ρ H a (.lst ds) := by
  unfold Sto.items at h
  simp only at h
  split at h
  · rename_i xs e
    cases h
    exact w.spoken hi hq e (by intro z; cases z)
  · cases h
/-- a sequence of the data is one of the heap -/
theorem seq_of {d : D} {x : L2.V} {ds : List D} (w : Wd K mg V ρ st H) (r : Rep K mg V ρ H d x) (h : seqD st d = some ds) : ∃ a xs, x = .ref a ∧ (SqL K H a xs ∨ SqT K H a xs) ∧ RepL K mg V ρ H ds xs := by
  cases r with
  | @tup a xs es t r => cases h; exact ⟨a, xs, rfl, .inr t.sq, r⟩
  | @lst a xs es t r => cases h; exact ⟨a, xs, rfl, .inl t.sq, r⟩
  | @rol a xs es t r => cases h; exact ⟨a, xs, rfl, .inl t.sq, r⟩
  | @ref i a oa hi hq =>
    have h : Sto.items st (.ref i) = some ds := h
    obtain ⟨ho, ro⟩ := items_ref w hi hq h
    obtain ⟨xs, hx, r⟩ := ro
    exact ⟨a, xs, rfl, .inl (SqL.of hx), r⟩
  | _ => cases h
/-- a list of the data is one of the heap -/
theorem items_of {d : D} {x : L2.V} {ds : List D} (w : Wd K mg V ρ st H) (r : Rep K mg V ρ H d x) (h : Sto.items st d = some ds) : ∃ a xs, x = .ref a ∧ SqL K H a xs ∧ RepL K mg V ρ H ds xs := by
  cases r with
  | @lst a xs es t r => cases h; exact ⟨a, xs, rfl, t.sq, r⟩
  | @ref i a oa hi hq =>
    obtain ⟨ho, ro⟩ := items_ref w hi hq h
    obtain ⟨xs, hx, r⟩ := ro
    exact ⟨a, xs, rfl, SqL.of hx, r⟩
  | _ => cases h
theorem RepL.isEmpty {ds : List D} {vs : List L2.V} (r : RepL K mg V ρ H ds vs) : ds.isEmpty = vs.isEmpty := by cases r <;> rfl
theorem truth_of {d : D} {x : L2.V} {c : Bool} (w : Wd K mg V ρ st H) (r : Rep K mg V ρ H d x) (h : truth st d = some c) : TruV K x H c := by
  cases r with
  | non => cases h; rfl
  | bl b => cases h; rfl
  | int i => cases h; rfl
  | str y =>
    have h' : (if y.length ≤ sizeLine then some ((y.length : Int) != 0) else none) = some c := h
    split at h'
    · rename_i hl; cases h'; exact ⟨hl, rfl⟩
    · cases h'
  | @tup a xs es t r => cases h; exact .inr (.inl ⟨xs, t.sq, by show (!es.isEmpty) = _; rw [r.isEmpty]⟩)
  | @lst a xs es t r => cases h; exact .inl ⟨xs, t.sq, by show (!es.isEmpty) = _; rw [r.isEmpty]⟩
  | @ref i a oa hi hq =>
    have h' : (Sto.items st (.ref i)).map (fun xs => !xs.isEmpty) = some c := h
    cases e : Sto.items st (.ref i) with
    | none => rw [e] at h'; cases h'
    | some es =>
      rw [e] at h'
      cases h'
      obtain ⟨b, xs, eb, hx, r⟩ := items_of w (.ref hi hq) e
      cases eb
      exact .inl ⟨xs, hx, by show (!es.isEmpty) = _; rw [r.isEmpty]⟩
  | _ => cases h
theorem atD_at {α : Type} {xs : List α} {i : Int} {x : α} (h : atD xs i = some x) : atI xs i = some x := by
  unfold atD at h
  unfold atI ixN
  by_cases h0 : 0 ≤ i
  · rw [if_pos h0] at h ⊢
    have := (List.getElem?_eq_some_iff.mp h).1
    rw [if_pos (by omega)]
    exact h
  · rw [if_neg h0] at h ⊢
    by_cases h1 : -(xs.length : Int) ≤ i
    · rw [if_pos h1] at h ⊢
      exact h
    · rw [if_neg h1] at h
      cases h
theorem RepL.at_ {ds : List D} {vs : List L2.V} {i : Int} {d : D} (r : RepL K mg V ρ H ds vs) (h : atD ds i = some d) : ∃ v, atI vs i = some v ∧ Rep K mg V ρ H d v := by
  have hl := r.length
  unfold atD at h
  by_cases h0 : 0 ≤ i
  · rw [if_pos h0] at h
    obtain ⟨v, h1, h2⟩ := r.get h
    exact ⟨v, atD_at (by unfold atD; rw [if_pos h0]; exact h1), h2⟩
  · rw [if_neg h0] at h
    by_cases h1 : -(ds.length : Int) ≤ i
    · rw [if_pos h1] at h
      obtain ⟨v, h3, h2⟩ := r.get h
      exact ⟨v, atD_at (by unfold atD; rw [if_neg h0, if_pos (by rw [← hl]; exact h1), ← hl]; exact h3), h2⟩
    · rw [if_neg h1] at h
      cases h
theorem idx_of {d j : D} {x y : L2.V} {z : D} {Q : VK} (w : Wd K mg V ρ st H) (r : Rep K mg V ρ H d x) (rj : Rep K mg V ρ H j y) (h : idxD st d j = some z) (q : ∀ v, Rep K mg V ρ H z v → Q v H) : rIx K x y H Q := by
  cases rj with
  | int i =>
    have main : ∀ {ds : List D}, seqD st d = some ds → atD ds i = some z → rIx K x (.int i) H Q := fun {ds} e ha => by
      obtain ⟨a, xs, rfl, hs, rs⟩ := seq_of w r e
      obtain ⟨v, hv, rv⟩ := rs.at_ ha
      rcases hs with hs | hs
      · exact .inl ⟨a, xs, i, v, rfl, rfl, hs, hv, q v rv⟩
      · exact .inr (.inl ⟨a, xs, i, v, rfl, rfl, hs, hv, q v rv⟩)
    have gen : (seqD st d).bind (fun xs => atD xs i) = some z → rIx K x (.int i) H Q := fun e => by
      cases e2 : seqD st d with
      | none => rw [e2] at e; cases e
      | some ds => rw [e2] at e; exact main e2 e
    cases d with
    | str s =>
      cases r
      unfold idxD at h
      simp only at h
      split at h
      · rename_i hl
        cases e : atD s.cps.toList i with
        | none => rw [e] at h; cases h
        | some c =>
          rw [e] at h
          cases h
          exact .inr (.inr ⟨s, i, c, rfl, rfl, hl, atD_at e, q _ (.str _)⟩)
      · cases h
    | _ => exact gen h
  | _ => cases h

/-! ### built-ins -/
def rBlt (K : PySem.W.Frag) (mg : Str → Option Value) (V : Vw) (f : List D → Sto → Option D) : List L2.V → Hp → VK → Prop := fun xs H Q =>
  ∃ ρ st ds z, Wd K mg V ρ st H ∧ RepL K mg V ρ H ds xs ∧ f ds st = some z ∧ ∀ v H', Ext ρ H ρ H' → Wd K mg V ρ st H' → Rep K mg V ρ H' z v → Q v H'
theorem repL1 {d : D} {xs : List L2.V} (r : RepL K mg V ρ H [d] xs) : ∃ x, xs = [x] ∧ Rep K mg V ρ H d x := by
  cases r with
  | cons a b => cases b; exact ⟨_, rfl, a⟩
theorem repL2 {d e : D} {xs : List L2.V} (r : RepL K mg V ρ H [d, e] xs) : ∃ x y, xs = [x, y] ∧ Rep K mg V ρ H d x ∧ Rep K mg V ρ H e y := by
  cases r with
  | cons a b =>
    cases b with
    | cons c b => cases b; exact ⟨_, _, rfl, a, c⟩

theorem blt_len : CallR X (.builtin "len") (rBlt X.K X.mg V lenD) := by
  intro pins s σ H xs us Q I r h
  obtain ⟨ρ, st, ds, z, w, rs, hz, q⟩ := h
  have gen : ∀ d, ds = [d] → (seqD st d).map (fun ys => D.int ys.length) = some z → wpAny (model X.prog X.w) X.A (call (.builtin "len") us) (EP X pins σ Q) X.xe s := fun d ed e => by
    subst ed
    obtain ⟨x, rfl, rd⟩ := repL1 rs
    cases e2 : seqD st d with
    | none => rw [e2] at e; cases e
    | some es =>
      rw [e2] at e
      cases e
      obtain ⟨a, ys, rfl, hs, r2⟩ := seq_of w rd e2
      have hl := r2.length
      refine call_len pins s σ H _ us Q I r ⟨_, ys.length, rfl, ?_, ?_⟩
      · rcases hs with hs | hs
        · exact .inl ⟨ys, hs, rfl⟩
        · exact .inr ⟨ys, hs, rfl⟩
      · rw [← hl]
        exact q _ _ (Ext.refl _ _) w (.int _)
  unfold lenD at hz
  split at hz
  · rename_i x
    obtain ⟨y, rfl, rd⟩ := repL1 rs
    cases rd
    split at hz
    · rename_i hl
      cases hz
      exact call_len pins s σ H _ us Q I r ⟨_, x.length, rfl, ⟨hl, rfl⟩, q _ _ (Ext.refl _ _) w (.int _)⟩
    · cases hz
  · exact gen _ rfl hz
  · cases hz
theorem blt_abs : CallR X (.builtin "abs") (rBlt X.K X.mg V absD) := by
  intro pins s σ H xs us Q I r h
  obtain ⟨ρ, st, ds, z, w, rs, hz, q⟩ := h
  unfold absD at hz
  split at hz
  · cases hz
    obtain ⟨x, rfl, rd⟩ := repL1 rs
    cases rd
    exact call_abs pins s σ H _ us Q I r ⟨_, rfl, q _ _ (Ext.refl _ _) w (.int _)⟩
  · cases hz
theorem blt_min (G : Ctx X) : CallR X (.builtin "min") (rBlt X.K X.mg V minD) := by
  intro pins s σ H xs us Q I r h
  obtain ⟨ρ, st, ds, z, w, rs, hz, q⟩ := h
  unfold minD at hz
  split at hz
  · cases hz
    obtain ⟨x, y, rfl, rd, re⟩ := repL2 rs
    cases rd
    cases re
    exact call_min2 G.calm pins s σ H _ us Q I r ⟨_, _, rfl, q _ _ (Ext.refl _ _) w (.int _)⟩
  · cases hz
theorem blt_max (G : Ctx X) : CallR X (.builtin "max") (rBlt X.K X.mg V maxD) := by
  intro pins s σ H xs us Q I r h
  obtain ⟨ρ, st, ds, z, w, rs, hz, q⟩ := h
  unfold maxD at hz
  split at hz
  · cases hz
    obtain ⟨x, y, rfl, rd, re⟩ := repL2 rs
    cases rd
    cases re
    exact call_max2 G.calm pins s σ H _ us Q I r ⟨_, _, rfl, q _ _ (Ext.refl _ _) w (.int _)⟩
  · cases hz
theorem blt_int : CallR X (.type "int") (rBlt X.K X.mg V intD) := by
  intro pins s σ H xs us Q I r h
  obtain ⟨ρ, st, ds, z, w, rs, hz, q⟩ := h
  unfold intD at hz
  split at hz
  · cases hz
    obtain ⟨x, rfl, rd⟩ := repL1 rs
    cases rd
    exact call_int1 pins s σ H _ us Q I r (.inl ⟨_, rfl, q _ _ (Ext.refl _ _) w (.int _)⟩)
  · cases hz
    obtain ⟨x, rfl, rd⟩ := repL1 rs
    cases rd
    exact call_int1 pins s σ H _ us Q I r (.inr ⟨_, rfl, q _ _ (Ext.refl _ _) w (.int _)⟩)
  · cases hz
theorem blt_tuple : CallR X (.type "tuple") (rBlt X.K X.mg V tupleD) := by
  intro pins s σ H xs us Q I r h
  obtain ⟨ρ, st, ds, z, w, rs, hz, q⟩ := h
  unfold tupleD at hz
  split at hz
  · cases hz
    obtain ⟨x, rfl, rd⟩ := repL1 rs
    obtain ⟨a, xs, ea, ha⟩ : ∃ a xs, x = .ref a ∧ TupAt X.K ρ H a xs := by cases rd with | tup t _ => exact ⟨_, _, rfl, t⟩
    subst ea
    exact call_tuple_of pins s σ H _ us Q I r ⟨_, _, rfl, .inr ⟨ha.sq, q _ _ (Ext.refl _ _) w rd⟩⟩
  · rename_i d _
    obtain ⟨x, rfl, rd⟩ := repL1 rs
    cases e : Sto.items st d with
    | none => rw [e] at hz; cases hz
    | some es =>
      rw [e] at hz
      cases hz
      obtain ⟨a, ys, rfl, hs, r2⟩ := items_of w rd e
      exact call_tuple_of pins s σ H _ us Q I r ⟨a, ys, rfl, .inl ⟨hs, fun l hl => q _ _ (Ext.fresh hl) (w.new hl) (.tup (.inl ⟨.inl upd_same, w.fresh hl⟩) (r2.ext (Ext.fresh hl)))⟩⟩
  · cases hz
theorem blt_list : CallR X (.type "list") (rBlt X.K X.mg V listD) := by
  intro pins s σ H xs us Q I r h
  obtain ⟨ρ, st, ds, z, w, rs, hz, q⟩ := h
  unfold listD at hz
  split at hz
  · rename_i d
    obtain ⟨x, rfl, rd⟩ := repL1 rs
    cases e : seqD st d with
    | none => rw [e] at hz; cases hz
    | some es =>
      rw [e] at hz
      cases hz
      obtain ⟨a, ys, rfl, hs, r2⟩ := seq_of w rd e
      exact call_list_of pins s σ H _ us Q I r ⟨a, ys, rfl, hs, fun l hl => q _ _ (Ext.fresh hl) (w.new hl) (.lst ⟨upd_same, w.fresh hl⟩ (r2.ext (Ext.fresh hl)))⟩
  · cases hz
theorem allB_of : ∀ {ds : List D} {vs : List L2.V} {b : Bool}, RepL K mg V ρ H ds vs → allB ds = some b → ∃ bs : List Bool, vs = bs.map L2.V.bl ∧ b = bs.all id
  | [], _, _, r, h => by
    cases r
    cases h
    exact ⟨[], rfl, rfl⟩
  | d :: ds, _, b, r, h => by
    cases r with
    | @cons _ v _ vs r1 r2 =>
      cases d with
      | bl c =>
        have h' : (allB ds).map (c && ·) = some b := h
        cases e : allB ds with
        | none => rw [e] at h'; cases h'
        | some b' =>
          rw [e] at h'
          cases h'
          obtain ⟨bs, rfl, rfl⟩ := allB_of r2 e
          cases r1
          exact ⟨c :: bs, rfl, by simp⟩
      | _ => cases h
theorem anyB_of : ∀ {ds : List D} {vs : List L2.V} {b : Bool}, RepL K mg V ρ H ds vs → anyB ds = some b → ∃ bs : List Bool, vs = bs.map L2.V.bl ∧ b = bs.any id
  | [], _, _, r, h => by
    cases r
    cases h
    exact ⟨[], rfl, rfl⟩
  | d :: ds, _, b, r, h => by
    cases r with
    | @cons _ v _ vs r1 r2 =>
      cases d with
      | bl c =>
        have h' : (anyB ds).map (c || ·) = some b := h
        cases e : anyB ds with
        | none => rw [e] at h'; cases h'
        | some b' =>
          rw [e] at h'
          cases h'
          obtain ⟨bs, rfl, rfl⟩ := anyB_of r2 e
          cases r1
          exact ⟨c :: bs, rfl, by simp⟩
      | _ => cases h
theorem blt_all (G : Ctx X) : CallR X (.builtin "all") (rBlt X.K X.mg V allD) := by
  intro pins s σ H xs us Q I r h
  obtain ⟨ρ, st, ds, z, w, rs, hz, q⟩ := h
  unfold allD at hz
  split at hz
  · rename_i d
    obtain ⟨x, rfl, rd⟩ := repL1 rs
    cases e : Sto.items st d with
    | none => rw [e] at hz; cases hz
    | some es =>
      rw [e] at hz
      cases e2 : allB es with
      | none => simp only [Option.bind_some, e2, Option.map_none] at hz; cases hz
      | some b =>
        simp only [Option.bind_some, e2, Option.map_some] at hz
        cases hz
        obtain ⟨a, ys, rfl, hs, r2⟩ := items_of w rd e
        obtain ⟨bs, rfl, rfl⟩ := allB_of r2 e2
        exact cr_all G.calm pins s σ H _ us Q I r ⟨a, bs, rfl, hs, q _ _ (Ext.refl _ _) w (.bl _)⟩
  · cases hz
theorem blt_any (G : Ctx X) : CallR X (.builtin "any") (rBlt X.K X.mg V anyD) := by
  intro pins s σ H xs us Q I r h
  obtain ⟨ρ, st, ds, z, w, rs, hz, q⟩ := h
  unfold anyD at hz
  split at hz
  · rename_i d
    obtain ⟨x, rfl, rd⟩ := repL1 rs
    cases e : Sto.items st d with
    | none => rw [e] at hz; cases hz
    | some es =>
      rw [e] at hz
      cases e2 : anyB es with
      | none => simp only [Option.bind_some, e2, Option.map_none] at hz; cases hz
      | some b =>
        simp only [Option.bind_some, e2, Option.map_some] at hz
        cases hz
        obtain ⟨a, ys, rfl, hs, r2⟩ := items_of w rd e
        obtain ⟨bs, rfl, rfl⟩ := anyB_of r2 e2
        exact cr_any G.calm pins s σ H _ us Q I r ⟨a, bs, rfl, hs, q _ _ (Ext.refl _ _) w (.bl _)⟩
  · cases hz
theorem kit_sub (a : Tn) (b : Ty) : kitB a.name b.name = some (subTy a b) := by cases a <;> cases b <;> decide +kernel
theorem ty_of {d : D} {x : L2.V} {a : Tn} (w : Wd K mg V ρ st H) (r : Rep K mg V ρ H d x) (h : tyD st d = some a) : TyX K H x (.type a.name) := by
  cases r with
  | non => cases h; exact .base .non
  | bl b => cases h; exact .base (.bl _)
  | int i => cases h; exact .base (.int _)
  | str y => cases h; exact .base (.str _)
  | tup t r =>
    cases h
    rcases t with ⟨t | ⟨o, t⟩, _⟩ | t
    · exact .base (.tup t)
    · exact .fTuple t
    · rcases t (fun _ => none) with (t | ⟨o, t⟩) | ⟨o, its, n, e, c, _⟩
      · cases t
      · cases t
      · exact .kTuple e c
  | lst t r => cases h; exact .base (.lst t.1)
  | dic t n l r => cases h; exact .base (.dK t)
  | @ref i a oa hi hq =>
    unfold tyD at h
    simp only at h
    split at h
    · rename_i xs e
      cases h
      obtain ⟨_, ys, hx, _⟩ := w.spoken hi hq e (by intro z; cases z)
      exact .base (.lst hx)
    · rename_i ks vs e
      cases h
      obtain ⟨_, ys, hx, _⟩ := w.spoken hi hq e (by intro z; cases z)
      exact .base (.dK hx)
    · cases h
  | _ => cases h
theorem blt_isi : CallR X (.builtin "isinstance") (rBlt X.K X.mg V isiD) := by
  intro pins s σ H xs us Q I r h
  obtain ⟨ρ, st, ds, z, w, rs, hz, q⟩ := h
  unfold isiD at hz
  split at hz
  · rename_i d n
    obtain ⟨x, y, rfl, rd, re⟩ := repL2 rs
    cases re
    cases e : tyD st d with
    | none => rw [e] at hz; cases hz
    | some a =>
      rw [e] at hz
      cases hz
      exact call_isi pins s σ H _ us Q I r ⟨x, _, _, _, subTy a n, rfl, .ty n.name, ty_of w rd e, kit_ty (kit_sub a n), q _ _ (Ext.refl _ _) w (.bl _)⟩
  · cases hz

mutual
theorem py_noDict : ∀ d : D, d.py.hasDict = false
  | .non => by simp [D.py, PyData.hasDict]
  | .bl _ => by simp [D.py, PyData.hasDict]
  | .int _ => by simp [D.py, PyData.hasDict]
  | .str _ => by simp [D.py, PyData.hasDict]
  | .ty _ => by simp [D.py, PyData.hasDict]
  | .fn _ => by simp [D.py, PyData.hasDict]
  | .cls _ => by simp [D.py, PyData.hasDict]
  | .dic _ _ => by simp [D.py, PyData.hasDict]
  | .obj _ _ _ => by simp [D.py, PyData.hasDict]
  | .clo _ _ => by simp [D.py, PyData.hasDict]
  | .ref _ => by simp [D.py, PyData.hasDict]
  | .rol _ => by simp [D.py, PyData.hasDict]
  | .tup xs => by simp [D.py, PyData.hasDict, pys_noDict xs]
  | .lst xs => by simp [D.py, PyData.hasDict, pys_noDict xs]
theorem pys_noDict : ∀ ds : List D, PyData.hasDictAll (D.pys ds) = false
  | [] => by simp [D.pys, PyData.hasDictAll]
  | d :: ds => by simp [D.pys, PyData.hasDictAll, py_noDict d, pys_noDict ds]
end
theorem keyPy_reads {h : Heap} {k : Key} {v : Value} (e : keyIs k v = true) : Reads h v (keyPy k) [] := by
  rcases keyIs_shape e with ⟨i, t, rfl, rfl⟩ | ⟨x, t, rfl, rfl⟩
  · exact .int i t
  · exact .str x t
theorem flat_reads {h : Heap} {d : D} {x : L2.V} {u : Value} (r : Rep K mg V ρ H d x) (ru : RelV x u) (f : d.flat = true) : Reads h u d.py [] := by
  cases r with
  | non => cases ru; unfold D.py; exact .none
  | bl b => cases ru; unfold D.py; exact .bool b
  | int i => obtain ⟨t, rfl⟩ := ru; unfold D.py; exact .int i t
  | str y => obtain ⟨t, rfl⟩ := ru; unfold D.py; exact .str y t
  | _ => cases f
theorem pairs_reads {P : Program} {w : World} {h : Heap} : ∀ {es : List DictEntry} {kvs : List (Key × Value)} {ks : List Key} {xs : List L2.V} {ds : List D}, Pairs (mixKind P w) es kvs → KV (ks.zip xs) kvs → RepL K mg V ρ H ds xs → ks.length = xs.length → ds.all D.flat = true →
    ReadsAll h (es.map (·.key)) (ks.map keyPy) [] ∧ ReadsAll h (es.map (·.val)) (D.pys ds) []
  | _, _, ks, xs, ds, .nil, kv, r, hl, _ => by
    cases ks with
    | nil =>
      cases xs with
      | nil => cases r; unfold D.pys; exact ⟨.nil, .nil⟩
      | cons _ _ => cases hl
    | cons k ks =>
      cases xs with
      | nil => cases hl
      | cons x xs => cases kv
  | _, _, ks, xs, ds, @Pairs.cons _ _ _ _ _ e kv0 es kvs h1 h2 t, kv, r, hl, hf => by
    cases ks with
    | nil => cases xs <;> cases kv
    | cons k ks =>
      cases xs with
      | nil => cases hl
      | cons x xs =>
        cases r with
        | @cons d _ ds _ rd rds =>
          cases kv with
          | cons hk kv =>
            rw [List.all_cons, Bool.and_eq_true] at hf
            obtain ⟨q1, q2⟩ := pairs_reads (h := h) t kv rds (by simpa using hl) hf.2
            obtain ⟨hk1, hk2⟩ := hk
            have hk1 : k = kv0.1 := hk1
            subst hk1
            refine ⟨ReadsAll.cons (as := []) (keyPy_reads h1) q1, ?_⟩
            unfold D.pys
            refine ReadsAll.cons (as := []) (flat_reads rd ?_ hf.1) q2
            show RelV x e.val
            rw [h2]
            exact hk2
theorem pyT_reads {X : Cx} {pins : List (Addr × Obj)} {σ : L2.St} {s : Shared} {d : D} {x : L2.V} {u : Value} (I : Inv X pins σ H s) (rd : Rep X.K mg V ρ H d x) (ru : RelV x u) (hp : d.plainT = true) : ∃ as, Reads s.heap u d.pyT as ∧ (d.pyT.hasDict = true → sysModules ∉ as) := by
  by_cases hd : ∃ ks vs, d = .dic ks vs
  · obtain ⟨ks, vs, rfl⟩ := hd
    cases rd with
    | @dic a _ xs _ hH ho hl r =>
      cases ru
      have hp : (decide (ks.length = vs.length) && vs.all D.flat) = true := hp
      rw [Bool.and_eq_true] at hp
      obtain ⟨_, hsm, kvs, kv, o, es, ep, hget, hex, hdat, _, hpairs, _⟩ := dk_of I.hok hH
      obtain ⟨q1, q2⟩ := pairs_reads (h := s.heap) hpairs kv r hl hp.2
      have lp : (ks.map keyPy).length = (D.pys vs).length := by
        have : ∀ ds : List D, (D.pys ds).length = ds.length := fun ds => by
          induction ds with
          | nil => rfl
          | cons d ds ih => unfold D.pys; simp [ih]
        rw [List.length_map, this]
        exact of_decide_eq_true hp.1
      refine ⟨a :: [] ++ [], .dict hget hex.1 hdat ?_ ?_, fun _ m => ?_⟩
      · rw [List.map_fst_zip (by omega)]
        exact q1
      · rw [List.map_snd_zip (by omega)]
        exact q2
      · have : sysModules = a := by simpa using m
        rw [this, beq_self_eq_true] at hsm
        cases hsm
  · have e1 : d.plainT = d.plain := by cases d <;> first | rfl | exact absurd ⟨_, _, rfl⟩ hd
    have e2 : d.pyT = d.py := by cases d <;> first | rfl | exact absurd ⟨_, _, rfl⟩ hd
    rw [e1] at hp
    obtain ⟨as, hr⟩ := Dp.reads I d.py x u (rd.dp hp) ru
    rw [e2]
    exact ⟨as, hr, fun z => by rw [py_noDict] at z; cases z⟩
theorem blt_reprG (gd : X.A.guards = some []) (hun : X.A.units + 64 < cLine) : CallR X (.builtin "repr") (rBlt X.K X.mg V reprL) := by
  intro pins s σ H xs us Q I r h
  obtain ⟨ρ, st, ds, z, w, rs, hz, q⟩ := h
  unfold reprL at hz
  split at hz
  · rename_i d
    obtain ⟨x, rfl, rd⟩ := repL1 rs
    unfold reprD at hz
    split at hz
    · rename_i hc
      simp only [Bool.and_eq_true, decide_eq_true_eq] at hc
      obtain ⟨⟨⟨hp, hs⟩, hl⟩, hd⟩ := hc
      cases hz
      have fin : ∀ {s' : Shared}, Inv X pins σ H s' → ∀ u : Tok, EP X pins σ Q (.str d.pyT.shown u) s' := fun I' u => ⟨.str _, H, I', ⟨_, rfl⟩, q _ _ (Ext.refl _ _) w (.str _)⟩
      obtain ⟨u, rfl, ru⟩ := vals1 r
      obtain ⟨as, hr1, hsm⟩ := pyT_reads I rd ru hp
      cases rd with
      | non =>
        cases ru
        simp only [D.pyT, D.py, PyData.shown] at fin hl
        exact PySem.P.repr_of_none (fin (I.tok _) _)
      | bl b =>
        cases ru
        simp only [D.pyT, D.py, PyData.shown] at fin hl
        exact PySem.P.repr_of_bool (fin (I.tok _) _)
      | int i =>
        obtain ⟨t, rfl⟩ := ru
        simp only [D.pyT, D.py, PyData.shown] at fin hl
        simp only [D.pyT, D.py, PyData.showable, decide_eq_true_eq] at hs
        exact PySem.P.repr_of_int hs (fin (I.tok _) _)
      | str y =>
        obtain ⟨t, rfl⟩ := ru
        simp only [D.pyT, D.py, PyData.shown] at fin hl
        exact PySem.P.repr_of_str (fin (I.tok _) _) hl
      | @tup a ys es t rr =>
        cases ru
        exact repr_of_reads' hr1 hs hsm gd (by omega) (fun _ _ e => e) (fun h' u tk hk => fin (I.kept hk) u) hl
      | @lst a ys es t rr =>
        cases ru
        exact repr_of_reads' hr1 hs hsm gd (by omega) (fun _ _ e => e) (fun h' u tk hk => fin (I.kept hk) u) hl
      | dic h1 h2 h3 h4 =>
        cases ru
        exact repr_of_reads' hr1 hs hsm gd (by omega) (fun _ _ e => e) (fun h' u tk hk => fin (I.kept hk) u) hl
      | _ => simp [D.plainT, D.plain] at hp
    · cases hz
  · cases hz

theorem blt_repr (G : Ctx X) {k : Nat} (hr : Room k X.A) : CallR X (.builtin "repr") (rBlt X.K X.mg V reprL) := blt_reprG G.gd hr.units

/-! ### what is walked -/
/-- J walks the values ds, wherever the heap has gone from ρ, H -/
def WalkD (K : PySem.W.Frag) (mg : Str → Option Value) (V : Vw) (ρ0 : Rho) (H0 : Hp) (J : It) (ds : List D) : Prop := ∀ ρ H, Ext ρ0 H0 ρ H →
  (∀ i, i < ds.length → J.go i H) ∧ J.stop ds.length H ∧ ∀ i x H', i < ds.length → J.yld i H x H' → ∀ st, Wd K mg V ρ st H → Ext ρ H ρ H' ∧ Wd K mg V ρ st H' ∧ ∃ d, ds[i]? = some d ∧ Rep K mg V ρ H' d x
theorem walkd_same {J : It} {n : Nat} {G : Hp → Prop} {xs : List L2.V} {ds : List D} (W : Walk J n G (YAt xs)) (hn : n = ds.length) (r : RepL K mg V ρ H ds xs) (hG : ∀ ρ' H', Ext ρ H ρ' H' → G H') : WalkD K mg V ρ H J ds := by
  subst hn
  intro ρ1 H1 e
  refine ⟨fun i hi => W.goes i H1 hi (hG _ _ e), W.stops H1 (hG _ _ e), fun i x H' hi y st w => ?_⟩
  obtain ⟨rfl, hx⟩ := W.yields i H1 x H' hi (hG _ _ e) y
  obtain ⟨d, h1, h2⟩ := (r.ext e).getV hx
  exact ⟨Ext.refl _ _, w, d, h1, h2⟩
theorem walkd_list {a : Addr} {xs : List L2.V} {ds : List D} (t : RolAt K ρ H a xs) (r : RepL K mg V ρ H ds xs) : WalkD K mg V ρ H (Itl K a) ds :=
  walkd_same walk_list r.length.symm r fun _ _ e => (t.ext e).sq
theorem walkd_tup {a : Addr} {xs : List L2.V} {ds : List D} (t : TupAt K ρ H a xs) (r : RepL K mg V ρ H ds xs) : WalkD K mg V ρ H (Itt K a) ds :=
  walkd_same walk_tup r.length.symm r fun _ _ e => (t.ext e).sq
theorem LstAt.rol {a : Addr} {xs : List L2.V} (t : LstAt ρ H a xs) : RolAt K ρ H a xs := .inl ⟨.inl t.1, t.2⟩
theorem intsD_length : ∀ (n : Nat) (lo : Int), (intsD lo n).length = n
  | 0, _ => rfl
  | n + 1, lo => by simp [intsD, intsD_length n]
theorem intsD_get : ∀ (n : Nat) (lo : Int) (i : Nat), i < n → (intsD lo n)[i]? = some (.int (lo + i))
  | 0, _, _, h => absurd h (Nat.not_lt_zero _)
  | n + 1, lo, 0, _ => by simp [intsD]
  | n + 1, lo, i + 1, h => by
    have := intsD_get n (lo + 1) i (by omega)
    simp only [intsD, List.getElem?_cons_succ, this]
    congr 2
    omega
theorem walkd_range (lo : Int) (n : Nat) : WalkD K mg V ρ H (Itr lo n) (intsD lo n) := by
  intro ρ1 H1 e
  rw [intsD_length]
  refine ⟨fun i hi => hi, Nat.le_refl _, fun i x H' hi y st w => ?_⟩
  obtain ⟨rfl, rfl⟩ := y
  exact ⟨Ext.refl _ _, w, _, intsD_get n lo i hi, .int _⟩
theorem pairs_length : ∀ xs ys : List D, (pairs xs ys).length = min xs.length ys.length
  | [], _ => by simp [pairs]
  | _ :: _, [] => by simp [pairs]
  | x :: xs, y :: ys => by simp only [pairs, List.length_cons, pairs_length xs ys]; omega
theorem pairs_get : ∀ (xs ys : List D) (i : Nat) (x y : D), xs[i]? = some x → ys[i]? = some y → (pairs xs ys)[i]? = some (.tup [x, y])
  | [], _, _, _, _, h, _ => by simp at h
  | _ :: _, [], _, _, _, _, h => by simp at h
  | x :: xs, y :: ys, 0, _, _, h1, h2 => by
    simp at h1 h2
    subst h1
    subst h2
    rfl
  | x :: xs, y :: ys, i + 1, _, _, h1, h2 => by
    simp at h1 h2
    simpa [pairs] using pairs_get xs ys i _ _ h1 h2
theorem enumD_length : ∀ (xs : List D) (i : Int), (enumD i xs).length = xs.length
  | [], _ => rfl
  | x :: xs, i => by simp [enumD, enumD_length xs]
theorem enumD_get : ∀ (xs : List D) (j : Int) (i : Nat) (x : D), xs[i]? = some x → (enumD j xs)[i]? = some (.tup [.int (j + i), x])
  | [], _, _, _, h => by simp at h
  | x :: xs, j, 0, _, h => by
    simp at h
    subst h
    simp [enumD]
  | x :: xs, j, i + 1, _, h => by
    simp at h
    have := enumD_get xs (j + 1) i _ h
    simp only [enumD, List.getElem?_cons_succ, this]
    congr 4
    omega
theorem walkd_enum {t : Bool} {a : Addr} {xs : List L2.V} {ds : List D} (r : RepL K mg V ρ H ds xs) (hG : ∀ ρ' H', Ext ρ H ρ' H' → SqK t K H' a xs) : WalkD K mg V ρ H (IteK t K a) (enumD 0 ds) := by
  intro ρ1 H1 e
  have sq := hG _ _ e
  have hl := r.length
  rw [enumD_length]
  refine ⟨fun i hi => ⟨xs, xs[i]'(by omega), sq, by simp [hl ▸ hi]⟩, ⟨xs, sq, hl.symm⟩, fun i v H' hi y st w => ?_⟩
  obtain ⟨T, x, rfl, hT, rfl, h1⟩ := y
  obtain ⟨d, e1, e2⟩ := r.getV (h1 xs sq)
  refine ⟨Ext.fresh hT, w.new hT, _, enumD_get ds 0 i d e1, .tup (.inl ⟨.inl upd_same, w.fresh hT⟩) (.cons ?_ (.cons ((e2.ext e).ext (Ext.fresh hT)) .nil))⟩
  have : (0 : Int) + (i : Int) = ((i : Nat) : Int) := by omega
  rw [this]
  exact .int _
theorem walkd_zip {t u : Bool} {a b : Addr} {xs ys : List L2.V} {ds es : List D} (r1 : RepL K mg V ρ H ds xs) (r2 : RepL K mg V ρ H es ys) (h1 : ∀ ρ' H', Ext ρ H ρ' H' → SqK t K H' a xs) (h2 : ∀ ρ' H', Ext ρ H ρ' H' → SqK u K H' b ys) :
    WalkD K mg V ρ H (ItzK t u K a b) (pairs ds es) := by
  intro ρ1 H1 e
  have s1 := h1 _ _ e
  have s2 := h2 _ _ e
  have l1 := r1.length
  have l2 := r2.length
  rw [pairs_length]
  refine ⟨fun i hi => ⟨xs, ys, xs[i]'(by omega), ys[i]'(by omega), s1, s2, by simp, by simp⟩, ⟨xs, ys, s1, s2, by omega, by omega, by omega⟩, fun i v H' hi y st w => ?_⟩
  obtain ⟨T, x, z, rfl, hT, rfl, g1, g2⟩ := y
  obtain ⟨d, a1, a2⟩ := r1.getV (g1 xs s1)
  obtain ⟨f, b1, b2⟩ := r2.getV (g2 ys s2)
  exact ⟨Ext.fresh hT, w.new hT, _, pairs_get ds es i d f a1 b1, .tup (.inl ⟨.inl upd_same, w.fresh hT⟩) (.cons ((a2.ext e).ext (Ext.fresh hT)) (.cons ((b2.ext e).ext (Ext.fresh hT)) .nil))⟩
theorem walkd_str (x : Str) : WalkD K mg V ρ H (Its x) (signsD x) := by
  intro ρ1 H1 e
  have hl : (signsD x).length = x.cps.size := by simp [signsD]
  rw [hl]
  refine ⟨fun i hi => hi, Nat.le_refl _, fun i v H' hi y st w => ?_⟩
  obtain ⟨rfl, c, hc, rfl⟩ := y
  refine ⟨Ext.refl _ _, w, .str ⟨#[c]⟩, ?_, .str _⟩
  unfold signsD
  rw [List.getElem?_map, Array.getElem?_toList, hc]
  rfl
end
end Mu

end
section
set_option linter.all false
set_option Elab.async false
/-! Expressions: each form of the interpreter over the hand layer's rule. -/
namespace Mu
open PySem PySem.Spec PyProof.Rows L2

abbrev RE (X : Cx) (V : Vw) (W : WX) (f : Env → Sto → Res D) : TE := Rdg X.K X.mg V W (Rep X.K X.mg V) f
abbrev RL (X : Cx) (V : Vw) (W : WX) (f : Env → Sto → Res (List D)) : TA := Rdg X.K X.mg V W (RepL X.K X.mg V) f
abbrev RB (X : Cx) (V : Vw) (W : WX) (f : Env → Sto → Res Bool) : TT := Rdg X.K X.mg V W (fun _ _ b c => b = c) f

section
variable {X : Cx} {V : Vw} {W : WX} {x l r : Expr} {pos : Pos} {fa fb fc : Env → Sto → Res D} {ft fu : Env → Sto → Res Bool}
theorem PE.imp {t t' : TE} (h : PE X x t) (i : ∀ σ H Q, t' σ H Q → t σ H Q) : PE X x t' := ⟨fun p s σ H Q I q => h.run p s σ H Q I (i σ H Q q)⟩
theorem PT.imp {t t' : TT} (h : PT X x t) (i : ∀ σ H Q, t' σ H Q → t σ H Q) : PT X x t' := ⟨fun p s σ H Q I q => h.run p s σ H Q I (i σ H Q q)⟩
theorem PA.imp {xs : List Expr} {t t' : TA} (h : PA X xs t) (i : ∀ σ H Q, t' σ H Q → t σ H Q) : PA X xs t' := ⟨fun ps p s σ H Q I q => h.run ps p s σ H Q I (i σ H Q q)⟩
theorem PI.imp {tg : Expr} {t t' : TI} (h : PI X tg x t) (i : ∀ σ H R, t' σ H R → t σ H R) : PI X tg x t' := ⟨fun p s σ H R I q => h.run p s σ H R I (i σ H R q)⟩
theorem PI.or {tg : Expr} {t t' : TI} (h : PI X tg x t) (h' : PI X tg x t') : PI X tg x (fun σ H R => t σ H R ∨ t' σ H R) := ⟨fun p s σ H R I q => by
  rcases q with q | q
  · exact h.run p s σ H R I q
  · exact h'.run p s σ H R I q⟩
theorem s_no {f : Env → Sto → Res D} (h : ∀ env st, f env st = .stuck) : PE X x (RE X V W f) := ⟨fun p s σ H Q I ⟨ρ, env, st, _, _, q⟩ => by rw [h] at q; exact q.elim⟩
theorem st_no {f : Env → Sto → Res Bool} (h : ∀ env st, f env st = .stuck) : PT X x (RB X V W f) := ⟨fun p s σ H Q I ⟨ρ, env, st, _, _, q⟩ => by rw [h] at q; exact q.elim⟩
theorem Post.some {α β : Type} {K : PySem.W.Frag} {mg : Str → Option Value} {V : Vw} {σ : L2.St} {ρ : Rho} {H : Hp} {R : Rho → Hp → α → β → Prop} {o : Option α} {st : Sto} {Q : β → Hp → Prop} (h : Post K mg V W σ ρ H R (.of o st) Q) :
    ∃ a, o = some a ∧ Post K mg V W σ ρ H R (.ok a st) Q := by
  cases o with
  | none => exact h.elim
  | some a => exact ⟨a, rfl, h⟩

theorem s_var {i : Nat} {y : Str} (hN : X.N[i]? = some y) (hv : Vis X.env.scope y) (hd : (y == ("__debug__" : Str)) = false) (hc : (y == ("__classdict__" : Str)) = false) :
    PE X (.Name y pos) (RE X V W fun env st => .of (env.at i) st) := by
  refine PE.imp (pe_var hN hv hd hc) fun σ H Q ⟨ρ, env, st, er, w, q⟩ => ?_
  obtain ⟨d, hd, q⟩ := q.some
  have e : env[i]? = some (some d) := by
    unfold Env.at at hd
    split at hd
    · rename_i e; cases hd; exact e
    · cases hd
  obtain ⟨v, h1, h2⟩ := er.at_ i d e
  exact ⟨v, h1, q.here w h2⟩
theorem s_val {d : D} {v : L2.V} (h : PE X x (tC v)) (r : ∀ ρ H, Rep X.K X.mg V ρ H d v) : PE X x (RE X V W fun _ st => .ok d st) :=
  PE.imp h fun σ H Q ⟨ρ, env, st, er, w, q⟩ => q.here w (r ρ H)
theorem Rdg.go {α β γ δ : Type} {K : PySem.W.Frag} {mg : Str → Option Value} {V : Vw} {σ : L2.St} {ρ : Rho} {H : Hp} {R : Rho → Hp → α → β → Prop} {R' : Rho → Hp → γ → δ → Prop} {st : Sto} {env : Env} {f : Env → Sto → Res α} {g : α → Sto → Res γ} {Q : δ → Hp → Prop} {Q' : β → Hp → Prop}
    (er : EnvRep K mg V ρ H env σ) (w : Wd K mg V ρ st H) (h : Post K mg V W σ ρ H R' ((f env st).bind g) Q)
    (k : ∀ ρ1 a st1 v H1, Ext ρ H ρ1 H1 → EnvRep K mg V ρ1 H1 env σ → Wd K mg V ρ1 st1 H1 → R ρ1 H1 a v → Post K mg V W σ ρ1 H1 R' (g a st1) Q → Q' v H1) : Rdg K mg V W R f σ H Q' := by
  obtain ⟨ρ0, env0, st0, er0, w0, q0⟩ := Rdg.bind (R := R) er w h
  exact ⟨ρ0, env0, st0, er0, w0, q0.mono fun v H1 ⟨ρ1, d, st1, e1, er1, w1, r1, q1⟩ => k ρ1 d st1 v H1 e1 er1 w1 r1 q1⟩
/-- the same, with what was run -/
theorem Rdg.goE {α β γ δ : Type} {K : PySem.W.Frag} {mg : Str → Option Value} {V : Vw} {σ : L2.St} {ρ : Rho} {H : Hp} {R : Rho → Hp → α → β → Prop} {R' : Rho → Hp → γ → δ → Prop} {st : Sto} {env : Env} {f : Env → Sto → Res α} {g : α → Sto → Res γ} {Q : δ → Hp → Prop} {Q' : β → Hp → Prop}
    (er : EnvRep K mg V ρ H env σ) (w : Wd K mg V ρ st H) (h : Post K mg V W σ ρ H R' ((f env st).bind g) Q)
    (k : ∀ ρ1 a st1 v H1, f env st = .ok a st1 → Ext ρ H ρ1 H1 → EnvRep K mg V ρ1 H1 env σ → Wd K mg V ρ1 st1 H1 → R ρ1 H1 a v → Post K mg V W σ ρ1 H1 R' (g a st1) Q → Q' v H1) : Rdg K mg V W R f σ H Q' := by
  refine ⟨ρ, env, st, er, w, ?_⟩
  cases e : f env st with
  | ok d st' =>
    rw [e] at h
    exact fun v H1 ρ1 e1 w1 r1 => k ρ1 d st' v H1 e e1 (er.ext e1) w1 r1 (Post.ext e1 h)
  | exc c fs st' =>
    rw [e] at h
    exact h
  | stuck =>
    rw [e] at h
    exact h
theorem s_bin (G : Ctx X) {k : Nat} (hr : Room k X.A) {o : Operator} (ha : PE X l (RE X V W fa)) (hb : PE X r (RE X V W fb)) :
    PE X (.BinOp l o r pos) (RE X V W fun env st => (fa env st).bind fun x st => (fb env st).bind fun y st => .of (binD k o (st.see x) (st.see y)) st) := by
  refine PE.imp (pe_op (op_bin (V := V) G hr o) ha hb) fun σ H Q ⟨ρ, env, st, er, w, q⟩ => ?_
  refine Rdg.go er w q fun ρ1 d st1 v H1 e1 er1 w1 r1 q1 => ?_
  refine Rdg.go er1 w1 q1 fun ρ2 e st2 u H2 e2 er2 w2 r2 q2 => ?_
  obtain ⟨z, hz, q3⟩ := q2.some
  exact ⟨ρ2, st2, _, _, z, w2, see_of w2 (r1.ext e2), see_of w2 r2, hz, fun v' H' e' w' r' => q3 v' H' ρ2 e' w' r'⟩
theorem s_catR (G : Ctx X) {k : Nat} (hr : Room k X.A) (ha : PE X l (RE X V W fa)) (hb : PE X r (RE X V W fb)) :
    PE X (.BinOp l .Add r pos) (RE X V W fun env st => (fa env st).bind fun x st => (fb env st).bind fun y st => match binD k .Add (st.see x) (st.see y) with
      | some (.lst ds) => .ok (.ref st.length) (st ++ [.lst ds])
      | _ => .stuck) := by
  refine PE.imp (pe_op op_cat ha hb) fun σ H Q ⟨ρ, env, st, er, w, q⟩ => ?_
  refine Rdg.go er w q fun ρ1 d st1 v H1 e1 er1 w1 r1 q1 => ?_
  refine Rdg.go er1 w1 q1 fun ρ2 e st2 u H2 e2 er2 w2 r2 q2 => ?_
  have r1 := see_of w2 (r1.ext e2)
  have r2 := see_of w2 r2
  generalize st2.see d = d' at r1 q2
  generalize st2.see e = e' at r2 q2
  split at q2
  · rename_i ds hz
    unfold binD at hz
    simp only at hz
    split at hz
    · cases hz
    · split at hz <;> cases hz
    · split at hz <;> cases hz
    · split at hz
      · rename_i hl
        cases hz
        obtain ⟨a, xs, rfl, t, r⟩ := r1.inv
        obtain ⟨b, ys, rfl, t', r'⟩ := r2.inv
        have l1 := r.length
        have l2 := r'.length
        refine ⟨a, b, xs, ys, rfl, rfl, t, t', by omega, fun p hp => ?_⟩
        exact q2.ok (Ext.push hp) (w2.push hp ⟨_, upd_same, (r.append r').ext (Ext.push hp)⟩) (.ref w2.last (fun c z => by cases z; rfl))
      · cases hz
    · cases hz
  · exact q2.elim
theorem s_frz (ha : PE X x (RE X V W fa)) : PE X x (RE X V W fun env st => (fa env st).bind fun x st => frzD x st) := by
  refine PE.imp ha fun σ H Q ⟨ρ, env, st, er, w, q⟩ => ?_
  refine Rdg.go er w q fun ρ1 d st1 v H1 e1 er1 w1 r1 q1 => ?_
  unfold frzD at q1
  split at q1
  · rename_i i
    split at q1
    · rename_i xs e
      cases r1 with
      | @ref _ a oa hi hq =>
        obtain ⟨h1, ys, hx, r⟩ := w1.spoken hi hq e (by intro z; cases z)
        exact q1.ok (Ext.free i) (w1.free i) (.lst ⟨hx, w1.out_free h1⟩ (r.ext (Ext.free i)))
    · exact q1.elim
  · exact q1.here w1 r1
theorem s_neg (ha : PE X l (RE X V W fa)) : PE X (.UnaryOp .USub l pos) (RE X V W fun env st => (fa env st).bind fun x st => match x with
      | .int i => .ok (.int (-i)) st
      | _ => .stuck) := by
  refine PE.imp (pe_un un_neg ha) fun σ H Q ⟨ρ, env, st, er, w, q⟩ => ?_
  refine Rdg.go er w q fun ρ1 d st1 v H1 e1 er1 w1 r1 q1 => ?_
  cases r1 with
  | int i => exact ⟨i, rfl, q1.here w1 (.int _)⟩
  | _ => exact q1.elim
theorem s_cmp {k : Nat} (hr : Room k X.A) {o : CmpOp} (hm : behindInMarks o r = false) (ha : PE X l (RE X V W fa)) (hb : PE X r (RE X V W fb)) :
    PE X (.Compare l [o] [r] pos) (RE X V W fun env st => (fa env st).bind fun x st => (fb env st).bind fun y st => .of ((cmpD o (st.see x) (st.see y)).map .bl) st) := by
  refine PE.imp (pe_cmpR (op_cmp (V := V) hr o) ha hb hm) fun σ H Q ⟨ρ, env, st, er, w, q⟩ => ?_
  refine Rdg.go er w q fun ρ1 d st1 v H1 e1 er1 w1 r1 q1 => ?_
  refine Rdg.go er1 w1 q1 fun ρ2 e st2 u H2 e2 er2 w2 r2 q2 => ?_
  obtain ⟨z, hz, q3⟩ := q2.some
  cases hc : cmpD o (st2.see d) (st2.see e) with
  | none => rw [hc] at hz; cases hz
  | some c =>
    rw [hc] at hz
    cases hz
    exact ⟨ρ2, _, _, c, see_of w2 (r1.ext e2), see_of w2 r2, hc, q3.here w2 (.bl _)⟩
/-- the same as a test -/
theorem st_cmp {k : Nat} (hr : Room k X.A) {o : CmpOp} (hm : behindInMarks o r = false) (ha : PE X l (RE X V W fa)) (hb : PE X r (RE X V W fb)) :
    PT X (.Compare l [o] [r] pos) (RB X V W fun env st => asBool ((fa env st).bind fun x st => (fb env st).bind fun y st => .of ((cmpD o (st.see x) (st.see y)).map .bl) st)) := by
  refine PT.imp (pt_cmpR (op_cmp (V := V) hr o) ha hb hm) fun σ H Q ⟨ρ, env, st, er, w, q⟩ => ?_
  have q' : Post X.K X.mg V W σ ρ H (fun _ _ b c => b = c) ((fa env st).bind fun x st => (fb env st).bind fun y st => .of (cmpD o (st.see x) (st.see y)) st) Q := by
    dsimp only at q
    revert q
    cases fa env st with
    | ok d1 s1 =>
      simp only [Res.bind_ok]
      cases fb env s1 with
      | ok d2 s2 => cases hc : cmpD o (s2.see d1) (s2.see d2) <;> simp [Res.of, hc, asBool]
      | exc _ _ _ => exact id
      | stuck => exact id
    | exc _ _ _ => exact id
    | stuck => exact id
  refine Rdg.go er w q' fun ρ1 d st1 v H1 e1 er1 w1 r1 q1 => ?_
  refine Rdg.go er1 w1 q1 fun ρ2 e st2 u H2 e2 er2 w2 r2 q2 => ?_
  obtain ⟨c, hc, q3⟩ := q2.some
  exact ⟨ρ2, _, _, c, see_of w2 (r1.ext e2), see_of w2 r2, hc, c, rfl, q3.here w2 rfl⟩
theorem s_cmp2 {k : Nat} (hr : Room k X.A) {o p : CmpOp} {y : Expr} (hm : lastMarks [o, p] [r, y] = false) (ha : PE X l (RE X V W fa)) (hb : PE X r (RE X V W fb)) (hc : PE X y (RE X V W fc)) :
    PE X (.Compare l [o, p] [r, y] pos) (RE X V W fun env st => (fa env st).bind fun x st => (fb env st).bind fun y st => match cmpD o x y with
      | some true => (fc env st).bind fun z st => .of ((cmpD p y z).map .bl) st
      | some false => .ok (.bl false) st
      | none => .stuck) := by
  refine PE.imp (pe_chain (op_cmp (V := V) hr o) (op_cmp (V := V) hr p) ha hb hc hm) fun σ H Q ⟨ρ, env, st, er, w, q⟩ => ?_
  refine Rdg.go er w q fun ρ1 d st1 v H1 e1 er1 w1 r1 q1 => ?_
  refine Rdg.go er1 w1 q1 fun ρ2 e st2 u H2 e2 er2 w2 r2 q2 => ?_
  cases h : cmpD o d e with
  | none => simp only [h] at q2; exact q2.elim
  | some c =>
    simp only [h] at q2
    refine ⟨ρ2, d, e, c, .of (r1.ext e2), .of r2, h, c, rfl, ?_⟩
    cases c with
    | false => exact iteF (q2.here w2 (.bl _))
    | true =>
      refine iteT (Rdg.go er2 w2 q2 fun ρ3 f st3 t H3 e3 er3 w3 r3 q3 => ?_)
      obtain ⟨z, hz, q3⟩ := q3.some
      cases hc : cmpD p e f with
      | none => rw [hc] at hz; cases hz
      | some c =>
        rw [hc] at hz
        cases hz
        exact ⟨ρ3, e, f, c, .of (r2.ext e3), .of r3, hc, q3.here w3 (.bl _)⟩
theorem st_cmp2 {k : Nat} (hr : Room k X.A) {o p : CmpOp} {y : Expr} (hm : lastMarks [o, p] [r, y] = false) (ha : PE X l (RE X V W fa)) (hb : PE X r (RE X V W fb)) (hc : PE X y (RE X V W fc)) :
    PT X (.Compare l [o, p] [r, y] pos) (RB X V W fun env st => asBool ((fa env st).bind fun x st => (fb env st).bind fun y st => match cmpD o x y with
      | some true => (fc env st).bind fun z st => .of ((cmpD p y z).map .bl) st
      | some false => .ok (.bl false) st
      | none => .stuck)) := by
  refine PT.imp (pt_chain (op_cmp (V := V) hr o) (op_cmp (V := V) hr p) ha hb hc hm) fun σ H Q ⟨ρ, env, st, er, w, q⟩ => ?_
  have q' : Post X.K X.mg V W σ ρ H (fun _ _ b c => b = c) ((fa env st).bind fun x st => (fb env st).bind fun y st => match cmpD o x y with
      | some true => (fc env st).bind fun z st => .of (cmpD p y z) st
      | some false => .ok false st
      | none => .stuck) Q := by
    dsimp only at q
    revert q
    cases fa env st with
    | ok d1 s1 =>
      simp only [Res.bind_ok]
      cases fb env s1 with
      | ok d2 s2 =>
        simp only [Res.bind_ok]
        cases hc : cmpD o d1 d2 with
        | none => simp [asBool]
        | some c =>
          cases c with
          | false => simp [asBool]
          | true =>
            simp only
            cases fc env s2 with
            | ok d3 s3 => cases hd : cmpD p d2 d3 <;> simp [Res.of, hd, asBool]
            | exc _ _ _ => exact id
            | stuck => exact id
      | exc _ _ _ => exact id
      | stuck => exact id
    | exc _ _ _ => exact id
    | stuck => exact id
  refine Rdg.go er w q' fun ρ1 d st1 v H1 e1 er1 w1 r1 q1 => ?_
  refine Rdg.go er1 w1 q1 fun ρ2 e st2 u H2 e2 er2 w2 r2 q2 => ?_
  cases h : cmpD o d e with
  | none => simp only [h] at q2; exact q2.elim
  | some c =>
    simp only [h] at q2
    refine ⟨ρ2, d, e, c, .of (r1.ext e2), .of r2, h, c, rfl, ?_⟩
    cases c with
    | false => exact iteF ⟨false, rfl, q2.here w2 rfl⟩
    | true =>
      refine iteT (Rdg.go er2 w2 q2 fun ρ3 f st3 t H3 e3 er3 w3 r3 q3 => ?_)
      obtain ⟨c, hc, q3⟩ := q3.some
      exact ⟨ρ3, e, f, c, .of (r2.ext e3), .of r3, hc, c, rfl, q3.here w3 rfl⟩

/-! ### truth -/
theorem s_not (ha : PE X l (RE X V W fa)) : PE X (.UnaryOp .Not l pos) (RE X V W fun env st => (fa env st).bind fun x st => .of ((truth st x).map fun c => .bl (!c)) st) := by
  refine PE.imp (pe_notT ha) fun σ H Q ⟨ρ, env, st, er, w, q⟩ => ?_
  refine Rdg.go er w q fun ρ1 d st1 v H1 e1 er1 w1 r1 q1 => ?_
  obtain ⟨z, hz, q2⟩ := q1.some
  cases h : truth st1 d with
  | none => rw [h] at hz; cases hz
  | some c =>
    rw [h] at hz
    cases hz
    exact ⟨c, truth_of w1 r1 h, q2.here w1 (.bl _)⟩
theorem s_and {rest : List Expr} (ha : PE X l (RE X V W fa)) (hb : PE X (.BoolOp .And (r :: rest) pos) (RE X V W fb)) :
    PE X (.BoolOp .And (l :: r :: rest) pos) (RE X V W fun env st => (fa env st).bind fun x st => match truth st x with
      | some true => fb env st
      | some false => .ok x st
      | none => .stuck) := by
  refine PE.imp (pe_andT ha hb) fun σ H Q ⟨ρ, env, st, er, w, q⟩ => ?_
  refine Rdg.go er w q fun ρ1 d st1 v H1 e1 er1 w1 r1 q1 => ?_
  cases h : truth st1 d with
  | none => simp only [h] at q1; exact q1.elim
  | some c =>
    simp only [h] at q1
    refine ⟨c, truth_of w1 r1 h, ?_⟩
    cases c with
    | false => exact iteF (q1.here w1 r1)
    | true => exact iteT ⟨ρ1, env, st1, er1, w1, q1⟩
theorem s_or {rest : List Expr} (ha : PE X l (RE X V W fa)) (hb : PE X (.BoolOp .Or (r :: rest) pos) (RE X V W fb)) :
    PE X (.BoolOp .Or (l :: r :: rest) pos) (RE X V W fun env st => (fa env st).bind fun x st => match truth st x with
      | some true => .ok x st
      | some false => fb env st
      | none => .stuck) := by
  refine PE.imp (pe_orT ha hb) fun σ H Q ⟨ρ, env, st, er, w, q⟩ => ?_
  refine Rdg.go er w q fun ρ1 d st1 v H1 e1 er1 w1 r1 q1 => ?_
  cases h : truth st1 d with
  | none => simp only [h] at q1; exact q1.elim
  | some c =>
    simp only [h] at q1
    refine ⟨c, truth_of w1 r1 h, ?_⟩
    cases c with
    | false => exact iteF ⟨ρ1, env, st1, er1, w1, q1⟩
    | true => exact iteT (q1.here w1 r1)
theorem st_truth (hp : ∀ whole, isTrue l X.env whole = (do let v ← whole; standAt l.pos; holding [v] (truthy v))) (ha : PE X l (RE X V W fa)) :
    PT X l (RB X V W fun env st => (fa env st).bind fun d st => .of (truth st d) st) := by
  refine PT.imp (pt_truth ha hp) fun σ H Q ⟨ρ, env, st, er, w, q⟩ => ?_
  refine Rdg.go er w q fun ρ1 d st1 v H1 e1 er1 w1 r1 q1 => ?_
  obtain ⟨c, hc, q2⟩ := q1.some
  exact ⟨c, truth_of w1 r1 hc, q2.here w1 rfl⟩
theorem st_not (ha : PT X l (RB X V W ft)) : PT X (.UnaryOp .Not l pos) (RB X V W fun env st => (ft env st).bind fun c st => .ok (!c) st) := by
  refine PT.imp (pt_not ha) fun σ H Q ⟨ρ, env, st, er, w, q⟩ => ?_
  refine Rdg.go er w q fun ρ1 d st1 v H1 e1 er1 w1 r1 q1 => ?_
  subst r1
  exact q1.here w1 rfl
theorem st_and {rest : List Expr} (ha : PT X l (RB X V W ft)) (hb : PW X (.BoolOp .And (r :: rest) pos) (RB X V W fu)) :
    PW X (.BoolOp .And (l :: r :: rest) pos) (RB X V W fun env st => (ft env st).bind fun c st => if c then fu env st else .ok false st) := by
  refine ⟨fun whole p s σ H Q I ⟨ρ, env, st, er, w, q⟩ => (pw_and ha hb).run whole p s σ H Q I ?_⟩
  refine Rdg.go er w q fun ρ1 d st1 v H1 e1 er1 w1 r1 q1 => ?_
  subst r1
  cases d with
  | false => exact iteF (Post.here (st := st1) (by simpa using q1) w1 rfl)
  | true => exact iteT ⟨ρ1, env, st1, er1, w1, by simpa using q1⟩
theorem st_or {rest : List Expr} (ha : PT X l (RB X V W ft)) (hb : PW X (.BoolOp .Or (r :: rest) pos) (RB X V W fu)) :
    PW X (.BoolOp .Or (l :: r :: rest) pos) (RB X V W fun env st => (ft env st).bind fun c st => if c then .ok true st else fu env st) := by
  refine ⟨fun whole p s σ H Q I ⟨ρ, env, st, er, w, q⟩ => (pw_or ha hb).run whole p s σ H Q I ?_⟩
  refine Rdg.go er w q fun ρ1 d st1 v H1 e1 er1 w1 r1 q1 => ?_
  subst r1
  cases d with
  | false => exact iteF ⟨ρ1, env, st1, er1, w1, by simpa using q1⟩
  | true => exact iteT (Post.here (st := st1) (by simpa using q1) w1 rfl)
theorem s_ite {t : Expr} (hc : PT X t (RB X V W ft)) (ha : PE X l (RE X V W fa)) (hb : PE X r (RE X V W fb)) :
    PE X (.IfExp t l r pos) (RE X V W fun env st => (ft env st).bind fun c st => if c then fa env st else fb env st) := by
  refine PE.imp (pe_ifExp hc ha hb) fun σ H Q ⟨ρ, env, st, er, w, q⟩ => ?_
  refine Rdg.go er w q fun ρ1 d st1 v H1 e1 er1 w1 r1 q1 => ?_
  subst r1
  cases d with
  | false => exact iteF ⟨ρ1, env, st1, er1, w1, by simpa using q1⟩
  | true => exact iteT ⟨ρ1, env, st1, er1, w1, by simpa using q1⟩

/-! ### lists of expressions -/
theorem sl_nil {f : E → Sto → Res D} : PA X [] (RL X V W fun _ st => evL f [] st) :=
  PA.imp pa_nil fun σ H Q ⟨ρ, env, st, er, w, q⟩ => Post.here (st := st) q w .nil
theorem sl_cons {e : E} {es : List E} {xs : List Expr} {f : E → Env → Sto → Res D} (hs : starEach (x :: xs) X.env = (false, eval x X.env) :: starEach xs X.env) (ha : PE X x (RE X V W (f e))) (hr : PA X xs (RL X V W fun env st => evL (fun e st => f e env st) es st)) :
    PA X (x :: xs) (RL X V W fun env st => evL (fun e st => f e env st) (e :: es) st) := by
  refine PA.imp (pa_cons ha hr hs) fun σ H Q ⟨ρ, env, st, er, w, q⟩ => ?_
  have q : Post X.K X.mg V W σ ρ H (RepL X.K X.mg V) ((f e env st).bind fun d st => (evL (fun e st => f e env st) es st).bind fun ds st => .ok (d :: ds) st) Q := q
  refine Rdg.go er w q fun ρ1 d st1 v H1 e1 er1 w1 r1 q1 => ?_
  refine Rdg.go (f := fun env st => evL (fun e st => f e env st) es st) er1 w1 q1 fun ρ2 ds st2 vs H2 e2 er2 w2 r2 q2 => ?_
  exact q2.here w2 (.cons (r1.ext e2) r2)
theorem s_tup {xs : List Expr} {kk : Nat} {fl : Env → Sto → Res (List D)} (h : PA X xs (RL X V W fl)) :
    PE X (.Tuple xs kk pos) (RE X V W fun env st => (fl env st).bind fun ds st => if ds.length ≤ sizeLine then .ok (.tup ds) st else .stuck) := by
  refine PE.imp (pe_tup h) fun σ H Q ⟨ρ, env, st, er, w, q⟩ => ?_
  refine Rdg.go er w q fun ρ1 ds st1 vs H1 e1 er1 w1 r1 q1 => ?_
  split at q1
  · rename_i hl
    refine ⟨by rw [← r1.length]; exact hl, fun p hp => ?_⟩
    exact q1.ok (Ext.fresh hp) (w1.new hp) (.tup (.inl ⟨.inl upd_same, w1.fresh hp⟩) (r1.ext (Ext.fresh hp)))
  · exact q1.elim
theorem s_lst {xs : List Expr} {fl : Env → Sto → Res (List D)} (h : PA X xs (RL X V W fl)) :
    PE X (.List xs pos) (RE X V W fun env st => (fl env st).bind fun ds st => if ds.length ≤ sizeLine then .ok (.lst ds) st else .stuck) := by
  refine PE.imp (pe_lst h) fun σ H Q ⟨ρ, env, st, er, w, q⟩ => ?_
  refine Rdg.go er w q fun ρ1 ds st1 vs H1 e1 er1 w1 r1 q1 => ?_
  split at q1
  · rename_i hl
    refine ⟨by rw [← r1.length]; exact hl, fun p hp => ?_⟩
    exact q1.ok (Ext.fresh hp) (w1.new hp) (.lst ⟨upd_same, w1.fresh hp⟩ (r1.ext (Ext.fresh hp)))
  · exact q1.elim
theorem s_lstR {xs : List Expr} {fl : Env → Sto → Res (List D)} (h : PA X xs (RL X V W fl)) :
    PE X (.List xs pos) (RE X V W fun env st => (fl env st).bind fun ds st => if ds.length ≤ sizeLine then .ok (.ref st.length) (st ++ [.lst ds]) else .stuck) := by
  refine PE.imp (pe_lst h) fun σ H Q ⟨ρ, env, st, er, w, q⟩ => ?_
  refine Rdg.go er w q fun ρ1 ds st1 vs H1 e1 er1 w1 r1 q1 => ?_
  split at q1
  · rename_i hl
    refine ⟨by rw [← r1.length]; exact hl, fun p hp => ?_⟩
    refine q1.ok (Ext.push hp) (w1.push hp ⟨_, upd_same, r1.ext (Ext.push hp)⟩) (.ref w1.last (fun c z => by cases z; rfl))
  · exact q1.elim
theorem s_idx (hp : PlainIx r) (ha : PE X l (RE X V W fa)) (hb : PE X r (RE X V W fb)) :
    PE X (.Subscript l r pos) (RE X V W fun env st => (fa env st).bind fun x st => (fb env st).bind fun j st => .of (idxD st x j) st) := by
  refine PE.imp (pe_ix ix_seq ha hb hp) fun σ H Q ⟨ρ, env, st, er, w, q⟩ => ?_
  refine Rdg.go er w q fun ρ1 d st1 v H1 e1 er1 w1 r1 q1 => ?_
  refine Rdg.go er1 w1 q1 fun ρ2 e st2 u H2 e2 er2 w2 r2 q2 => ?_
  obtain ⟨z, hz, q3⟩ := q2.some
  exact idx_of w2 (r1.ext e2) r2 hz fun v' r' => q3.here w2 r'

/-! ### slices -/
abbrev RO (X : Cx) (V : Vw) (W : WX) (f : Env → Sto → Res (Option Int)) : TO := Rdg X.K X.mg V W (fun _ _ a b => a = b) f
theorem so_none {f : E → Sto → Res D} : PO X none (RO X V W fun _ st => evO f none st) :=
  ⟨fun p s σ H Q I ⟨ρ, env, st, er, w, q⟩ => po_none.run p s σ H Q I (Post.here (st := st) q w rfl)⟩
theorem so_some {e : E} {f : E → Env → Sto → Res D} (ha : PE X x (RE X V W (f e))) : PO X (some x) (RO X V W fun env st => evO (fun e st => f e env st) (some e) st) := by
  refine ⟨fun p s σ H Q I ⟨ρ, env, st, er, w, q⟩ => (po_some ha).run p s σ H Q I ?_⟩
  have q : Post X.K X.mg V W σ ρ H (fun _ _ a b => a = b) ((f e env st).bind fun d st => match d with
    | .int i => .ok (some i) st
    | _ => .stuck) Q := q
  refine Rdg.go er w q fun ρ1 d st1 v H1 e1 er1 w1 r1 q1 => ?_
  cases r1 with
  | int i => exact ⟨i, rfl, q1.here w1 rfl⟩
  | _ => exact q1.elim
theorem cut_rep {K : PySem.W.Frag} {mg : Str → Option Value} {V : Vw} {ρ : Rho} {H : Hp} {ds : List D} {vs : List L2.V} (r : RepL K mg V ρ H ds vs) (lo hi : Option Int) : RepL K mg V ρ H (cutD ds lo hi) (cutV vs lo hi) := by
  unfold cutD cutV
  rw [r.length]
  exact (r.drop _).take _
theorem s_slc {lo hi : Option Expr} {p2 : Pos} {fl fh : Env → Sto → Res (Option Int)} (ha : PE X l (RE X V W fa)) (hl : PO X lo (RO X V W fl)) (hh : PO X hi (RO X V W fh)) :
    PE X (.Subscript l (.Slice lo hi none p2) pos) (RE X V W fun env st => (fa env st).bind fun x st => (fl env st).bind fun l st => (fh env st).bind fun h st => match x with
      | .tup xs => .ok (.tup (cutD xs l h)) st
      | .lst xs => .ok (.lst (cutD xs l h)) st
      | _ => .stuck) := by
  refine PE.imp (pe_slice (SlR.or sl_list sl_tupA) ha hl hh) fun σ H Q ⟨ρ, env, st, er, w, q⟩ => ?_
  refine Rdg.go er w q fun ρ1 d st1 v H1 e1 er1 w1 r1 q1 => ?_
  refine Rdg.go er1 w1 q1 fun ρ2 lo' st2 lo2 H2 e2 er2 w2 r2 q2 => ?_
  refine Rdg.go er2 w2 q2 fun ρ3 hi' st3 hi2 H3 e3 er3 w3 r3 q3 => ?_
  subst r2
  subst r3
  have r1 := (r1.ext e2).ext e3
  cases r1 with
  | @tup a xs ds t r =>
    refine .inr ⟨a, xs, rfl, t.sq, fun hw => ?_, fun _ p hp => ?_⟩
    · refine q3.here w3 (.tup t ?_)
      have e : cutD ds lo' hi' = ds := by
        unfold cutD
        rw [r.length, hw.1, hw.2]
        simp [← r.length]
      rw [e]
      exact r
    · exact q3.ok (Ext.fresh hp) (w3.new hp) (.tup (.inl ⟨.inl upd_same, w3.fresh hp⟩) ((cut_rep r _ _).ext (Ext.fresh hp)))
  | @lst a xs ds t r =>
    exact .inl ⟨a, xs, rfl, t.sq, fun p hp => q3.ok (Ext.fresh hp) (w3.new hp) (.lst ⟨upd_same, w3.fresh hp⟩ ((cut_rep r _ _).ext (Ext.fresh hp)))⟩
  | _ => exact q3.elim
theorem s_rev {kk : Nat} {p1 p2 p3 : Pos} (ha : PE X l (RE X V W fa)) :
    PE X (.Subscript l (.Slice none none (some (.UnaryOp .USub (.Constant (.int 1) kk p1) p2)) p3) pos) (RE X V W fun env st => (fa env st).bind fun x st => match x with
      | .lst xs => .ok (.lst xs.reverse) st
      | _ => .stuck) := by
  refine PE.imp (pe_revL ha) fun σ H Q ⟨ρ, env, st, er, w, q⟩ => ?_
  refine Rdg.go er w q fun ρ1 d st1 v H1 e1 er1 w1 r1 q1 => ?_
  cases r1 with
  | @lst a xs ds t r => exact ⟨a, xs, rfl, t.sq, fun p hp => q1.ok (Ext.fresh hp) (w1.new hp) (.lst ⟨upd_same, w1.fresh hp⟩ (r.reverse.ext (Ext.fresh hp)))⟩
  | _ => exact q1.elim

/-! ### starred items, methods of lists -/
theorem sls_nil {f : E → Sto → Res D} : PA X [] (RL X V W fun _ st => evLS f [] st) := PA.imp pa_nil fun σ H Q ⟨ρ, env, st, er, w, q⟩ => q.here w .nil
theorem sls_cons {e : E} {es : List (Bool × E)} {xs : List Expr} {f : E → Env → Sto → Res D} (hs : starEach (x :: xs) X.env = (false, eval x X.env) :: starEach xs X.env) (ha : PE X x (RE X V W (f e))) (hr : PA X xs (RL X V W fun env st => evLS (fun e st => f e env st) es st)) :
    PA X (x :: xs) (RL X V W fun env st => evLS (fun e st => f e env st) ((false, e) :: es) st) := by
  refine PA.imp (pa_cons ha hr hs) fun σ H Q ⟨ρ, env, st, er, w, q⟩ => ?_
  refine Rdg.go er w q fun ρ1 d st1 v H1 e1 er1 w1 r1 q1 => ?_
  have q1 : Post X.K X.mg V W σ ρ1 H1 (RepL X.K X.mg V) ((evLS (fun e st => f e env st) es st1).bind fun ds st => .ok (d :: ds) st) Q := q1
  refine Rdg.go er1 w1 q1 fun ρ2 ds st2 vs H2 e2 er2 w2 r2 q2 => ?_
  exact q2.here w2 (.cons (r1.ext e2) r2)
theorem sls_star {e : E} {es : List (Bool × E)} {xs : List Expr} {p : Pos} {f : E → Env → Sto → Res D} (ha : PE X x (RE X V W (f e))) (hr : PA X xs (RL X V W fun env st => evLS (fun e st => f e env st) es st)) :
    PA X (.Starred x p :: xs) (RL X V W fun env st => evLS (fun e st => f e env st) ((true, e) :: es) st) := by
  refine PA.imp (StX.pa_star ha hr) fun σ H Q ⟨ρ, env, st, er, w, q⟩ => ?_
  refine Rdg.go er w q fun ρ1 d st1 v H1 e1 er1 w1 r1 q1 => ?_
  have fin : ∀ {ds : List D} {ys : List L2.V}, RepL X.K X.mg V ρ1 H1 ds ys → Post X.K X.mg V W σ ρ1 H1 (RepL X.K X.mg V) ((evLS (fun e st => f e env st) es st1).bind fun es st => .ok (ds ++ es) st) Q →
      RL X V W (fun env st => evLS (fun e st => f e env st) es st) σ H1 fun zs H2 => Q (ys ++ zs) H2 := fun r q1 =>
    Rdg.go er1 w1 q1 fun ρ2 ds st2 vs H2 e2 er2 w2 r2 q2 => q2.here w2 ((r.ext e2).append r2)
  cases r1 with
  | tup t r => exact ⟨_, _, rfl, .inl t.sq, fin r q1⟩
  | lst t r => exact ⟨_, _, rfl, .inr t.sq, fin r q1⟩
  | _ => exact q1.elim
theorem baseOk_of {l : Expr} {name : Str} {env : PySem.Env} (h : baseOk l = true) : attributeBase l name env (eval l env) = eval l env := by
  cases l <;> first | rfl | cases h
theorem bmOk_of {K : PySem.W.Frag} {mg : Str → Option Value} {V : Vw} {ρ : Rho} {H : Hp} {st : Sto} {d : D} {v : L2.V} (w : Wd K mg V ρ st H) (r : Rep K mg V ρ H d v) (h : bmOk d st = true) : ∃ i a xs, d = .ref i ∧ v = .ref a ∧ ρ.ix[i]? = some (some a) ∧ st[i]? = some (.lst xs) := by
  unfold bmOk at h
  cases r with
  | @ref i a oa hi hq =>
    simp only at h
    split at h
    · rename_i xs e
      exact ⟨i, a, xs, rfl, rfl, (w.spoken hi hq e (by intro z; cases z)).1, e⟩
    · cases h
  | _ => cases h
section
variable {fb : Env → Sto → Res D} {apos cpos : Pos}
theorem s_bm {m : Bm} {name : Str} {id : String} {rr : L2.V → List L2.V → Hp → VK → Prop} (slot : PySem.Slot "list" name id) (hty : typeOf (.builtin id) = pure (.type "method_descriptor")) (hm : MtR X id rr)
    (hr : ∀ {ρ : Rho} {H : Hp} {st st' : Sto} {i : Nat} {a : Addr} {d d' : D} {v : L2.V} {Q : VK}, ρ.ix[i]? = some (some a) → Wd X.K X.mg V ρ st H → Rep X.K X.mg V ρ H d v → bmD m (.ref i) [d] st = some (d', st') →
      (∀ u H', Ext ρ H ρ H' → Wd X.K X.mg V ρ st' H' → Rep X.K X.mg V ρ H' d' u → Q u H') → rr (.ref a) [v] H Q)
    (hb : baseOk l = true) (hs : nStar x = true) (hline : (apos.endLine == cpos.line) = true) (ha : PE X l (RE X V W fa)) (hx : PE X x (RE X V W fb)) :
    PE X (.Call (.Attribute l name apos) [x] [] cpos) (RE X V W fun env st => (fa env st).bind fun y st => if bmOk y st then ((fb env st).bind fun d st => (Res.ok [d] st : Res (List D))).bind fun xs st => match bmD m y xs st with
      | some (d, st) => .ok d st
      | none => .stuck else .stuck) := by
  have hse : starEach [x] X.env = (false, eval x X.env) :: starEach [] X.env := by cases x <;> first | rfl | cases hs
  refine PE.imp (pe_bm PySem.F.plainAttrs_list slot hty hm ha (pa_cons hx pa_nil hse) (baseOk_of hb) (by rw [hse]; rfl) hline hse rfl) fun σ H Q ⟨ρ, env, st, er, w, q⟩ => ?_
  refine Rdg.go er w q fun ρ1 y st1 v H1 e1 er1 w1 r1 q1 => ?_
  split at q1
  · rename_i hok
    obtain ⟨i, a, xs, rfl, rfl, hi, hst⟩ := bmOk_of w1 r1 hok
    obtain ⟨ys, hys, _⟩ := w1.ob i a _ hi hst
    refine ⟨.inl ⟨rfl, ys, SqL.of hys⟩, ?_⟩
    have q1 : Post X.K X.mg V W σ ρ1 H1 (Rep X.K X.mg V) (((fb env st1).bind fun d st => (Res.ok [d] st : Res (List D))).bind fun xs st => match bmD m (.ref i) xs st with
      | some (d, st) => .ok d st
      | none => .stuck) Q := q1
    have q1' : Post X.K X.mg V W σ ρ1 H1 (Rep X.K X.mg V) ((fb env st1).bind fun d st => match bmD m (.ref i) [d] st with
      | some (d, st) => .ok d st
      | none => .stuck) Q := by
      revert q1
      cases fb env st1 <;> exact fun z => z
    refine Rdg.go er1 w1 q1' fun ρ2 d st2 u H2 e2 er2 w2 r2 q2 => ?_
    cases hbm : bmD m (.ref i) [d] st2 with
    | none => rw [hbm] at q2; exact q2.elim
    | some p =>
      obtain ⟨d', st'⟩ := p
      rw [hbm] at q2
      obtain ⟨ob, h1, h2⟩ := e2.at hi (fun b z => (Option.some.inj z).symm)
      have hi2 : ρ2.ix[i]? = some (some a) := by
        cases ob with
        | some b => rw [h1, h2 b rfl]
        | none =>
          have g := w2.gn i h1
          have : bmD m (.ref i) [d] st2 = none := by
            cases m <;> simp [bmD, g]
            all_goals first | rfl | (cases d <;> simp [bmD, g])
          rw [hbm] at this
          cases this
      exact hr hi2 w2 r2 hbm fun u H' e' w' r' => q2.ok e' w' r'
  · exact q1.elim
end
/-! ### calls -/
theorem s_blt {fl : Env → Sto → Res (List D)} {f : List D → Sto → Option D} {t : TE} (ht : ∀ σ H Q, RL X V W fl σ H (fun vs H1 => rBlt X.K X.mg V f vs H1 Q) → t σ H Q) (h : PE X x t) :
    PE X x (RE X V W fun env st => (fl env st).bind fun ds st => .of (f ds st) st) := by
  refine PE.imp h fun σ H Q ⟨ρ, env, st, er, w, q⟩ => ht σ H Q ?_
  refine Rdg.go er w q fun ρ1 ds st1 vs H1 e1 er1 w1 r1 q1 => ?_
  obtain ⟨z, hz, q2⟩ := q1.some
  exact ⟨ρ1, st1, ds, z, w1, r1, hz, fun v H' e' w' r' => q2.ok e' w' r'⟩
end
end Mu

end
section
set_option linter.all false
/-! (a, b, ..) = a tuple or a list of that length. -/
open PySem PySem.W PyProof.Rows L2
namespace Mu
theorem pg_seq {X : Cx} {pos : Pos} {es : List Expr} {k : Nat} {t : TGs} {n : Nat} (hc : X.calm = true) (h : PGs X es t) (hn : (assignEach es X.env).length = n) (hst : (assignEach es X.env).findIdx? (·.1) = none) :
    PG X (.Tuple es k pos) (fun v σ H Q => ∃ a xs, v = .ref a ∧ (SqT X.K H a xs ∨ SqL X.K H a xs) ∧ xs.length = n ∧ t xs σ H Q) := by
  refine ⟨fun pins s σ H v u Q I r hw => ?_⟩
  obtain ⟨a, xs, e1, hq, hl, hw⟩ := hw
  rcases hq with hq | hq
  · exact (pg_tup hc h hn hst).run pins s σ H _ _ Q I r ⟨a, xs, e1, hq, hl, hw⟩
  · subst e1
    cases r
    obtain ⟨its, rv, ⟨o, m, e, c1, d1, d2⟩, hz⟩ := I.list hq
    have hL : s.heap.IsList a its.toArray := ⟨o, e, c1, m, d2⟩
    have hs : (assignEach es X.env).length = its.toArray.size := by simp [hn, ← hl, rv.length]
    rw [assign_Tuple]
    refine wpAny_bind (wpAny_standAt ?_)
    unfold unpack
    rw [hs, hst]
    refine wpAny_bind (wpAny_holding (kun_itemsOf (I.ok.hd hc) hL fun h' hx => ?_))
    have I1 : Inv X pins σ H { s with heap := h' } := I.kept (t' := s.toks) fun b o e => hx b o (Nat.ne_of_lt (Heap.lt_size e)) e
    exact h.run pins _ σ H xs _ Q I1 (by simpa using rv) hw
end Mu

end
section
set_option linter.all false
set_option Elab.async false
/-! What is walked, targets, comprehensions. -/
namespace Mu
open PySem PySem.Spec PyProof.Rows L2

abbrev RI (X : Cx) (V : Vw) (W : WX) (g : Env → Sto → Res (List D)) : TI := Rdg X.K X.mg V W (fun ρ H ds J => WalkD X.K X.mg V ρ H J ds) g
section
variable {X : Cx} {V : Vw} {W : WX} {x l r tg : Expr} {pos p : Pos} {fa fb : Env → Sto → Res D}
theorem i_seq (ha : PE X x (RE X V W fa)) : PI X tg x (RI X V W fun env st => (fa env st).bind fun d st => match d with
    | .tup xs => .ok xs st
    | .lst xs => .ok xs st
    | .rol xs => .ok xs st
    | .str x => .ok (signsD x) st
    | _ => .stuck) := by
  refine PI.imp (PI.or (PI.or (pi_list ha) (pi_tup ha)) (pi_str ha)) fun σ H R ⟨ρ, env, st, er, w, q⟩ => ?_
  have left : (∀ ds st', fa env st ≠ .ok (.tup ds) st') → (∀ z st', fa env st ≠ .ok (.str z) st') → (iList X.K (RE X V W fa) σ H R ∨ iTup X.K (RE X V W fa) σ H R) ∨ iStr (RE X V W fa) σ H R := fun hn hs => by
    refine .inl (.inl (Rdg.goE er w q fun ρ1 d st1 v H1 he e1 er1 w1 r1 q1 => ?_))
    cases r1 with
    | tup t r => exact absurd he (hn _ _)
    | str z => exact absurd he (hs _ _)
    | @lst a xs ds t r => exact ⟨a, rfl, ⟨xs, t.sq⟩, q1.here w1 (walkd_list t.rol r)⟩
    | @rol a xs ds t r => exact ⟨a, rfl, ⟨xs, t.sq⟩, q1.here w1 (walkd_list t r)⟩
    | _ => exact q1.elim
  cases he : fa env st with
  | ok d st1 =>
    cases d with
    | tup ds =>
      refine .inl (.inr (Rdg.goE er w q fun ρ1 d st1 v H1 he' e1 er1 w1 r1 q1 => ?_))
      rw [he] at he'
      cases he'
      obtain ⟨a, xs, ev, t, r⟩ : ∃ a xs, v = .ref a ∧ TupAt X.K ρ1 H1 a xs ∧ RepL X.K X.mg V ρ1 H1 ds xs := by cases r1 with | tup t r => exact ⟨_, _, rfl, t, r⟩
      exact ⟨a, ev, ⟨xs, t.sq⟩, q1.here w1 (walkd_tup t r)⟩
    | str z =>
      refine .inr (Rdg.goE er w q fun ρ1 d st1 v H1 he' e1 er1 w1 r1 q1 => ?_)
      rw [he] at he'
      cases he'
      cases r1
      exact ⟨z, rfl, q1.here w1 (walkd_str z)⟩
    | _ => exact left (fun ds st' h => by rw [he] at h; cases h) fun ds st' h => by rw [he] at h; cases h
  | exc _ _ _ => exact left (fun ds st' h => by rw [he] at h; cases h) fun ds st' h => by rw [he] at h; cases h
  | stuck => exact left (fun ds st' h => by rw [he] at h; cases h) fun ds st' h => by rw [he] at h; cases h
theorem i_rng1 {fl : Env → Sto → Res (List D)} (hg : Gl X "range") (hm : X.mg "range" = none) (ha : PA X [x] (RL X V W fl)) (hs : starEach [x] X.env = [(false, eval x X.env)]) (hl : ∀ env st ds st', fl env st = .ok ds st' → ds.length = 1) :
    PI X tg (.Call (.Name "range" p) [x] [] pos) (RI X V W fun env st => (fl env st).bind fun ds st => .of (rngD ds) st) := by
  refine PI.imp (pi_range1 hg hm ha hs) fun σ H R ⟨ρ, env, st, er, w, q⟩ => ?_
  refine Rdg.goE er w q fun ρ1 ds st1 vs H1 he e1 er1 w1 r1 q1 => ?_
  have hlen := hl _ _ _ _ he
  cases r1 with
  | nil => simp at hlen
  | @cons d v ds vs r rr =>
    cases rr with
    | cons _ _ => simp at hlen
    | nil =>
      obtain ⟨z, hz, q2⟩ := Post.some q1
      cases r with
      | int j =>
        simp only [rngD] at hz
        split at hz
        · rename_i hb
          cases hz
          exact ⟨j, rfl, by omega, by omega, q2.here w1 (walkd_range 0 _)⟩
        · cases hz
      | _ => cases hz
theorem i_rng2 {fl : Env → Sto → Res (List D)} (hg : Gl X "range") (hm : X.mg "range" = none) (ha : PA X [l, r] (RL X V W fl)) (hs : starEach [l, r] X.env = [(false, eval l X.env), (false, eval r X.env)]) (hs2 : starEach [r] X.env = [(false, eval r X.env)]) (hl : ∀ env st ds st', fl env st = .ok ds st' → ds.length = 2) :
    PI X tg (.Call (.Name "range" p) [l, r] [] pos) (RI X V W fun env st => (fl env st).bind fun ds st => .of (rngD ds) st) := by
  refine PI.imp (pi_range2 hg hm ha hs hs2) fun σ H R ⟨ρ, env, st, er, w, q⟩ => ?_
  refine Rdg.goE er w q fun ρ1 ds st1 vs H1 he e1 er1 w1 r1 q1 => ?_
  have hlen := hl _ _ _ _ he
  cases r1 with
  | nil => simp at hlen
  | @cons d v ds vs r rr =>
    cases rr with
    | nil => simp at hlen
    | @cons d' v' ds vs r' rr =>
      cases rr with
      | cons _ _ => simp at hlen
      | nil =>
        obtain ⟨z, hz, q2⟩ := Post.some q1
        cases r with
        | int i =>
          cases r' with
          | int j =>
            simp only [rngD] at hz
            split at hz
            · rename_i ha
              split at hz
              · rename_i hb
                cases hz
                exact ⟨i, j, rfl, by omega, q2.here w1 (walkd_range i _)⟩
              · cases hz
            · cases hz
          | _ => cases hz
        | _ => cases hz
theorem sl_two (hs1 : starEach [l, r] X.env = (false, eval l X.env) :: starEach [r] X.env) (hs2 : starEach [r] X.env = (false, eval r X.env) :: starEach [] X.env) (ha : PE X l (RE X V W fa)) (hb : PE X r (RE X V W fb)) :
    PA X [l, r] (RL X V W fun env st => (fa env st).bind fun x st => (fb env st).bind fun y st => .ok [x, y] st) := by
  refine PA.imp (pa_cons ha (pa_cons hb pa_nil hs2) hs1) fun σ H Q ⟨ρ, env, st, er, w, q⟩ => ?_
  refine Rdg.go er w q fun ρ1 d st1 v H1 e1 er1 w1 r1 q1 => ?_
  refine Rdg.go er1 w1 q1 fun ρ2 e st2 u H2 e2 er2 w2 r2 q2 => ?_
  exact q2.here w2 (.cons (r1.ext e2) (.cons r2 .nil))
theorem seqK_of {d : D} {v : L2.V} {ρ : Rho} {H : Hp} {ds : List D} (r : Rep X.K X.mg V ρ H d v) (h : d = .tup ds ∨ d = .lst ds) : ∃ t a xs, v = .ref a ∧ SqK t X.K H a xs ∧ RepL X.K X.mg V ρ H ds xs ∧ ∀ ρ' H', Ext ρ H ρ' H' → SqK t X.K H' a xs := by
  rcases h with rfl | rfl
  · cases r with
    | tup t r => exact ⟨true, _, _, rfl, t.sq, r, fun _ _ e => (t.ext e).sq⟩
  · cases r with
    | lst t r => exact ⟨false, _, _, rfl, t.sq, r, fun _ _ e => (t.ext e).sq⟩
theorem i_zip {elts : List Expr} {kk : Nat} {tpos : Pos} (hg : Gl X "zip") (hm : X.mg "zip" = none) (hs1 : starEach [l, r] X.env = (false, eval l X.env) :: starEach [r] X.env) (hs2 : starEach [r] X.env = (false, eval r X.env) :: starEach [] X.env)
    (hpl : (backTo pos (starEach [r] X.env)).any (·.1) = false) (ha : PE X l (RE X V W fa)) (hb : PE X r (RE X V W fb)) :
    PI X (.Tuple elts kk tpos) (.Call (.Name "zip" p) [l, r] [] pos) (RI X V W fun env st => (fa env st).bind fun x st => (fb env st).bind fun y st => match x, y with
    | .tup xs, .tup ys => .ok (pairs xs ys) st
    | .lst xs, .lst ys => .ok (pairs xs ys) st
    | .lst xs, .tup ys => .ok (pairs xs ys) st
    | .tup xs, .lst ys => .ok (pairs xs ys) st
    | _, _ => .stuck) := by
  refine PI.imp (pi_zipK hg hm (sl_two hs1 hs2 ha hb) hs1 hpl) fun σ H R ⟨ρ, env, st, er, w, q⟩ => ?_
  have q' : Post X.K X.mg V W σ ρ H (fun ρ H ds J => WalkD X.K X.mg V ρ H J ds) (((fa env st).bind fun x st => (fb env st).bind fun y st => .ok [x, y] st).bind fun ds st => match ds with
    | [.tup xs, .tup ys] => .ok (pairs xs ys) st
    | [.lst xs, .lst ys] => .ok (pairs xs ys) st
    | [.lst xs, .tup ys] => .ok (pairs xs ys) st
    | [.tup xs, .lst ys] => .ok (pairs xs ys) st
    | _ => .stuck) R := by
    dsimp only at q
    revert q
    cases fa env st with
    | ok d1 s1 =>
      simp only [Res.bind_ok]
      cases fb env s1 with
      | ok d2 s2 => simp only [Res.bind_ok]; cases d1 <;> cases d2 <;> exact id
      | exc _ _ _ => exact id
      | stuck => exact id
    | exc _ _ _ => exact id
    | stuck => exact id
  refine Rdg.go (f := fun env st => (fa env st).bind fun x st => (fb env st).bind fun y st => .ok [x, y] st) er w q' fun ρ1 ds st1 vs H1 e1 er1 w1 r1 q1 => ?_
  have fin : ∀ {d e : D} {ds es : List D}, RepL X.K X.mg V ρ1 H1 [d, e] vs → (d = .tup ds ∨ d = .lst ds) → (e = .tup es ∨ e = .lst es) → Post X.K X.mg V W σ ρ1 H1 (fun ρ H ds J => WalkD X.K X.mg V ρ H J ds) (.ok (pairs ds es) st1) R →
      ∃ t u a b xs ys, vs = [.ref a, .ref b] ∧ SqK t X.K H1 a xs ∧ SqK u X.K H1 b ys ∧ R (ItzK t u X.K a b) H1 := fun r1 hd he q1 => by
    obtain ⟨x, y, rfl, rx, ry⟩ := repL2 r1
    obtain ⟨t, a, xs, rfl, s1, l1, g1⟩ := seqK_of rx hd
    obtain ⟨u, b, ys, rfl, s2, l2, g2⟩ := seqK_of ry he
    exact ⟨t, u, a, b, xs, ys, rfl, s1, s2, q1.here w1 (walkd_zip l1 l2 g1 g2)⟩
  split at q1
  · exact fin r1 (.inl rfl) (.inl rfl) q1
  · exact fin r1 (.inr rfl) (.inr rfl) q1
  · exact fin r1 (.inr rfl) (.inl rfl) q1
  · exact fin r1 (.inl rfl) (.inr rfl) q1
  · exact q1.elim
theorem i_enum {elts : List Expr} {kk : Nat} {tpos : Pos} (hg : Gl X "enumerate") (hm : X.mg "enumerate" = none) (ha : PE X x (RE X V W fa)) (hs : starEach [x] X.env = [(false, eval x X.env)]) :
    PI X (.Tuple elts kk tpos) (.Call (.Name "enumerate" p) [x] [] pos) (RI X V W fun env st => (fa env st).bind fun x st => match x with
    | .lst xs => .ok (enumD 0 xs) st
    | .tup xs => .ok (enumD 0 xs) st
    | _ => .stuck) := by
  refine PI.imp (pi_enumK hg hm (pa_cons ha pa_nil hs) hs) fun σ H R ⟨ρ, env, st, er, w, q⟩ => ?_
  refine Rdg.go er w q fun ρ1 d st1 v H1 e1 er1 w1 r1 q1 => ?_
  split at q1
  · obtain ⟨t, a, xs, rfl, s1, l1, g1⟩ := seqK_of r1 (.inr rfl)
    exact ⟨t, a, xs, rfl, s1, q1.here w1 (walkd_enum l1 g1)⟩
  · obtain ⟨t, a, xs, rfl, s1, l1, g1⟩ := seqK_of r1 (.inl rfl)
    exact ⟨t, a, xs, rfl, s1, q1.here w1 (walkd_enum l1 g1)⟩
  · exact q1.elim
end

/-! ### targets -/
def PostT (K : PySem.W.Frag) (mg : Str → Option Value) (V : Vw) (σ : L2.St) (ρ : Rho) (H : Hp) (sl : List Nat) (r : Res Env) (Q : L2.St → Hp → Prop) : Prop := match r with
  | .ok env st => ∀ σ' H' ρ', Ext ρ H ρ' H' → Wd K mg V ρ' st H' → EnvRep K mg V ρ' H' env σ' → σ'.length = σ.length → (∀ j, j ∉ sl → σ'[j]? = σ[j]?) → Q σ' H'
  | _ => False
def RT (X : Cx) (V : Vw) (sl : List Nat) (g : D → Env → Sto → Res Env) : TG := fun v σ H Q => ∃ ρ d env st, Rep X.K X.mg V ρ H d v ∧ EnvRep X.K X.mg V ρ H env σ ∧ Wd X.K X.mg V ρ st H ∧ PostT X.K X.mg V σ ρ H sl (g d env st) Q
def RTs (X : Cx) (V : Vw) (sl : List Nat) (g : List D → Env → Sto → Res Env) : TGs := fun vs σ H Q => ∃ ρ ds env st, RepL X.K X.mg V ρ H ds vs ∧ EnvRep X.K X.mg V ρ H env σ ∧ Wd X.K X.mg V ρ st H ∧ PostT X.K X.mg V σ ρ H sl (g ds env st) Q
section
variable {X : Cx} {V : Vw} {W : WX} {x l r tg : Expr} {pos p : Pos} {fa fb : Env → Sto → Res D} {sl sl' : List Nat}
theorem PG.imp {t t' : TG} (h : PG X x t) (i : ∀ v σ H Q, t' v σ H Q → t v σ H Q) : PG X x t' := ⟨fun ps s σ H v u Q I rv q => h.run ps s σ H v u Q I rv (i v σ H Q q)⟩
theorem PGs.imp {xs : List Expr} {t t' : TGs} (h : PGs X xs t) (i : ∀ v σ H Q, t' v σ H Q → t v σ H Q) : PGs X xs t' := ⟨fun ps s σ H v u Q I rv q => h.run ps s σ H v u Q I rv (i v σ H Q q)⟩
theorem g_name {i : Nat} {y : Str} (hN : X.N.Nodup) (hi : X.N[i]? = some y) (hx : Loc X.env.scope y) (hf : X.fn y = true ∨ X.env.scope.names.lookup y = some .local) (hs : i ∈ sl) :
    PG X (.Name y pos) (RT X V sl fun d env st => .ok (env.set i (some d)) st) := by
  refine PG.imp (pg_name hN hi hx hf) fun v σ H Q ⟨ρ, d, env, st, rd, er, w, q⟩ => ?_
  exact q _ _ ρ (Ext.refl _ _) w (er.set rd i) (by simp) fun j hj => List.getElem?_set_ne fun e => hj (by rw [← e]; exact hs)
theorem g_tup {xs : List Expr} {kk n : Nat} {g : List D → Env → Sto → Res Env} (hc : X.calm = true) (h : PGs X xs (RTs X V sl g)) (hn : (assignEach xs X.env).length = n) (hst : (assignEach xs X.env).findIdx? (·.1) = none) :
    PG X (.Tuple xs kk pos) (RT X V sl fun d env st => match d with
      | .tup ds => if ds.length = n then g ds env st else .stuck
      | .lst ds => if ds.length = n then g ds env st else .stuck
      | _ => .stuck) := by
  refine PG.imp (pg_seq hc h hn hst) fun v σ H Q ⟨ρ, d, env, st, rd, er, w, q⟩ => ?_
  cases rd with
  | @tup a vs ds t r =>
    dsimp only at q
    split at q
    · rename_i hl
      exact ⟨a, vs, rfl, .inl t.sq, by rw [← r.length]; exact hl, ρ, ds, env, st, r, er, w, q⟩
    · exact q.elim
  | @lst a vs ds t r =>
    dsimp only at q
    split at q
    · rename_i hl
      exact ⟨a, vs, rfl, .inr t.sq, by rw [← r.length]; exact hl, ρ, ds, env, st, r, er, w, q⟩
    · exact q.elim
  | _ => exact q.elim
theorem gs_nil {g : List D → Env → Sto → Res Env} (hg : ∀ ds env st, g ds env st = match ds with
    | [] => .ok env st
    | _ => .stuck) : PGs X [] (RTs X V sl g) := by
  refine PGs.imp pgs_nil fun vs σ H Q ⟨ρ, ds, env, st, rd, er, w, q⟩ => ?_
  rw [hg] at q
  cases rd with
  | nil => exact ⟨rfl, q _ _ ρ (Ext.refl _ _) w er rfl fun _ _ => rfl⟩
  | cons _ _ => exact q.elim
theorem gs_cons {xs : List Expr} {g : D → Env → Sto → Res Env} {g' : List D → Env → Sto → Res Env} (hs : (assignEach (x :: xs) X.env).map (·.2) = assign x X.env :: (assignEach xs X.env).map (·.2)) (h1 : PG X x (RT X V sl g)) (h2 : PGs X xs (RTs X V sl g')) :
    PGs X (x :: xs) (RTs X V sl fun ds env st => match ds with
      | [] => .stuck
      | d :: ds => (g d env st).bind fun env st => g' ds env st) := by
  refine PGs.imp (pgs_cons h1 h2 hs) fun vs σ H Q ⟨ρ, ds, env, st, rd, er, w, q⟩ => ?_
  cases rd with
  | nil => exact q.elim
  | @cons d v ds vs r rr =>
    refine ⟨v, vs, rfl, ρ, d, env, st, r, er, w, ?_⟩
    dsimp only at q
    cases e : g d env st with
    | ok env1 st1 =>
      rw [e] at q
      refine fun σ1 H1 ρ1 e1 w1 er1 hl1 hj1 => ⟨ρ1, ds, env1, st1, rr.ext e1, er1, w1, ?_⟩
      simp only [Res.bind_ok] at q
      cases e2 : g' ds env1 st1 with
      | ok env2 st2 =>
        rw [e2] at q
        exact fun σ2 H2 ρ2 e2 w2 er2 hl2 hj2 => q σ2 H2 ρ2 (e1.trans e2) w2 er2 (hl2.trans hl1) fun j hj => (hj2 j hj).trans (hj1 j hj)
      | exc _ _ _ => rw [e2] at q; exact q
      | stuck => rw [e2] at q; exact q
    | exc _ _ _ => rw [e] at q; exact q
    | stuck => rw [e] at q; exact q
/-- a step of an expression within a target -/
theorem PostT.go {σ : L2.St} {ρ : Rho} {H : Hp} {st : Sto} {env : Env} {f : Env → Sto → Res D} {g : D → Sto → Res Env} {Q : L2.St → Hp → Prop} {Q' : VK}
    (er : EnvRep X.K X.mg V ρ H env σ) (w : Wd X.K X.mg V ρ st H) (h : PostT X.K X.mg V σ ρ H sl ((f env st).bind g) Q)
    (k : ∀ ρ1 a st1 v H1, Ext ρ H ρ1 H1 → EnvRep X.K X.mg V ρ1 H1 env σ → Wd X.K X.mg V ρ1 st1 H1 → Rep X.K X.mg V ρ1 H1 a v → PostT X.K X.mg V σ ρ1 H1 sl (g a st1) Q → Q' v H1) : RE X V W f σ H Q' := by
  refine ⟨ρ, env, st, er, w, ?_⟩
  cases e : f env st with
  | ok d st' =>
    rw [e] at h
    refine fun v H1 ρ1 e1 w1 r1 => k ρ1 d st' v H1 e1 (er.ext e1) w1 r1 ?_
    simp only [Res.bind_ok] at h
    revert h
    cases g d st' with
    | ok env2 st2 => exact fun h σ2 H2 ρ2 e2 => h σ2 H2 ρ2 (e1.trans e2)
    | exc _ _ _ => exact id
    | stuck => exact id
  | exc _ _ _ => rw [e] at h; exact h.elim
  | stuck => rw [e] at h; exact h
theorem g_sub (ho : PE X l (RE X V W fa)) (hi : PE X r (RE X V W fb))
    (ha : ∀ v, assign (.Subscript l r pos) X.env v = (do
      let ov ← holding [v] (eval l X.env)
      let iv ← holding [v, ov] (eval r X.env)
      standAt pos
      holding [v, ov, iv] (setItem ov iv v)
      release [v, ov, iv] [])) :
    PG X (.Subscript l r pos) (RT X V sl fun d env st => (fa env st).bind fun x st => (fb env st).bind fun j st => match x, j with
    | .ref i, .int j => match st[i]? with
      | some (.lst xs) => if 0 ≤ j ∧ j < xs.length then .ok env (st.set i (.lst (xs.set j.toNat d))) else .stuck
      | _ => .stuck
    | _, _ => .stuck) := by
  refine PG.imp (pg_sub ho hi set_list ha) fun v σ H Q ⟨ρ, d, env, st, rd, er, w, q⟩ => ?_
  refine PostT.go er w q fun ρ1 x st1 vx H1 e1 er1 w1 r1 q1 => ?_
  refine PostT.go er1 w1 q1 fun ρ2 j st2 vj H2 e2 er2 w2 r2 q2 => ?_
  have rx := r1.ext e2
  have rdd := (rd.ext e1).ext e2
  cases rx with
  | @ref i a oa hi hq =>
    cases r2 with
    | int j =>
      simp only at q2
      split at q2
      · rename_i xs ho
        obtain ⟨hi, ro⟩ := w2.spoken hi hq ho (by intro z; cases z)
        split at q2
        · rename_i hj
          obtain ⟨vs, hv, rv⟩ := ro
          have hl := rv.length
          refine ⟨a, vs, j, j.toNat, rfl, rfl, hv, by unfold ixN; rw [if_pos hj.1, if_pos (by omega)], ?_⟩
          exact q2 σ _ ρ2 (Ext.put hi) (w2.put hi ⟨_, upd_same, (RepL.set rdd j.toNat rv).ext (Ext.put hi)⟩) (er2.ext (Ext.put hi)) rfl fun _ _ => rfl
        · exact q2.elim
      · exact q2.elim
    | _ => exact q2.elim
  | _ => first | exact q2.elim | (cases r2 <;> exact q2.elim)
end
end Mu

end
section
set_option linter.all false
set_option Elab.async false
/-! A list comprehension whose parts may know the state at which its block starts. -/
namespace Mu
open PySem PySem.Spec PyProof.Rows L2

/-- the block starts at s, from the slots σ of X; its iterator's objects at fp -/
structure BlkAt (X : Cx) (σ : L2.St) (s : Shared) (H : Hp) (fp : List Addr) : Prop where
  inv : ∃ pins, Inv X pins σ H s
  fp : ∀ b ∈ fp, ∃ o, s.heap.get? b = some o ∧ ∀ v, o.data ≠ .cell v
section
variable {X : Cx} {σ : L2.St} {elt tg iter : Expr} {ifs : List Expr} {scope : Scope} {own : List (Str × Nat)} {pos : Pos} {wi : TI} {g : TG} {tt : TT} {te : TE}
/-- what the parts of a comprehension are to be, from the slots σ -/
structure LcParts (X : Cx) (σ : L2.St) (tg elt : Expr) (ifs : List Expr) (scope : Scope) (g : TG) (tt : TT) (te : TE) : Prop where
  g : ∀ (s : Shared) (H : Hp) (C : Addr) (cl : List (Str × Addr)) (fp : List Addr), BlkAt X σ s H fp → PG (X.blk s H scope (compEnvC scope cl C X.env) fp) tg g
  t : ∀ (s : Shared) (H : Hp) (C : Addr) (cl : List (Str × Addr)) (fp : List Addr), BlkAt X σ s H fp → PTs (X.blk s H scope (compEnvC scope cl C X.env) fp) ifs tt
  e : ∀ (s : Shared) (H : Hp) (C : Addr) (cl : List (Str × Addr)) (fp : List Addr), BlkAt X σ s H fp → PE (X.blk s H scope (compEnvC scope cl C X.env) fp) elt te
/-- the list D0 is filled, from the state z with its iterator at turn 0 -/
theorem lc_fill {pins : List (Addr × Obj)} {H : Hp} {z : Shared} {Q : VK} {it D0 : Addr} {fp : List Addr} {tn : Nat → Heap → Prop} {J : It} {R : Result → Shared → Prop} {W : Nat → Nat → Hp → Prop} {m0 : Nat} (hc : X.calm = true) (hN : X.N.Nodup)
    (I : Inv X pins σ H z) (ok : BlkOk X.N X.env.scope scope own) (P : LcParts X σ tg elt ifs scope g tt te) (T : Turn X.prog X.w X.K tg J fp it tn) (st : tn 0 z.heap) (hf : ∀ b ∈ fp, FpOk X pins H b ∧ b < z.heap.objs.size) (w0 : W 0 m0 H)
    (turn : ∀ i m H, W i m H → (J.stop i H ∧ Q (.ref D0) H) ∨ (J.go i H ∧ ∃ Nx : Hp → Prop, (∀ H', Nx H' → ∃ m', m' < m ∧ W (i + 1) m' H') ∧ ∀ x H', J.yld i H x H' →
      g x (wipe σ (own.map (·.2))) H' fun σ2 H2 => wipe σ2 (own.map (·.2)) = wipe σ (own.map (·.2)) ∧ tt σ2 H2 fun b H3 =>
        if b = true then te σ2 H3 fun y H4 => ∃ acc, H4 D0 = some (.lst acc) ∧ acc.length < sizeLine ∧ Nx (upd H4 D0 (.lst (acc ++ [y]))) else Nx H3))
    (fin : ∀ s' m H', Inv X pins σ H' s' → Q (.ref D0) H' → s'.heap.Ns z.heap.objs.size m → FpOk X pins H' z.heap.objs.size → R (.ok .next) s') :
    codeAny (model X.prog X.w) X.A (.compStart (.ListComp elt [⟨tg, iter, ifs, 0⟩] scope pos) 0 (.ref it) (.ref D0) (compEnvC scope (cellsFrom (z.heap.objs.size + 1) scope.names (cloFrom X.env.cells scope.names [])) z.heap.objs.size X.env)) R
      { z with heap := pushCells (z.heap.push { cls := .type "dict", data := .dict #[] }) scope.names } := by
  have at_ : BlkAt X σ z H fp := ⟨⟨pins, I⟩, T.obj _ _ st⟩
  have I0 := block_start I ok hN hf
  have G := P.g z H z.heap.objs.size (cellsFrom (z.heap.objs.size + 1) scope.names (cloFrom X.env.cells scope.names [])) fp at_
  have TT := P.t z H z.heap.objs.size (cellsFrom (z.heap.objs.size + 1) scope.names (cloFrom X.env.cells scope.names [])) fp at_
  have EE := P.e z H z.heap.objs.size (cellsFrom (z.heap.objs.size + 1) scope.names (cloFrom X.env.cells scope.names [])) fp at_
  generalize hce : compEnvC scope (cellsFrom (z.heap.objs.size + 1) scope.names (cloFrom X.env.cells scope.names [])) z.heap.objs.size X.env = ce at I0 G TT EE ⊢
  have hL : ce.locals = z.heap.objs.size := by rw [← hce]; rfl
  generalize hz2 : ({ z with heap := pushCells (z.heap.push { cls := .type "dict", data := .dict #[] }) scope.names } : Shared) = z2 at I0 ⊢
  have st2 : tn 0 z2.heap := by
    refine T.keep _ _ _ st fun b _ o e => ?_
    rw [← hz2]
    exact pushCells_keeps _ _ _ _ (Heap.get?_push_of_some _ e)
  have still : ∀ {σ' : L2.St} {H' : Hp} {s' : Shared}, Inv (X.blk z H scope ce fp) [] σ' H' s' → (∀ b ∈ fp, H' b = none) → ∀ b ∈ fp, FpOk (X.blk z H scope ce fp) [] H' b := by
    intro σ' H' s' I' hn b hb
    have q := I'.ok.exf b hb
    exact ⟨hn b hb, q.1, I'.ok.exfs b hb, .inl hb, q.2, fun p hp => by cases hp⟩
  have loop : codeAny (model X.prog X.w) X.A (.compLoop (.ListComp elt [⟨tg, iter, ifs, 0⟩] scope pos) 0 (.ref it) (.ref D0) ce) R z2 := by
    refine compLoop_any (fun n s' => ∃ i H', Inv (X.blk z H scope ce fp) [] (wipe σ (own.map (·.2))) H' s' ∧ tn i s'.heap ∧ (∀ b ∈ fp, H' b = none) ∧ W i n H') ?_ m0 ⟨0, H, I0, st2, fun b hb => (hf b hb).1.1, w0⟩
    rintro n s1 ⟨i, H1, I1, t1, n1, w1⟩
    have F1 := still I1 n1
    rcases turn i n H1 w1 with ⟨stop, done⟩ | ⟨go, Nx, less, step⟩
    · refine thnF (T.done (X.blk z H scope ce fp) rfl rfl rfl hc i [] s1 _ H1 (fun _ _ => False) I1 F1 t1 stop) fun r s2 hr => ?_
      obtain ⟨rfl, I2⟩ := hr
      have back : Inv X pins σ H1 s2 := I.call' (ch := fp) I2.os I2.base I2.hok I2.bare fun b hb => by
        obtain ⟨_, a1, a2, a3, a4, a5⟩ := (hf b hb).1
        exact ⟨a3, a1, a4, a5⟩
      obtain ⟨m, hn, _⟩ := I2.loc
      have free : H1 ce.locals = none := I2.free
      have hn : s2.heap.Ns ce.locals m := hn
      rw [hL] at hn free
      exact fin s2 m H1 back done hn (I.fpOk (Nat.le_refl _) free)
    · refine thnF (T.item (X.blk z H scope ce fp) rfl rfl rfl hc i [] s1 _ H1 (fun _ _ => False) I1 F1 t1 go) fun r s2 hr => ?_
      obtain ⟨u, rfl, h2⟩ := hr
      refine thnF h2 fun _ s3 h3 => ?_
      obtain ⟨x, H3, I3, r3, y3, t3, n3⟩ := h3
      have pinned := I3.pinned (still I3 n3) (T.obj _ _ t3)
      refine thnF (G.run _ s3 _ H3 x u _ pinned r3 (step x H3 y3)) fun _ s4 h4 => ?_
      obtain ⟨σ4, H4, I4, e4, q4⟩ := h4
      refine thnF (TT.run _ s4 σ4 H4 _ I4 q4) fun b s5 h5 => ?_
      obtain ⟨H5, I5, q5⟩ := h5
      have next : ∀ {s' : Shared} {H' : Hp}, Inv (X.blk z H scope ce fp) ([] ++ pinsAt fp s3.heap) σ4 H' s' → Nx H' →
          ∃ m, m < n ∧ ∃ i H', Inv (X.blk z H scope ce fp) [] (wipe σ (own.map (·.2))) H' s' ∧ tn i s'.heap ∧ (∀ b ∈ fp, H' b = none) ∧ W i m H' := by
        intro s' H' I' nx
        obtain ⟨m', lt, w'⟩ := less H' nx
        have same : ∀ b ∈ fp, ∀ o, s3.heap.get? b = some o → s'.heap.get? b = some o ∧ H' b = none := fun b hb o e => by
          have q := I'.pin (b, o) (List.mem_append_right _ (List.mem_append_right _ (mem_pinsAt hb e)))
          exact ⟨q.1, q.2.1⟩
        have len : (wipe σ (own.map (·.2))).length = σ4.length := by rw [← e4, wipe_length]
        refine ⟨m', lt, i + 1, H', (I'.unpinned (pins := [])).weak len fun j v e => ?_, T.keep _ _ _ t3 fun b hb o e => (same b hb o e).1, fun b hb => ?_, w'⟩
        · rw [← e4] at e
          exact (wipe_some e).1
        · obtain ⟨o, e, _⟩ := T.obj _ _ t3 b hb
          exact (same b hb o e).2
      cases b with
      | false => exact next I5 q5
      | true =>
        refine thnF (EE.run _ s5 σ4 H5 _ I5 q5) fun y s6 h6 => ?_
        obtain ⟨yv, H6, I6, r6, acc, hD, hs, nx⟩ := h6
        exact app_ok (X := X.blk z H scope ce fp) I6 hD hs r6 fun s7 I7 => next I7 nx
  exact codeAny_compStart_list loop (T.self X.A 0 _ _ _ st2 loop)
theorem lc_all {pins : List (Addr × Obj)} {s : Shared} {H : Hp} {Q : VK} {pos' : Pos} {use : Option (Value → Sem Unit)} {Qf : Value → Shared → Prop} (hc : X.calm = true) (hN : X.N.Nodup) (I : Inv X pins σ H s) (hi : PI X tg iter wi)
    (ok : BlkOk X.N X.env.scope scope own) (P : LcParts X σ tg elt ifs scope g tt te) (hs : ∀ x, foldedSetIterable iter X.env x = pure x) (h : tLc wi g tt te (own.map (·.2)) σ H Q)
    (fin : ∀ D0 C s' m H', Inv X pins σ H' s' → Q (.ref D0) H' → s'.heap.Ns C m → FpOk X pins H' C → compPost (model X.prog X.w) X.A X.xe use Qf (.ref D0) C (.ok .next) s') :
    wpAny (model X.prog X.w) X.A (comprehension (.ListComp elt [⟨tg, iter, ifs, 0⟩] scope pos) scope X.env pos' (newList []) false (eval iter X.env) use) Qf X.xe s := by
  have has : ∀ y ∈ scope.names, y.2 = .free → ∃ c, X.env.cells.lookup y.1 = some c := fun y hy e => by
    rcases ok.free y hy e with k | k
    · exact I.ok.has _ (.inl k)
    · exact I.ok.has _ (.inr k)
  refine wpAny_comprehension_free (use := use) rfl hs (closure_ok has) ok.kind (fun y hy e => by rw [ok.uniq y hy, e]) (thn (hi.run pins s σ H _ I h) fun xv s1 hx => thn hx fun itv s2 h2 => ?_)
  obtain ⟨it, fp, tn, J, H2, rfl, I2, T, st2, f2, q⟩ := h2
  refine wpAny_newObj_type (newEnv_comp ?_) (by show 0 ≤ sizeLine; decide)
  have nD : H2 s2.heap.objs.size = none := I2.hok.fresh (Nat.le_refl _)
  obtain ⟨W, ⟨m0, w0⟩, turn⟩ := q s2.heap.objs.size nD
  have lt : ∀ b ∈ fp, b < s2.heap.objs.size := fun b hb => by
    obtain ⟨o, e, _⟩ := T.obj _ _ st2 b hb
    exact Heap.lt_size e
  have I3 : Inv X pins σ (upd H2 s2.heap.objs.size (.lst [])) { s2 with heap := s2.heap.push { cls := .type "list", data := .seq ([] : List Value).toArray } } :=
    I2.laid (t' := s2.toks) (fun b o e => Heap.get?_push_of_some _ e) (Nat.le_refl _) ⟨Nat.zero_le _, [], 0, .nil, Heap.get?_push_size _ rfl⟩
  refine lc_fill (R := compPost (model X.prog X.w) X.A X.xe use Qf (.ref s2.heap.objs.size) _) hc hN I3 ok P T (T.keep _ _ _ st2 fun b _ o e => Heap.get?_push_of_some _ e) (fun b hb => ⟨⟨?_, (f2 b hb).2⟩, ?_⟩) w0 turn fun s' m H' I' hq hn hf => fin _ _ s' m H' I' hq hn hf
  · rw [upd_ne (Nat.ne_of_lt (lt b hb))]
    exact (f2 b hb).1
  · show b < (s2.heap.push _).objs.size
    rw [Heap.size_push]
    exact Nat.lt_succ_of_lt (lt b hb)
variable {gg : L2.St → TG} {ts : L2.St → TT} {es : L2.St → TE}
theorem pe_lcS (hc : X.calm = true) (hN : X.N.Nodup) (hi : PI X tg iter wi) (ok : BlkOk X.N X.env.scope scope own) (P : ∀ σ, LcParts X σ tg elt ifs scope (gg σ) (ts σ) (es σ)) (hs : ∀ x, foldedSetIterable iter X.env x = pure x) :
    PE X (.ListComp elt [⟨tg, iter, ifs, 0⟩] scope pos) (fun σ H Q => tLc wi (gg σ) (ts σ) (es σ) (own.map (·.2)) σ H Q) := by
  refine ⟨fun pins s σ H Q I h => ?_⟩
  rw [eval_ListComp]
  refine lc_all hc hN I hi ok (P σ) hs h fun D0 C s' m H' I' hq hn f => ⟨m, hn, fun h2 sb => ?_⟩
  obtain ⟨f0, f1, f2, f3, f4, f5⟩ := f
  exact ⟨.ref D0, H', I'.turned (t' := s'.toks) (fun b o hb e => (sb.2 b hb).trans e) f0 f1 f3 f4 f5, rfl, hq⟩
theorem ps_lcS {i : Nat} {y : Str} {py spos : Pos} (hc : X.calm = true) (hN : X.N.Nodup) (hy : X.N[i]? = some y) (hyl : X.env.scope.names.lookup y = some .local) (hsw : swapsWith (.ListComp elt [⟨tg, iter, ifs, 0⟩] scope pos) (some (.Name y py)) spos.line X.env = pure true)
    (hi : PI X tg iter wi) (ok : BlkOk X.N X.env.scope scope own) (P : ∀ σ, LcParts X σ tg elt ifs scope (gg σ) (ts σ) (es σ)) (hs : ∀ x, foldedSetIterable iter X.env x = pure x) :
    PS X (.Assign [.Name y py] (.ListComp elt [⟨tg, iter, ifs, 0⟩] scope pos) spos) (fun D σ H => tLc wi (gg σ) (ts σ) (es σ) (own.map (·.2)) σ H fun x H1 => gName i x σ H1 D.nx) := by
  refine ⟨fun pins s σ H D I h => ?_⟩
  rw [exec_Assign_Name_used _ _ _ _ hsw]
  refine wpAny_bind (wpAny_standAt (wpAny_bind ?_))
  show wpAny _ X.A (comprehension (.ListComp elt [⟨tg, iter, ifs, 0⟩] scope pos) scope X.env (firstIterPos [⟨tg, iter, ifs, 0⟩] pos) (newList []) false (eval iter X.env) (some (assign (.Name y py) X.env)) >>= fun _ => pure ()) _ _ s
  refine wpAny_bind (thn (lc_all (Qf := fun _ s' => SP X pins D .next s') hc hN I hi ok (P σ) hs h fun D0 C s' m H' I' hq hn f => ?_) fun _ s' z => wpAny_pure (wpAny_pure z))
  refine wpAny_assign_Name (store_ok2 (v := V.ref D0) I' hN hy (.inl hyl) rfl (fun s2 I2 hb => ?_) (.inr hyl))
  obtain ⟨a, sb, ha⟩ := hb
  obtain ⟨f0, f1, f2, f3, f4, f5⟩ := f
  have ne : C ≠ a := by
    rcases ha with rfl | ha
    · exact f1
    · exact fun e => f4 y a ha e.symm
  exact ⟨m, hn.sameBut sb ne, fun h3 sb3 => ⟨_, H', I2.turned (t' := s2.toks) (fun b o hb e => (sb3.2 b hb).trans e) f0 f1 f3 f4 f5, hq⟩⟩
end
end Mu

end
section
set_option linter.all false
set_option Elab.async false
/-! List comprehensions. -/
namespace Mu
open PySem PySem.Spec PyProof.Rows L2

abbrev W0 : WX := fun _ _ _ _ => False
theorem wipe_set {i : Nat} {x : Option L2.V} : ∀ {vs : List Nat} {σ : L2.St}, i ∈ vs → L2.wipe (σ.set i x) vs = L2.wipe σ vs
  | [], _, h => by simp at h
  | v :: vs, σ, h => by
    unfold L2.wipe
    by_cases hv : i ∈ vs
    · rw [wipe_set hv]
    · have e : i = v := by
        rcases List.mem_cons.mp h with e | e
        · exact e
        · exact absurd e hv
      subst e
      have aux : ∀ {ws : List Nat} {σ : L2.St}, i ∉ ws → L2.wipe (σ.set i x) ws = (L2.wipe σ ws).set i x := by
        intro ws
        induction ws with
        | nil => intro σ _; rfl
        | cons w ws ih =>
          intro σ hn
          unfold L2.wipe
          rw [ih (fun m => hn (List.mem_cons_of_mem _ m)), List.set_comm]
          exact fun e => hn (by rw [e]; exact List.mem_cons_self)
      rw [aux hv, List.set_set]
theorem wipe_at : ∀ {vs : List Nat} {σ : L2.St} {j : Nat}, (L2.wipe σ vs)[j]? = if j ∈ vs then (σ[j]?).map (fun _ => none) else σ[j]?
  | [], _, _ => by simp [L2.wipe]
  | v :: vs, σ, j => by
    unfold L2.wipe
    by_cases e : v = j
    · subst e
      simp only [List.mem_cons, true_or, if_true]
      by_cases hl : v < σ.length
      · rw [List.getElem?_set_self (by rw [L2.wipe_length]; exact hl)]
        simp [hl]
      · rw [List.getElem?_eq_none (by rw [List.length_set, L2.wipe_length]; omega), List.getElem?_eq_none (by omega)]
        rfl
    · rw [List.getElem?_set_ne e, wipe_at]
      have : (j ∈ v :: vs) = (j ∈ vs) := by simp [List.mem_cons, Ne.symm e]
      simp only [this]
theorem wipe_eq {vs sl : List Nat} {σ σ' : L2.St} (hl : σ'.length = σ.length) (hj : ∀ j, j ∉ sl → σ'[j]? = σ[j]?) (hs : ∀ j ∈ sl, j ∈ vs) : L2.wipe σ' vs = L2.wipe σ vs := by
  refine List.ext_getElem? fun j => ?_
  rw [wipe_at, wipe_at]
  by_cases h : j ∈ vs
  · rw [if_pos h, if_pos h]
    by_cases h2 : j < σ.length
    · simp [h2, hl]
    · rw [List.getElem?_eq_none (by omega), List.getElem?_eq_none (by omega)]
  · rw [if_neg h, if_neg h]
    exact hj j fun m => h (hs j m)
theorem wipe_wipe {vs : List Nat} {σ : L2.St} : L2.wipe (L2.wipe σ vs) vs = L2.wipe σ vs := by
  refine List.ext_getElem? fun j => ?_
  rw [wipe_at, wipe_at]
  by_cases h : j ∈ vs
  · simp only [h, if_true]
    cases σ[j]? <;> rfl
  · simp [h]

section
variable {X : Cx} {V : Vw} {W : WX} {gi : Env → Sto → Res (List D)} {gt : Env → D → Env → Sto → Res Env} {ft : Env → Env → Sto → Res Bool} {fe : Env → Env → Sto → Res D} {sl vs : List Nat} {rr b : Bool}
/-- the readings within a block that began at the slots σ -/
def RTc (X : Cx) (V : Vw) (b : Bool) (sl : List Nat) (gt : Env → D → Env → Sto → Res Env) (σ : L2.St) : TG := fun v σ' H Q => ∃ e0, RT X (V.at b e0 σ) sl (gt e0) v σ' H Q
def RBc (X : Cx) (V : Vw) (b : Bool) (ft : Env → Env → Sto → Res Bool) (σ : L2.St) : TT := fun σ' H Q => ∃ e0, RB X (V.at b e0 σ) W0 (ft e0) σ' H Q
def REc (X : Cx) (V : Vw) (b : Bool) (fe : Env → Env → Sto → Res D) (σ : L2.St) : TE := fun σ' H Q => ∃ e0, RE X (V.at b e0 σ) W0 (fe e0) σ' H Q
/-- the reading of a comprehension -/
theorem lc_read (hsl : ∀ j ∈ sl, j ∈ vs) {σ : L2.St} {H : Hp} {Q : VK} (h : RE X V W (compR gi gt ft fe vs rr) σ H Q) :
    tLc (RI X V W gi) (RTc X V b sl gt σ) (RBc X V b ft σ) (REc X V b fe σ) vs σ H Q := by
  obtain ⟨ρ, env, st, er, w, q⟩ := h
  rw [compR_eq] at q
  refine Rdg.go er w q fun ρ1 ds st1 J H1 e1 er1 w1 walk q1 => ?_
  intro L hL
  have hLn : L ∉ ρ1.no := fun m => (w1.pv L m).1.1 hL
  have wb := w1.atV b er1
  have walk' : WalkD X.K X.mg (V.at b env σ) ρ1 H1 J ds := fun ρ2 H2 e2 => by
    obtain ⟨g1, g2, g3⟩ := walk ρ2 H2 e2
    refine ⟨g1, g2, fun i x H' hi y st' w' => ?_⟩
    obtain ⟨ey, wy, d, hd, rd⟩ := g3 i x H' hi y st' (w'.unV w1 e2)
    exact ⟨ey, wy.view Vw.at_T Vw.at_fs Vw.at_tb (fun d fi h => (w'.frs d fi h).ext ey), d, hd, rd.mv (mv_view Vw.at_T Vw.at_fs)⟩
  refine ⟨fun i m Hc => ∃ ρ' st' acc vs', i ≤ ds.length ∧ m = ds.length - i ∧ L ∈ ρ'.no ∧ (∀ c ∈ ρ1.no, c ∈ ρ'.no) ∧ Ext ρ1 H1 ρ' Hc ∧ Wd X.K X.mg (V.at b env σ) ρ' st' Hc ∧ Hc L = some (.lst vs') ∧ RepL X.K X.mg (V.at b env σ) ρ' Hc acc vs' ∧
    Post X.K X.mg V W σ ρ1 H1 (Rep X.K X.mg V) ((compL (turnC (gt env) (ft env) (fe env) vs env) (ds.drop i) acc st').bind fun ds st => if rr then .ok (D.ref st.length) (st ++ [O.lst ds]) else .ok (D.lst ds) st) Q,
    ⟨ds.length, ρ1.hide L, st1, [], [], Nat.zero_le _, rfl, List.mem_cons_self, fun c m => List.mem_cons_of_mem _ m, Ext.hide hL, wb.hide hL, upd_same, .nil, q1⟩, ?_⟩
  rintro i m Hc ⟨ρ', st', acc, vs', hi, rfl, hLm, hsub, ex, wc, hcL, racc, qc⟩
  obtain ⟨go, stop, yld⟩ := walk' ρ' Hc ex
  by_cases hlt : i < ds.length
  · refine .inr ⟨go i hlt, fun H' => ∃ ρ' st' acc vs', L ∈ ρ'.no ∧ (∀ c ∈ ρ1.no, c ∈ ρ'.no) ∧ Ext ρ1 H1 ρ' H' ∧ Wd X.K X.mg (V.at b env σ) ρ' st' H' ∧ H' L = some (.lst vs') ∧ RepL X.K X.mg (V.at b env σ) ρ' H' acc vs' ∧
      Post X.K X.mg V W σ ρ1 H1 (Rep X.K X.mg V) ((compL (turnC (gt env) (ft env) (fe env) vs env) (ds.drop (i + 1)) acc st').bind fun ds st => if rr then .ok (D.ref st.length) (st ++ [O.lst ds]) else .ok (D.lst ds) st) Q,
      fun H' ⟨ρ2, st2, acc2, vs2, a1, a2, a3, a4, a5, a6, a7⟩ => ⟨ds.length - (i + 1), by omega, ρ2, st2, acc2, vs2, by omega, rfl, a1, a2, a3, a4, a5, a6, a7⟩, fun x H' y => ?_⟩
    obtain ⟨ey, wy, d, hd, rd⟩ := yld i x H' hlt y st' wc
    have hLix : some L ∉ ρ'.ix := (wc.pv L hLm).2
    have keep : ∀ {ρa ρb : Rho} {Ha Hb : Hp}, Ext ρa Ha ρb Hb → L ∈ ρa.no → L ∈ ρb.no := fun e m => by
      obtain ⟨l, e2, _⟩ := e.no
      rw [e2]
      exact List.mem_append_right _ m
    have keepS : ∀ {ρa ρb : Rho} {Ha Hb : Hp}, Ext ρa Ha ρb Hb → (∀ c ∈ ρ1.no, c ∈ ρa.no) → ∀ c ∈ ρ1.no, c ∈ ρb.no := fun e m c hb => by
      obtain ⟨l, e2, _⟩ := e.no
      rw [e2]
      exact List.mem_append_right _ (m c hb)
    have hdrop : ds.drop i = d :: ds.drop (i + 1) := by
      rw [List.drop_eq_getElem_cons hlt]
      congr 1
      have := List.getElem?_eq_getElem hlt
      rw [this] at hd
      exact Option.some.inj hd
    rw [hdrop] at qc
    have ery : EnvRep X.K X.mg (V.at b env σ) ρ' H' (wipeE env vs) (L2.wipe σ vs) := (((er1.mv (mv_view Vw.at_T Vw.at_fs)).ext ex).ext ey).wipe vs
    -- the target
    refine ⟨env, ρ', d, wipeE env vs, st', rd, ery, wy, ?_⟩
    have qc : Post X.K X.mg V W σ ρ1 H1 (Rep X.K X.mg V) (((turnC (gt env) (ft env) (fe env) vs env d st').bind fun o st => match o with
        | some d => if acc.length < sizeLine then compL (turnC (gt env) (ft env) (fe env) vs env) (ds.drop (i + 1)) (acc ++ [d]) st else .stuck
        | none => compL (turnC (gt env) (ft env) (fe env) vs env) (ds.drop (i + 1)) acc st).bind fun ds st => if rr then .ok (D.ref st.length) (st ++ [O.lst ds]) else .ok (D.lst ds) st) Q := qc
    unfold turnC at qc
    cases hg : gt env d (wipeE env vs) st' with
    | exc _ _ _ => rw [hg] at qc; exact qc.elim
    | stuck => rw [hg] at qc; exact qc.elim
    | ok env2 st2 =>
      rw [hg] at qc
      simp only [Res.bind_ok] at qc
      intro σ2 H2 ρ2 e2 w2 er2 hl2 hj2
      refine ⟨?_, ?_⟩
      · rw [wipe_eq hl2 hj2 hsl, wipe_wipe]
      -- the test
      refine ⟨env, ρ2, env2, st2, er2, w2, ?_⟩
      cases ht : ft env env2 st2 with
      | exc _ _ _ => rw [ht] at qc; exact qc.elim
      | stuck => rw [ht] at qc; exact qc.elim
      | ok b1 st3 =>
        rw [ht] at qc
        simp only [Res.bind_ok] at qc
        intro b' H3 ρ3 e3 w3 hb
        subst hb
        cases b1 with
        | false =>
          simp only [Bool.false_eq_true, if_false, Res.still_ok, Res.bind_ok] at qc ⊢
          have e123 := (ey.trans e2).trans e3
          have hL3 : H3 L = some (.lst vs') := e123.keep hcL hLix (fun _ z => by cases z)
          exact ⟨ρ3, st3, acc, vs', keep e123 hLm, keepS e123 hsub, ex.trans e123, w3, hL3, racc.ext e123, qc⟩
        | true =>
          simp only [if_true] at qc ⊢
          refine ⟨env, ρ3, env2, st3, er2.ext e3, w3, ?_⟩
          cases he : fe env env2 st3 with
          | exc _ _ _ => rw [he] at qc; exact qc.elim
          | stuck => rw [he] at qc; exact qc.elim
          | ok z st4 =>
            rw [he] at qc
            simp only [Res.bind_ok, Res.still_ok] at qc
            intro zv H4 ρ4 e4 w4 rz
            have e14 := ((ey.trans e2).trans e3).trans e4
            have hL4 : H4 L = some (.lst vs') := e14.keep hcL hLix (fun _ z => by cases z)
            have racc4 := racc.ext e14
            have hlen := racc4.length
            split at qc
            · rename_i hsz
              refine ⟨vs', hL4, by rw [← hlen]; exact hsz, ρ4, st4, acc ++ [z], vs' ++ [zv], keep e14 hLm, keepS e14 hsub, ?_, w4.priv (keep e14 hLm) hL4, upd_same, (racc4.append (.cons rz .nil)).mv (mv_priv (keep e14 hLm)), qc⟩
              have ee := ex.trans e14
              refine ⟨ee.no, ee.len, ee.old, ee.new, fun a o ha hn => ?_, fun a ha => ee.live a (upd_live ha)⟩
              rw [upd_ne (ne_of_none ha hL)]
              exact ee.same a o ha hn
            · exact qc.elim
  · have ei : i = ds.length := by omega
    subst ei
    refine .inl ⟨stop, ?_⟩
    rw [List.drop_eq_nil_of_le (Nat.le_refl _)] at qc
    have qc : Post X.K X.mg V W σ ρ1 H1 (Rep X.K X.mg V) (if rr then .ok (D.ref st'.length) (st' ++ [O.lst acc]) else .ok (D.lst acc) st') Q := qc
    have exs : Ext ρ1 H1 (ρ'.show ρ1.no) Hc := ⟨⟨[], rfl, by simp⟩, ex.len, ex.old, ex.new, ex.same, ex.live⟩
    have racc' := racc.mv (mv_un (V := V) (b := b) (env := env) (σ := σ))
    cases rr with
    | false =>
      simp only [Bool.false_eq_true, if_false] at qc
      exact qc.ok exs ((wc.show hsub).unV w1 exs) (.lst ⟨hcL, (wc.pv L hLm).2, hLn⟩ (racc'.mv (mv_show hsub)))
    | true =>
      simp only [if_true] at qc
      have exo : Ext ρ1 H1 ((ρ'.show ρ1.no).push L) Hc := by
        refine ⟨⟨[], rfl, by simp⟩, ?_, fun i hi => ?_, fun i a hi h => ?_, ex.same, ex.live⟩
        · show ρ1.ix.length ≤ (ρ'.ix ++ [some L]).length
          have := ex.len
          simp
          omega
        · show (ρ'.ix ++ [some L])[i]? = _ ∨ (ρ'.ix ++ [some L])[i]? = _
          rw [List.getElem?_append_left (Nat.lt_of_lt_of_le hi ex.len)]
          exact ex.old i hi
        · have h : (ρ'.ix ++ [some L])[i]? = some (some a) := h
          by_cases hl : i < ρ'.ix.length
          · rw [List.getElem?_append_left hl] at h
            exact ex.new i a hi h
          · rw [List.getElem?_append_right (by omega)] at h
            have e : i - ρ'.ix.length = 0 := by
              have := (List.getElem?_eq_some_iff.mp h).1
              simp at this
              omega
            rw [e] at h
            cases h
            exact hL
      exact qc.ok exo ((wc.own hLm hsub hLn hcL racc).unV w1 exo) (.ref (wc.show hsub).last (fun c z => by cases z; rfl))

variable {tg iter elt : Expr} {ifs : List Expr} {scope : Scope} {own : List (Str × Nat)} {pos : Pos}
/-- the parts of a comprehension are sound -/
structure CompOk (X : Cx) (V : Vw) (b : Bool) (sl : List Nat) (tg elt : Expr) (ifs : List Expr) (scope : Scope) (gt : Env → D → Env → Sto → Res Env) (ft : Env → Env → Sto → Res Bool) (fe : Env → Env → Sto → Res D) : Prop where
  g : ∀ (σ : L2.St) (e0 : Env) (s : Shared) (H : Hp) (C : Addr) (cl : List (Str × Addr)) (fp : List Addr), BlkAt X σ s H fp → PG (X.blk s H scope (compEnvC scope cl C X.env) fp) tg (RT X (V.at b e0 σ) sl (gt e0))
  t : ∀ (σ : L2.St) (e0 : Env) (s : Shared) (H : Hp) (C : Addr) (cl : List (Str × Addr)) (fp : List Addr), BlkAt X σ s H fp → PTs (X.blk s H scope (compEnvC scope cl C X.env) fp) ifs (RB X (V.at b e0 σ) W0 (ft e0))
  e : ∀ (σ : L2.St) (e0 : Env) (s : Shared) (H : Hp) (C : Addr) (cl : List (Str × Addr)) (fp : List Addr), BlkAt X σ s H fp → PE (X.blk s H scope (compEnvC scope cl C X.env) fp) elt (RE X (V.at b e0 σ) W0 (fe e0))
theorem CompOk.parts (P : CompOk X V b sl tg elt ifs scope gt ft fe) (σ : L2.St) : LcParts X σ tg elt ifs scope (RTc X V b sl gt σ) (RBc X V b ft σ) (REc X V b fe σ) :=
  ⟨fun s H C cl fp at_ => ⟨fun pins s' σ' H' v u Q I r h => by
      obtain ⟨e0, h⟩ := h
      exact (P.g σ e0 s H C cl fp at_).run pins s' σ' H' v u Q I r h⟩,
    fun s H C cl fp at_ => ⟨fun pins s' σ' H' Q I h => by
      obtain ⟨e0, h⟩ := h
      exact (P.t σ e0 s H C cl fp at_).run pins s' σ' H' Q I h⟩,
    fun s H C cl fp at_ => ⟨fun pins s' σ' H' Q I h => by
      obtain ⟨e0, h⟩ := h
      exact (P.e σ e0 s H C cl fp at_).run pins s' σ' H' Q I h⟩⟩
theorem s_comp (hc : X.calm = true) (hN : X.N.Nodup) (hi : PI X tg iter (RI X V W gi)) (ok : BlkOk X.N X.env.scope scope own) (P : CompOk X V b sl tg elt ifs scope gt ft fe)
    (hs : ∀ x, foldedSetIterable iter X.env x = pure x) (hsl : ∀ j ∈ sl, j ∈ own.map (·.2)) :
    PE X (.ListComp elt [⟨tg, iter, ifs, 0⟩] scope pos) (RE X V W (compR gi gt ft fe (own.map (·.2)) rr)) :=
  PE.imp (pe_lcS hc hN hi ok (fun σ => P.parts σ) hs) fun σ H Q h => lc_read hsl h
end
end Mu

end
section
set_option linter.all false
set_option Elab.async false
/-! What a context must bear: defs, lambdas of waiting frames, constants, exceptions. -/
namespace Mu
open PySem PySem.Spec PyProof.Rows L2

/-! ### frames that wait -/
/-- a name that stands in a cell -/
def CellK (sc : Scope) (x : Str) : Prop := sc.names.lookup x = some .cell ∨ sc.names.lookup x = some .free
/-- the cells of a waiting frame hold what its slots say -/
structure FrAt (F : FrS) (i : FrI) (h : Heap) (H : Hp) : Prop where
  nd : F.N.Nodup
  inj : ∀ x y c, F.env.cells.lookup x = some c → F.env.cells.lookup y = some c → x = y
  has : ∀ x, CellK F.env.scope x → ∃ c, F.env.cells.lookup x = some c
  cell : ∀ x c, F.env.cells.lookup x = some c → H c = none ∧ ∃ v, h.IsCell c v
  val : ∀ (j : Nat) (x : Str) (c : Addr) (v : V), F.N[j]? = some x → i.σ[j]? = some (some v) → CellK F.env.scope x → F.env.cells.lookup x = some c → ∃ u, RelV v u ∧ h.IsCell c (some u)
  len : i.σ.length = F.N.length
def FrsAt (V : Vw) (h : Heap) (H : Hp) : Prop := ∀ (d : Nat) (F : FrS) (i : FrI), V.fs[d]? = some F → V.fr[d]? = some i → FrAt F i h H
theorem IsCell.slots {h h' : Heap} {c : Addr} {v : Option Value} (hc : h.IsCell c v) (k : ∀ o, h.get? c = some o → ∃ sl, h'.get? c = some { o with slots := sl }) : h'.IsCell c v := by
  obtain ⟨o, ho, hd⟩ := hc
  obtain ⟨sl, q⟩ := k o ho
  exact ⟨_, q, hd⟩
theorem FrAt.un {F : FrS} {i : FrI} {h h' : Heap} {H H' : Hp} {fs ex : List Addr} (a : FrAt F i h H) (u : Un fs ex H H' h h') (hx : ∀ b ∈ ex, ∀ v, ¬ h.IsCell b v) : FrAt F i h' H' := by
  have nx : ∀ {x c}, F.env.cells.lookup x = some c → c ∉ ex := fun {x c} e m => by
    obtain ⟨_, v, hv⟩ := a.cell x c e
    exact hx c m v hv
  refine ⟨a.nd, a.inj, a.has, fun x c e => ?_, fun j x c v h1 h2 h3 h4 => ?_, a.len⟩
  · obtain ⟨n, v, hv⟩ := a.cell x c e
    obtain ⟨o, ho, hd⟩ := id hv
    exact ⟨u.free c o ho n (nx e), v, IsCell.slots hv fun o ho => u.any ho n (nx e)⟩
  · obtain ⟨n, _⟩ := a.cell x c h4
    obtain ⟨w, r, hw⟩ := a.val j x c v h1 h2 h3 h4
    exact ⟨w, r, IsCell.slots hw fun o ho => u.any ho n (nx h4)⟩
theorem FrsAt.un {V : Vw} {h h' : Heap} {H H' : Hp} {fs ex : List Addr} (a : FrsAt V h H) (u : Un fs ex H H' h h') (hx : ∀ b ∈ ex, ∀ v, ¬ h.IsCell b v) : FrsAt V h' H' := fun d F i h1 h2 => (a d F i h1 h2).un u hx
theorem FrsAt.kept {V : Vw} {h h' : Heap} {H : Hp} (a : FrsAt V h H) (k : ∀ b o, h.get? b = some o → h'.get? b = some o) : FrsAt V h' H := fun d F i h1 h2 => (a d F i h1 h2).un (fs := []) (ex := []) (Un.kept k) (fun b m => by cases m)
/-- one's own frame -/
theorem FrAt.own {X : Cx} {pins : List (Addr × Obj)} {σ : L2.St} {H : Hp} {s : Shared} {env : Env} {lams : List E} (I : Inv X pins σ H s) (nd : X.N.Nodup) : FrAt ⟨X.env, X.N, lams⟩ ⟨env, σ⟩ s.heap H := by
  refine ⟨nd, I.ok.inj, fun x h => I.ok.has x h, fun x c e => ⟨I.freeC x c e, I.cell x c e⟩, fun j x c v h1 h2 h3 h4 => ?_, I.len⟩
  obtain ⟨m, hn, hl⟩ := I.loc
  have h3 : X.env.scope.names.lookup x = some .cell ∨ X.env.scope.names.lookup x = some .free := h3
  obtain ⟨u, r, q⟩ := hl j x v h1 h2 (h3.elim (fun k => .inr (.inl k)) fun k => .inr (.inr k))
  refine ⟨u, r, ?_⟩
  rcases q with ⟨k, _⟩ | ⟨_, c', e', z⟩
  · have k : X.env.scope.names.lookup x = some .local := k
    rcases h3 with h3 | h3 <;> rw [h3] at k <;> cases k
  · have h4 : X.env.cells.lookup x = some c := h4
    rw [h4] at e'
    cases e'
    exact z
theorem FrsAt.at {X : Cx} {V : Vw} {pins : List (Addr × Obj)} {σ : L2.St} {H : Hp} {s : Shared} {b : Bool} {env : Env} {lams : List E} (a : FrsAt V s.heap H) (I : Inv X pins σ H s) (nd : X.N.Nodup) (hb : b = true → V.fs[V.fr.length]? = some ⟨X.env, X.N, lams⟩) : FrsAt (V.at b env σ) s.heap H := by
  cases b with
  | false => exact a
  | true =>
    intro d F i h1 h2
    have h1 : V.fs[d]? = some F := h1
    have h2 : (V.fr ++ [⟨env, σ⟩])[d]? = some i := h2
    by_cases hl : d < V.fr.length
    · rw [List.getElem?_append_left hl] at h2
      exact a d F i h1 h2
    · rw [List.getElem?_append_right (by omega)] at h2
      have e : d - V.fr.length = 0 := by
        have := (List.getElem?_eq_some_iff.mp h2).1
        simp at this
        omega
      have e2 : d = V.fr.length := by omega
      rw [e] at h2
      cases h2
      rw [e2, hb rfl] at h1
      cases h1
      exact FrAt.own I nd

/-! ### defs that may raise, where no object is under way -/
structure FnG (P : Program) (w : World) (K : PySem.W.Frag) (mg : Str → Option Value) (base : Heap) (V : Vw) (k : Nat) (f : Addr) (fd : FuncData) (ps : List Str) (sp : Sp) : Prop where
  len : ∀ vs H Q E, sp vs H Q E → vs.length = ps.length
  run : ∀ (A : Around) (outer : List PySem.Env) (s : Shared) (H : Hp) (args : Args) (us : List Value) (vs : List L2.V) (Q : VK) (E : XK), Room k A → A.guards = some [] → Env0 P w K mg base A outer s H → FrsAt V s.heap H →
    BindsTo s fd args (ps.zip us) → Vals vs us → sp vs H Q E → codeAny (model P w) A (.call (.ref f) args) (CR (L2.CX P w) outer P w H s Q E) s
/-- what a def promises: what the interpreter's call says -/
def spC (K : PySem.W.Frag) (mg : Str → Option Value) (V : Vw) (n : Nat) (call : List D → Sto → Res D) : Sp := fun vs H Q E => vs.length = n ∧ ∃ ρ ds st, RepL K mg V ρ H ds vs ∧ Wd K mg V ρ st H ∧ Post K mg V (fun c d _ H => E c d H) [] ρ H (Rep K mg V) (call ds st) Q
/-- what a lambda promises -/
def CloG (P : Program) (w : World) (K : PySem.W.Frag) (mg : Str → Option Value) (base : Heap) (V : Vw) (k : Nat) (cl : Nat → Nat → List D → Sto → Res D) : Prop :=
  ∀ (A : Around) (outer : List PySem.Env) (s : Shared) (H : Hp) (d i : Nat) (f c : Addr) (F : FrS) (params : Arguments) (body : Expr) (scope : Scope) (ρ : Rho) (st : Sto) (Q : VK) (E : XK), Room k A → A.guards = some [] → Env0 P w K mg base A outer s H → FrsAt V s.heap H →
    V.fs[d]? = some F → LamOk V.T F i params body scope → H f = some (LamO f F params body scope c) → H c = some (LamX.CodeO c (F.env.qual ++ "<lambda>")) → Wd K mg V ρ st H →
    Post K mg V (fun c d _ H => E c d H) [] ρ H (Rep K mg V) (cl d i [] st) Q → codeAny (model P w) A (.call (.ref f) ⟨[], []⟩) (CR (L2.CX P w) outer P w H s Q E) s
section
variable {X : Cx} {V : Vw} {W : WX} {k : Nat} {f : Addr} {fd : FuncData} {ps : List Str} {sp : Sp} {x : Str} {p pos : Pos} {e : Expr} {es : List Expr} {t : TA}
theorem run_fnG {pins : List (Addr × Obj)} {σ : L2.St} {H : Hp} {s : Shared} {Q : VK} {us ws : List Value} {vs zs : List L2.V} (F : FnG X.prog X.w X.K X.mg X.base V k f fd ps sp) (hr : Room k X.A) (hg : X.A.guards = some []) (hb : Binds X.K fd ps ws) (rz : Vals zs ws) (tk : Takes X W)
    (I : Inv X pins σ H s) (fa : FrsAt V s.heap H) (r : Vals vs us) (h : sp (vs ++ zs) H Q (WE W σ)) : wpAny (model X.prog X.w) X.A (call (.ref f) us) (EP X pins σ Q) X.xe s := by
  have r2 : Vals (vs ++ zs) (us ++ ws) := r.append rz
  have hl : (us ++ ws).length = ps.length := by rw [← r2.length]; exact F.len _ _ _ _ h
  have q := F.run X.A X.stack s H ⟨us, []⟩ (us ++ ws) (vs ++ zs) Q (WE W σ) hr hg I.env0 fa (hb s us I.kIn hl) r2 h
  refine wpAny_call (codeAny_mono q fun r s' hq => ?_)
  match r, hq with
  | .error e, hq => exact passAt tk σ pins H s e s' I hq
  | .ok (.ret u), hq => exact I.after hq
/-- a call of what stands at f, however it runs -/
def CallAt (X : Cx) (f : Addr) (r : L2.St → List L2.V → Hp → VK → Prop) : Prop :=
  ∀ (pins : List (Addr × Obj)) (s : Shared) (σ : L2.St) (H : Hp) (xs : List L2.V) (us : List Value) (Q : VK), Inv X pins σ H s → Vals xs us → r σ xs H Q → wpAny (model X.prog X.w) X.A (call (.ref f) us) (EP X pins σ Q) X.xe s
theorem pe_callK {r : L2.St → List L2.V → Hp → VK → Prop} (hc : CallAt X f r) (hgl : Gl X x) (hm : X.mg x = some (.ref f)) (hk : PySem.W.keepIn X.K (.ref f) = true)
    (ha : PA X (e :: es) t) (hdb : (x == ("__debug__" : Str)) = false) (he : starEach (e :: es) X.env = (false, eval e X.env) :: starEach es X.env) (hpl : (backTo pos (starEach es X.env)).any (·.1) = false) :
    PE X (.Call (.Name x p) (e :: es) [] pos) (fun σ H Q => t σ H fun vs H1 => r σ vs H1 Q) := by
  refine ⟨fun pins s σ H Q I h => wpAny_Call_Name_kw (ld_glob I hgl hm ?_ hdb)⟩
  refine PySem.W.callWith_K (h₀ := X.base) I.ok.mod.kin hk (thn (ha.run pos pins s σ H _ I h) fun us s1 hq => ?_) he hpl
  obtain ⟨vs, H1, I1, r, q⟩ := hq
  exact ⟨I1.kIn, hc pins s1 σ H1 vs us Q I1 r q⟩
theorem pe_callK0 {r : L2.St → List L2.V → Hp → VK → Prop} (hc : CallAt X f r) (hgl : Gl X x) (hm : X.mg x = some (.ref f)) (hk : PySem.W.keepIn X.K (.ref f) = true)
    (hdb : (x == ("__debug__" : Str)) = false) : PE X (.Call (.Name x p) [] [] pos) (fun σ H Q => r σ [] H Q) := by
  refine ⟨fun pins s σ H Q I h => wpAny_Call_Name_kw (ld_glob I hgl hm ?_ hdb)⟩
  exact PySem.W.callWith_K0 I.kIn hk (hc pins s σ H [] [] Q I .nil h)
/-- what a name holds is called -/
theorem pe_callX {tf : TE} {r : Addr → L2.St → List L2.V → Hp → VK → Prop} (hv : PE X (.Name x p) tf) (hc : ∀ f, CallAt X f (r f))
    (ha : PA X (e :: es) t) (he : starEach (e :: es) X.env = (false, eval e X.env) :: starEach es X.env) (hpl : (backTo pos (starEach es X.env)).any (·.1) = false) :
    PE X (.Call (.Name x p) (e :: es) [] pos) (fun σ H Q => tf σ H fun v H1 => ∃ f, v = .ref f ∧ PySem.W.keepIn X.K (.ref f) = true ∧ t σ H1 fun vs H2 => r f σ vs H2 Q) := by
  refine ⟨fun pins s σ H Q I h => wpAny_Call_Name_kw (thn (hv.run pins s σ H _ I h) fun u s1 ⟨v, H1, I1, r1, f, ev, hk, q1⟩ => ?_)⟩
  subst ev
  obtain rfl : u = Value.ref f := r1
  refine PySem.W.callWith_K (h₀ := X.base) I.ok.mod.kin hk (thn (ha.run pos pins s1 σ H1 _ I1 q1) fun us s2 hq => ?_) he hpl
  obtain ⟨vs, H2, I2, rv, q⟩ := hq
  exact ⟨I2.kIn, hc f pins s2 σ H2 vs us Q I2 rv q⟩
/-- .. or a lambda, without arguments -/
theorem pe_callX0 {tf : TE} {r : Addr → L2.St → List L2.V → Hp → VK → Prop} (hv : PE X (.Name x p) tf) (hc : ∀ f, CallAt X f (r f)) :
    PE X (.Call (.Name x p) [] [] pos) (fun σ H Q => tf σ H fun v H1 => ∃ f, v = .ref f ∧
      (PySem.W.keepIn X.K (.ref f) = true ∨ ∃ F params body scope c, H1 f = some (LamO f F params body scope c)) ∧ r f σ [] H1 Q) := by
  refine ⟨fun pins s σ H Q I h => wpAny_Call_Name_kw (thn (hv.run pins s σ H _ I h) fun u s1 ⟨v, H1, I1, r1, f, ev, hk, q1⟩ => ?_)⟩
  subst ev
  obtain rfl : u = Value.ref f := r1
  rcases hk with hk | ⟨F, params, body, scope, c, hF⟩
  · exact PySem.W.callWith_K0 I1.kIn hk (hc f pins s1 σ H1 [] [] Q I1 .nil q1)
  · obtain ⟨⟨pm, ctv, ho⟩, _, _⟩ := I1.hok f _ hF
    exact PySem.W.callWith_F0 ⟨_, _, _, _, ho⟩ (hc f pins s1 σ H1 [] [] Q I1 .nil q1)
end
end Mu

end
section
set_option linter.all false
set_option Elab.async false
/-! What a context must bear. -/
namespace Mu
open PySem PySem.Spec PyProof.Rows L2

/-- when the message can be made -/
def cndX (K : PySem.W.Frag) (mg : Str → Option Value) (s : Bool) : L2.V → Hp → Prop := fun v H => s = true → ∃ V ρ d sh, Rep K mg V ρ H d v ∧ reprD d = some sh ∧ sh.length + 100 ≤ sizeLine
/-- an exception class's raise: PMk for one argument -/
def RaiseOk (P : Program) (w : World) (K : PySem.W.Frag) (mg : Str → Option Value) (att : Nat → Str) (C : Addr) (xi : XI) : Prop :=
  ∀ (X : Cx) (k : Nat) (x : Str) (ea : Expr) (ta : TE) (p pos : Pos), X.prog = P → X.w = w → X.K = K → X.mg = mg → X.calm = true → Room (k + 30) X.A → X.A.guards = some [] → Gl X x → mg x = some (.ref C) → PE X ea ta → (x == ("__debug__" : Str)) = false → nStar ea = true →
    PMk X (.Call (.Name x p) [ea] [] pos) (fun σ H Q => ta σ H fun y H1 => match xi.fld with
      | none => Q (.ref C) none H1
      | some f => (∀ H2, (∀ a o, H1 a = some o → H2 a = some o) → cndX K mg xi.shw y H2) ∧ ∀ d, H1 d = none → Q (.ref C) (some d) (upd H1 d (.xd [(att f, y)])))
def blts : List Str := ["len", "abs", "min", "max", "int", "bool", "str", "tuple", "list", "dict", "all", "any", "isinstance", "repr", "sum", "sorted", "range", "zip", "enumerate"]
/-- the lambdas that a frame makes: its table of code objects -/
structure MkL (X : Cx) (V : Vw) (L : List E) : Prop where
  fs : V.fs[V.fr.length]? = some ⟨X.env, X.N, L⟩
  ex : ∃ c P, X.env.code = .ref c ∧ LamX.TabB X.base X.mg c P ∧ (P, X.env.qual ++ "<lambda>") ∈ V.tb ∧ ∀ p ∈ V.tb, p.1 = P → p.2 = X.env.qual ++ "<lambda>"
structure Good (C : Cf) (c : Ct) (W : WX) (X : Cx) (V : Vw) : Prop where
  N : X.N = c.N
  sc : X.env.scope = c.sc
  fn : ∀ x, c.fnB x = true → X.fn x = true
  nd : X.N.Nodup
  T : C.T = V.T
  T2 : c.T = V.T
  cx : Ctx X
  room : Room C.k X.A
  rm : X.A.depth + 3 * C.k + 7 < recursionLimit ∧ X.A.units + 16 * C.k + 213 < cLine
  tk : Takes X W
  frs : ∀ H h, Un X.fs X.ex X.H_0 H X.s_0.heap h → FrsAt V h H
  lam : c.L ≠ [] → C.dep = V.fr.length ∧ MkL X V c.L
  call : ∀ (f : Nat) (F : Fd), V.T.fns[f]? = some F → ∃ a fd, X.mg F.name = some (.ref a) ∧ PySem.W.keepIn X.K (.ref a) = true ∧ (∀ env σ, FnG X.prog X.w X.K X.mg X.base (V.at (!c.L.isEmpty) env σ) C.k a fd F.ps (spC X.K X.mg (V.at (!c.L.isEmpty) env σ) F.ps.length (C.call env f))) ∧
    ∀ n, (∀ env ds st, ds.length = n → C.call env f ds st = .stuck) ∨ ∃ (pad : List D) (zs : List L2.V) (ws : List Value), n + pad.length = F.ps.length ∧ Vals zs ws ∧ (∀ V ρ H, RepL X.K X.mg V ρ H pad zs) ∧ Binds X.K fd F.ps ws ∧
      ∀ env ds st, ds.length = n → C.call env f ds st = C.call env f (ds ++ pad) st
  nof : ∀ f, V.T.fns[f]? = none → ∀ env ds st, C.call env f ds st = .stuck
  clo : ∀ env σ, CloG X.prog X.w X.K X.mg X.base (V.at (!c.L.isEmpty) env σ) C.k (C.clo env)
  con : ∀ (i : Nat) (x : Str) (d : D), V.T.con[i]? = some (x, d) → ∃ v u, X.mg x = some u ∧ RelV v u ∧ ∀ V ρ H, Rep X.K X.mg V ρ H d v
  blt : ∀ x ∈ blts, X.mg x = none
  cls : ∀ (i : Nat) (k : Cl), V.T.cls[i]? = some k → ∃ C, X.mg k.name = some (.ref C) ∧ (∀ xi, k.exc = some xi → RaiseOk X.prog X.w X.K X.mg V.att C xi)
  exm : ∀ (i j : Nat) (k l : Cl) (C D : Addr) (xi : XI), V.T.cls[i]? = some k → V.T.cls[j]? = some l → X.mg k.name = some (.ref C) → X.mg l.name = some (.ref D) → k.exc = some xi → l.exc ≠ none → PySem.W.exmOne X.K (.ref C) (.ref D) = some (V.T.isSub i j)
  xf : ∀ (i : Nat) (k : Cl) (C : Addr) (xi : XI) (f : Nat), V.T.cls[i]? = some k → X.mg k.name = some (.ref C) → k.exc = some xi → xi.fld = some f → XfC X.K C ∧ PySem.W.findIn X.K (.ref C) (V.att f) = some none
section
variable {C : Cf} {c : Ct} {W : WX} {X : Cx} {V : Vw}
/-- the view of what is called -/
def Ct.vw (c : Ct) (V : Vw) (env : Env) (σ : L2.St) : Vw := V.at (!c.L.isEmpty) env σ
theorem Vw.at_false {V : Vw} {env : Env} {σ : L2.St} : V.at false env σ = V := rfl
theorem Good.frsAt (G : Good C c W X V) {pins : List (Addr × Obj)} {σ : L2.St} {H : Hp} {s : Shared} (I : Inv X pins σ H s) (env : Env) : FrsAt (V.at (!c.L.isEmpty) env σ) s.heap H := by
  refine (G.frs _ _ I.base).at (lams := c.L) I G.nd fun h => ?_
  have hn : c.L ≠ [] := fun e => by rw [e] at h; cases h
  exact (G.lam hn).2.fs
theorem Good.blk (G : Good C c W X V) (s : Shared) (H : Hp) (scope : Scope) (a : Addr) (cl : List (Str × Addr)) (fp : List Addr) (σ : L2.St) (e0 : Env) (at_ : BlkAt X σ s H fp) :
    Good (C.blk e0) (c.blk scope) W0 (X.blk s H scope (compEnvC scope cl a X.env) fp) (V.at (!c.L.isEmpty) e0 σ) := by
  obtain ⟨pins, I⟩ := at_.inv
  have fa := G.frsAt I e0
  have hT : (V.at (!c.L.isEmpty) e0 σ).T = V.T := Vw.at_T
  refine ⟨G.N, by show relS scope X.env.scope = relS scope c.sc; rw [G.sc], fun x h => h, G.nd, G.T.trans hT.symm, G.T2.trans hT.symm, ⟨G.cx.calm, G.cx.gd, G.cx.seer, G.cx.tree, G.cx.plain⟩, G.room, G.rm, takes0, fun H2 h2 ub => ?_, fun h => absurd rfl h, fun f F hf => ?_, fun f hf _ => ?_, fun _ _ => ?_,
    by rw [hT]; exact G.con, G.blt, ?_, by rw [hT]; exact G.exm, ?_⟩
  · refine fa.un (h' := h2) ub fun b hb v hc => ?_
    obtain ⟨o, ho, hn⟩ := at_.fp b hb
    obtain ⟨o', ho', hd⟩ := hc
    have ho' : s.heap.get? b = some o' := ho'
    rw [ho] at ho'
    cases ho'
    exact hn v hd
  · rw [hT] at hf
    obtain ⟨a1, fd, h1, h2, h3, h4⟩ := G.call f F hf
    refine ⟨a1, fd, h1, h2, fun _ _ => h3 e0 σ, fun n => ?_⟩
    rcases h4 n with h | ⟨pad, zs, ws, b1, b2, b3, b4, b5⟩
    · exact .inl fun _ => h e0
    · exact .inr ⟨pad, zs, ws, b1, b2, b3, b4, fun _ => b5 e0⟩
  · rw [hT] at hf
    exact G.nof f hf e0
  · exact G.clo e0 σ
  · unfold Vw.att
    rw [hT]
    exact G.cls
  · unfold Vw.att
    rw [hT]
    exact G.xf
theorem Good.visOk (G : Good C c W X V) {x : Str} (h : c.vis x = true) : Vis X.env.scope x := by
  unfold Vis
  rw [G.sc]
  unfold Ct.vis Ct.kind at h
  split at h
  · exact .inl (by assumption)
  · exact .inr (.inl (by assumption))
  · exact .inr (.inr (by assumption))
  · cases h
theorem Good.locOk (G : Good C c W X V) {x : Str} (h : c.loc x = true) : L2.Loc X.env.scope x := by
  unfold L2.Loc
  rw [G.sc]
  unfold Ct.loc Ct.kind at h
  split at h
  · exact .inl (by assumption)
  · exact .inr (by assumption)
  · cases h
theorem Good.glOk (G : Good C c W X V) {x : Str} (h : c.gl x = true) : Gl X x := by
  show X.env.scope.names.lookup x = some .globalImplicit
  rw [G.sc]
  unfold Ct.gl Ct.kind at h
  split at h
  · assumption
  · cases h
theorem Good.mineOk (G : Good C c W X V) {x : Str} (h : c.mine x = true) : X.fn x = true ∨ X.env.scope.names.lookup x = some .local := by
  unfold Ct.mine at h
  rw [Bool.or_eq_true] at h
  rcases h with h | h
  · exact .inl (G.fn x h)
  · right
    rw [G.sc]
    unfold Ct.kind at h
    split at h
    · assumption
    · cases h
theorem okName_of {y : Str} (h : okName y = true) : (y == ("__debug__" : Str)) = false ∧ (y == ("__classdict__" : Str)) = false ∧ y ≠ ("__name__" : Str) := by
  unfold okName at h
  simp only [Bool.and_eq_true, Bool.not_eq_true', decide_eq_false_iff_not] at h
  exact ⟨h.1.1, h.1.2, h.2⟩
theorem star_of {x : Expr} {xs : List Expr} {env : PySem.Env} (h : nStar x = true) : starEach (x :: xs) env = (false, eval x env) :: starEach xs env := by
  cases x <;> first | rfl | cases h
theorem plain_of : ∀ {xs : List Expr} {env : PySem.Env} {pos : Pos}, xs.all nStar = true → (backTo pos (starEach xs env)).any (·.1) = false
  | [], _, _, _ => rfl
  | x :: xs, env, pos, h => by
    rw [List.all_cons, Bool.and_eq_true] at h
    rw [star_of h.1]
    have q := plain_of (xs := xs) (env := env) (pos := pos) h.2
    show (false || _) = false
    rw [Bool.false_or]
    exact q
theorem slice_of {x : Expr} (h : nSlice x = true) : PlainIx x := by
  intro o i
  cases x <;> first | rfl | cases h
theorem set_of {x : Expr} (h : nSet x = true) (env : PySem.Env) : ∀ v, foldedSetIterable x env v = pure v := by
  intro v
  cases x <;> first | rfl | cases h
theorem plainT_of {x : Expr} {env : PySem.Env} (h : plainT x = true) : ∀ whole, isTrue x env whole = (do let v ← whole; standAt x.pos; holding [v] (truthy v)) := by
  intro whole
  cases x with
  | UnaryOp o a p => cases o <;> first | rfl | cases h
  | BoolOp _ _ _ => cases h
  | IfExp _ _ _ _ => cases h
  | Compare _ _ _ _ => cases h
  | _ => rfl
theorem assign_of {x : Expr} {xs : List Expr} {env : PySem.Env} (h : nStar x = true) : assignEach (x :: xs) env = (false, assign x env) :: assignEach xs env := by
  cases x <;> first | rfl | cases h
theorem assigns_of : ∀ {xs : List Expr} {env : PySem.Env}, xs.all nStar = true → (assignEach xs env).length = xs.length ∧ (assignEach xs env).findIdx? (·.1) = none
  | [], _, _ => ⟨rfl, rfl⟩
  | x :: xs, env, h => by
    rw [List.all_cons, Bool.and_eq_true] at h
    obtain ⟨h1, h2⟩ := assigns_of (xs := xs) (env := env) h.2
    rw [assign_of h.1]
    refine ⟨by simp [h1], ?_⟩
    rw [List.findIdx?_cons]
    simp only [Bool.false_eq_true, if_false, h2]
    rfl
theorem sub_of {l r : Expr} {pos : Pos} {env : PySem.Env} (h : nSlice r = true) : ∀ v, assign (.Subscript l r pos) env v = (do
      let ov ← holding [v] (eval l env)
      let iv ← holding [v, ov] (eval r env)
      standAt pos
      holding [v, ov, iv] (setItem ov iv v)
      release [v, ov, iv] []) := by
  intro v
  cases r <;> first | rfl | cases h
theorem evL_len {f : E → Sto → Res D} : ∀ {es : List E} {st : Sto} {ds : List D} {st' : Sto}, evL f es st = .ok ds st' → ds.length = es.length
  | [], _, _, _, h => by cases h; rfl
  | e :: es, st, ds, st', h => by
    unfold evL at h
    cases h1 : f e st with
    | ok d s1 =>
      rw [h1] at h
      simp only [Res.bind_ok] at h
      cases h2 : evL f es s1 with
      | ok ds2 s2 =>
        rw [h2] at h
        cases h
        simp [evL_len h2]
      | exc _ _ _ => rw [h2] at h; cases h
      | stuck => rw [h2] at h; cases h
    | exc _ _ _ => rw [h1] at h; cases h
    | stuck => rw [h1] at h; cases h
end
end Mu

end
section
set_option linter.all false
set_option Elab.async false
set_option maxRecDepth 100000
/-! A lambda is made; a lambda is called. -/
namespace Mu
open PySem PySem.Spec PyProof.Rows L2

/-- the heap after a lambda was made: code objects and tables -/
structure Grown (V : Vw) (H H1 : Hp) : Prop where
  keep : ∀ a o, H a = some o → H1 a = some o ∨ ∃ ps ps', o = .tbl ps ∧ H1 a = some (.tbl ps')
  live : ∀ a, H1 a = none → H a = none
  tabs : LamX.Tabs V.tb H1
  only : ∀ a ps, H1 a = some (.tbl ps) → ∃ ps', H a = some (.tbl ps')
theorem Grown.refl {V : Vw} {H : Hp} (T : LamX.Tabs V.tb H) : Grown V H H := ⟨fun _ _ h => .inl h, fun _ h => h, T, fun _ ps h => ⟨ps, h⟩⟩
section
variable {X : Cx} {V : Vw} {pins : List (Addr × Obj)} {σ : L2.St} {H : Hp} {s : Shared}
theorem lam_track {params : Arguments} {body : Expr} {scope : Scope} {pm ctv : Value} {c' : Addr} {h' : Heap} {tk : Nat} {H1 : Hp} {F : FrS} (I : Inv X pins σ H1 { s with heap := h', toks := tk }) :
    Inv X pins σ (upd H1 h'.objs.size (LamO h'.objs.size F params body scope c'))
      { s with heap := h'.push (PySem.W.kla_obj "<lambda>" (F.env.qual ++ "<lambda>") params body scope (cloFrom F.env.cells scope.names []) pm c' ctv), toks := tk } := by
  have at_ : (h'.push (PySem.W.kla_obj "<lambda>" (F.env.qual ++ "<lambda>") params body scope (cloFrom F.env.cells scope.names []) pm c' ctv)).get? h'.objs.size = some _ := Heap.get?_push_size _ rfl
  refine I.laid (t' := tk) (fun b o e => Heap.get?_push_of_some _ e) (Nat.le_refl _) ?_
  exact ⟨⟨pm, ctv, at_⟩, ⟨_, at_⟩, fun h1 h2 ⟨pm, ctv, e⟩ st => ⟨pm, ctv, st _ e⟩⟩
theorem lam_make3 {F : FrS} {c P : Addr} {params : Arguments} {body : Expr} {scope : Scope} {pos : Pos} {E : Value → Shared → Prop} {Q : Value → Shared → Prop} (I : Inv X pins σ H s) (hF : F.env = X.env) (TB : LamX.TabB X.base X.mg c P) (hcode : X.env.code = .ref c)
    (hm : (P, X.env.qual ++ "<lambda>") ∈ V.tb) (hu : ∀ p ∈ V.tb, p.1 = P → p.2 = X.env.qual ++ "<lambda>") (hT : LamX.Tabs V.tb H) (hdef : defaultsOf params X.env = ([], [])) (hfree : ∀ y ∈ scope.names, y.2 = .free → ∃ c, X.env.cells.lookup y.1 = some c)
    (h : ∀ (f c' : Addr) (H1 : Hp) (s' : Shared), Grown V H H1 → H1 f = none → H1 c' = some (LamX.CodeO c' (X.env.qual ++ "<lambda>")) → f ≠ c' → Inv X pins σ (upd H1 f (LamO f F params body scope c')) s' → Q (.ref f) s') :
    wpAny (model X.prog X.w) X.A (eval (.Lambda params body scope pos) X.env) Q E s := by
  obtain ⟨ps, tabP, shape, told⟩ := hT _ hm
  have builtinsP := TB.bm.keeps I.bk
  have objP := I.hok P _ tabP
  refine PySem.W.kla_eval hdef ?_
  cases look : codeAmong pos ps.toList with
  | some cv =>
    obtain ⟨c', rfl, known⟩ := told pos cv look
    refine PySem.W.kla_makeFunctionHit (ps := ps) (P := P) (c := c) (mg := X.mg) (closure_ok hfree) I.ok.glob (I.mod.glob.keeps I.bk) hcode (TB.code.keeps I.bk) objP shape look builtinsP ?_
    intro ctv h' tk keep above
    have J : Inv X pins σ H { s with heap := h', toks := tk } := I.kept keep
    have new : H h'.objs.size = none := I.hok.fresh above
    have J2 := lam_track (F := F) (params := params) (body := body) (scope := scope) (pm := (X.mg "__name__").getD .none) (ctv := ctv) (c' := c') J
    rw [hF] at J2
    exact h _ c' H _ (Grown.refl hT) new known (ne_of_none known new).symm J2
  | none =>
    refine PySem.W.kla_makeFunction (ps := ps) (P := P) (c := c) (mg := X.mg) (closure_ok hfree) I.ok.glob (I.mod.glob.keeps I.bk) hcode (TB.code.keeps I.bk) objP shape look TB.gP builtinsP ?_
    intro c' ctv h' tk keep above below record table
    obtain ⟨c2, oc, vs, t, e2, o1, o2, o3⟩ := record
    cases e2
    have nC : H c' = none := I.hok.fresh above
    have nPc : P ≠ c' := ne_of_none tabP nC
    have J : Inv X pins σ (upd (upd H P (.tbl (ps ++ #[rawInt pos.line, rawInt pos.col, .ref c']))) c' (LamX.CodeO c' (X.env.qual ++ "<lambda>"))) { s with heap := h', toks := tk } :=
      LamX.inv_table (more := #[rawInt pos.line, rawInt pos.col, .ref c']) (t' := tk) I tabP keep table above ⟨oc, vs, t, o1, o2, o3⟩
    have J2 := lam_track (F := F) (params := params) (body := body) (scope := scope) (pm := (X.mg "__name__").getD .none) (ctv := ctv) (c' := c') J
    rw [hF] at J2
    have old : ∀ {b : Addr} {o : HO}, H b = some o → b ≠ P → upd (upd H P (.tbl (ps ++ #[rawInt pos.line, rawInt pos.col, .ref c']))) c' (LamX.CodeO c' (X.env.qual ++ "<lambda>")) b = some o := fun e n => by
      rw [upd_ne (ne_of_none e nC), upd_ne n]
      exact e
    have atP : upd (upd H P (.tbl (ps ++ #[rawInt pos.line, rawInt pos.col, .ref c']))) c' (LamX.CodeO c' (X.env.qual ++ "<lambda>")) P = some (.tbl (ps ++ #[rawInt pos.line, rawInt pos.col, .ref c'])) := by rw [upd_ne nPc, upd_same]
    have code : ∀ {c0 : Addr}, H c0 = some (LamX.CodeO c0 (X.env.qual ++ "<lambda>")) → c0 ≠ P := fun e z => by
      rw [z, tabP] at e
      unfold LamX.CodeO at e
      cases e
    refine h _ c' _ _ ⟨fun b o e => ?_, fun b e => upd_live (upd_live e), fun p hp => ?_, fun b qs e => ?_⟩ (J.hok.fresh (Nat.le_refl _)) upd_same (Nat.ne_of_gt below) J2
    · by_cases hb : b = P
      · subst hb
        rw [tabP] at e
        cases e
        exact .inr ⟨ps, _, rfl, atP⟩
      · exact .inl (old e hb)
    · by_cases hb : p.1 = P
      · refine ⟨_, by rw [hb]; exact atP, ?_, fun p' cv hcv => ?_⟩
        · rw [Array.toList_append]
          exact PySem.TriplesOk_snoc _ _ _ _ shape
        · rw [Array.toList_append] at hcv
          rw [hu p hp hb]
          rcases LamX.among_app ps.toList shape hcv with z | z
          · obtain ⟨c0, e1, e2⟩ := told p' cv z
            exact ⟨c0, e1, old e2 (code e2)⟩
          · exact ⟨c', z, upd_same⟩
      · obtain ⟨qs, a1, a2, a3⟩ := hT p hp
        refine ⟨qs, old a1 hb, a2, fun p' cv hcv => ?_⟩
        obtain ⟨c0, e1, e2⟩ := a3 p' cv hcv
        refine ⟨c0, e1, old e2 fun z => ?_⟩
        rw [z, tabP] at e2
        unfold LamX.CodeO at e2
        cases e2
    · by_cases hc : b = c'
      · subst hc
        rw [upd_same] at e
        unfold LamX.CodeO at e
        cases e
      · rw [upd_ne hc] at e
        by_cases hb : b = P
        · subst hb
          exact ⟨ps, tabP⟩
        · rw [upd_ne hb] at e
          exact ⟨qs, e⟩
end
section
variable {C : Cf} {c : Ct} {W : WX} {X : Cx} {V : Vw}
theorem argsNil_def {params : Arguments} {env : PySem.Env} (h : argsNil params = true) : defaultsOf params env = ([], []) := by
  unfold argsNil at h
  split at h
  · rfl
  · cases h
theorem lamSB_of {sc scope : Scope} (h : lamSB sc scope = true) : LamX.LamS sc scope := LamX.lamS_by h
theorem s_lam (G : Good C c W X V) {i n : Nat} {e : E} {params : Arguments} {body : Expr} {scope : Scope} {pos : Pos} (ha : argsNil params = true) (hs : lamSB c.sc scope = true) (hi : c.L[i]? = some e) (hc : chkE (lamCt c.N c.T scope) n e body = true) :
    PE X (.Lambda params body scope pos) (RE X V W fun _ st => .ok (.clo C.dep i) st) := by
  have hne : c.L ≠ [] := fun z => by rw [z] at hi; cases hi
  obtain ⟨hd, M⟩ := G.lam hne
  obtain ⟨cc, P, hcode, TB, hm, hu⟩ := M.ex
  have hs' : lamSB X.env.scope scope = true := by rw [G.sc]; exact hs
  refine ⟨fun pins s σ H Q I h => ?_⟩
  obtain ⟨ρ, env, st, er, w, q⟩ := h
  refine lam_make3 (F := ⟨X.env, X.N, c.L⟩) I rfl TB hcode hm hu w.tb.tabs (argsNil_def ha) ((lamSB_of hs').has I.ok) fun f c' H1 s' gr nf kc nfc J => ?_
  have w1 : Wd X.K X.mg V ρ st H1 := w.grown gr.keep gr.live gr.tabs gr.only
  have e1 : Ext ρ H ρ H1 := Ext.grown gr.keep gr.live
  have w2 : Wd X.K X.mg V ρ st (upd H1 f (LamO f ⟨X.env, X.N, c.L⟩ params body scope c')) := w1.new nf (by intro _ z; unfold LamO at z; cases z)
  have oc : Out ρ c' := by
    refine ⟨fun m => ?_, fun m => (w1.pv c' m).1.2 _ kc⟩
    obtain ⟨u, hu, _, nx⟩ := w1.mem m
    rw [kc] at hu
    cases hu
    exact nx _ rfl
  refine ⟨.ref f, _, J, rfl, q _ _ ρ (e1.trans (Ext.fresh nf)) w2 ?_⟩
  rw [hd]
  refine .clo (c := c') (F := ⟨X.env, X.N, c.L⟩) (params := params) (body := body) (scope := scope) M.fs ⟨ha, hs', e, n, hi, ?_⟩ upd_same ?_ (w1.fresh nf) oc
  · rw [← G.T2]
    have hc : chkE (lamCt c.N c.T scope) n e body = true := hc
    show chkE (lamCt X.N c.T scope) n e body = true
    rw [G.N]
    exact hc
  · rw [upd_ne nfc.symm]
    exact kc
end
end Mu

end
section
set_option linter.all false
set_option Elab.async false
set_option maxRecDepth 100000
/-! A lambda of a waiting frame runs. -/
namespace Mu
open PySem PySem.Spec PyProof.Rows L2
abbrev envL (F : FrS) (scope : Scope) (L f c' : Addr) : PySem.Env := PySem.W.envX (F.env.qual ++ "<lambda>") scope L f (.ref c') (cloFrom F.env.cells scope.names [])
/-- the body's context -/
def lamC (P : Program) (w : World) (K : PySem.W.Frag) (mg : Str → Option Value) (base : Heap) (F : FrS) (A : Around) (outer : List PySem.Env) (s : Shared) (H : Hp) (E : XK) (scope : Scope) (f c' : Addr) : Cx :=
  let env := envL F scope s.heap.objs.size f c'
  { prog := P, w := w, K := K, mg := mg, base := base, A := A.deeper env, N := F.N, s_0 := s, H_0 := H, env := env, outer := outer, stack := env :: outer, ex := [], fn := fun _ => false, calm := true, pn := [],
    xe := fun e s' => wpAny (model P w) (A.deeper env) (leaving env e) (fun _ s2 => L2.CX P w outer H s E e s2) (fun e2 s2 => L2.CX P w outer H s E e2 s2) s' }
section
variable {P : Program} {w : World} {K : PySem.W.Frag} {mg : Str → Option Value} {base : Heap} {F : FrS} {fi : FrI} {A : Around} {outer : List PySem.Env} {s : Shared} {H : Hp} {E : XK} {scope : Scope} {f c' : Addr}
theorem lamC_start {h₁ : Heap} {tk : Nat} (a : FrAt F fi s.heap H) (S : LamX.LamS F.env.scope scope) (e0 : Env0 P w K mg base A outer s H) (hd : A.handled = none)
    (hns : h₁.Ns s.heap.objs.size fun y => ([] : List (Str × Value)).reverse.lookup y) (kp : ∀ b o, s.heap.get? b = some o → h₁.get? b = some o) : Inv (lamC P w K mg base F A outer s H E scope f c') [] fi.σ H { s with heap := h₁, toks := tk } := by
  have cellOf : ∀ {y}, (y, NameKind.free) ∈ scope.names → CellK F.env.scope y := fun {y} hy => S.free _ hy rfl
  have back : ∀ {y c}, (cloFrom F.env.cells scope.names []).lookup y = some c → F.env.cells.lookup y = some c := fun {y c} e => by
    rcases cloFrom_mem (PySem.mem_of_lookup e) with m | ⟨m, q⟩
    · cases m
    · obtain ⟨d, hd⟩ := a.has y (cellOf m)
      rw [hd]
      have : c = d := by
        rw [q, hd] <;> rfl
      rw [this]
  have there : ∀ {y}, scope.names.lookup y = some .free → ∃ c, (cloFrom F.env.cells scope.names []).lookup y = some c := fun {y} h => mem_lookup (cloFrom_has (cells := F.env.cells) (acc := []) (PySem.mem_of_lookup h))
  have cellKept : ∀ {c : Addr} {v : Option Value}, s.heap.IsCell c v → h₁.IsCell c v := fun ⟨o, ho, hd⟩ => ⟨o, kp _ _ ho, hd⟩
  have none_ : ∀ b : Addr, b ∉ ([] : List Addr) := fun b => List.not_mem_nil
  have ok : (lamC P w K mg base F A outer s H E scope f c').Ok := by
    refine ⟨e0.mod, S.kind, rfl, rfl, Nat.le_refl _, fun y z c e1 e2 => a.inj y z c (back e1) (back e2), fun y hy => ?_, fun y c z _ => ?_, fun _ => hd, Around.frames_deeper e0.frames, .inr ⟨rfl, rfl⟩, fun b z => absurd z (none_ b), e0.bs, e0.bsz, fun b _ _ => none_ b, fun b z => absurd z (none_ b), e0.funs, e0.frf⟩
    · have hy : scope.names.lookup y = some .cell ∨ scope.names.lookup y = some .free := hy
      rcases hy with hy | hy
      · exact absurd rfl (S.own _ (PySem.mem_of_lookup hy)).2
      · exact there hy
    · have z : false = true := z
      cases z
  refine ⟨ok, rfl, e0.bare, Un.kept kp, ⟨_, hns, fun i y v e1 e2 e3 => ?_⟩, fun y c e => ?_, e0.hok.fresh (Nat.le_refl _), fun y c e => (a.cell y c (back e)).1, fun q hq => absurd hq List.not_mem_nil, e0.hok.kept kp, a.len⟩
  · have e3 : Vis scope y := e3
    rcases e3 with k | k | k
    · exact absurd rfl (S.own _ (PySem.mem_of_lookup k)).1
    · exact absurd rfl (S.own _ (PySem.mem_of_lookup k)).2
    · obtain ⟨c, hc⟩ := there k
      obtain ⟨u, r, q⟩ := a.val i y c v e1 e2 (cellOf (PySem.mem_of_lookup k)) (back hc)
      exact ⟨u, r, .inr ⟨.inr k, c, hc, cellKept q⟩⟩
  · obtain ⟨_, v, q⟩ := a.cell y c (back e)
    exact ⟨v, cellKept q⟩
theorem argsNil_of {params : Arguments} (h : argsNil params = true) : params = ⟨[], [], none, [], [], none, []⟩ := by
  unfold argsNil at h
  split at h
  · rfl
  · cases h
/-- the call, by the body -/
theorem lamC_call {k : Nat} {params : Arguments} {body : Expr} {Q : VK} {t : TE} (hr : Room (k + 1) A) (e0 : Env0 P w K mg base A outer s H) (a : FrAt F fi s.heap H) (S : LamX.LamS F.env.scope scope) (hp : argsNil params = true)
    (hf : H f = some (LamO f F params body scope c')) (hc : H c' = some (LamX.CodeO c' (F.env.qual ++ "<lambda>"))) (hbody : Room k (A.deeper (envL F scope s.heap.objs.size f c')) → PE (lamC P w K mg base F A outer s H E scope f c') body t) (ht : t fi.σ H Q) :
    codeAny (model P w) A (.call (.ref f) ⟨[], []⟩) (CR (L2.CX P w) outer P w H s Q E) s := by
  obtain ⟨⟨pm, ctv, hof⟩, _, _⟩ := e0.hok f _ hf
  obtain ⟨⟨oc, vs, t', hoc, hdc, hvc⟩, _, _⟩ := e0.hok c' _ hc
  obtain rfl := argsNil_of hp
  have lim : s.heap.NoLimit := e0.mod.nolimit.keeps fun b o e => (e0.bs b o e).1
  refine PySem.W.kla_callFunE hr.depth hof rfl S.co S.gen rfl ⟨c', oc, vs, t', rfl, hoc, hdc, hvc⟩ ?_
  refine wpAny_pure (wpAny_newFunctionEnv (fun y hy => (S.own y hy).2) (fun y hy => absurd hy List.not_mem_nil) (fun h₁ hns hsb => ⟨lim.fresh _ hsb, ?_⟩) S.kind)
  show codeAny _ _ (.expr body (envL F scope s.heap.objs.size f c')) _ _
  have kp : ∀ b o, s.heap.get? b = some o → h₁.get? b = some o := fun b o e => hsb.extBut b o (Nat.ne_of_lt (Heap.lt_size e)) (Heap.get?_push_of_some _ e)
  have J : Inv (lamC P w K mg base F A outer s H E scope f c') [] fi.σ H { s with heap := h₁, toks := s.toks + ([] : List (Str × Value)).length } := lamC_start a S e0 hr.hd hns kp
  refine PySem.W.kla_codeExpr (wpAny_mono ((hbody (hr.deeper _)).run [] _ _ H Q J ht) (fun v s' hq => ?_) fun e s' hq => hq)
  obtain ⟨v', H', J', rv, q⟩ := hq
  exact ⟨v', H', J'.os, J'.bare, J'.base, J'.hok, rv, q⟩
end
end Mu

end
section
set_option linter.all false
set_option Elab.async false
/-! Expressions are sound. -/
namespace Mu
open PySem PySem.Spec PyProof.Rows L2

structure Snd (n : Nat) : Prop where
  e : ∀ {C : Cf} {c : Ct} {W : WX} {X : Cx} {V : Vw} (_ : Good C c W X V) (m : Nat) (e : E) (x : Expr), chkE c n e x = true → PE X x (RE X V W fun env st => ev C m e env st)
  t : ∀ {C : Cf} {c : Ct} {W : WX} {X : Cx} {V : Vw} (_ : Good C c W X V) (m : Nat) (e : E) (x : Expr), chkT c n e x = true → PT X x (RB X V W fun env st => evT C m e env st)
  o : ∀ {C : Cf} {c : Ct} {W : WX} {X : Cx} {V : Vw} (_ : Good C c W X V) (m : Nat) (e : Option E) (x : Option Expr), chkO c n e x = true → PO X x (RO X V W fun env st => evO (fun e st => ev C m e env st) e st)
  i : ∀ {C : Cf} {c : Ct} {W : WX} {X : Cx} {V : Vw} (_ : Good C c W X V) (m : Nat) (tg : Expr) (it : Iz) (x : Expr), chkI c n tg it x = true → PI X tg x (RI X V W fun env st => itD (fun e st => ev C m e env st) it st)
  g : ∀ {C : Cf} {c : Ct} {W : WX} {X : Cx} {V : Vw} (_ : Good C c W X V) (m : Nat) (t : Tg) (x : Expr), chkG c n t x = true → ∀ sl : List Nat, (∀ j ∈ tgS t, j ∈ sl) → PG X x (RT X V sl fun d env st => tgD (fun e env st => ev C m e env st) t d env st)

section
variable {C : Cf} {c : Ct} {W : WX} {X : Cx} {V : Vw} {n : Nat}
theorem zip_len {α β : Type} {f : α → β → Bool} : ∀ (es : List α) (xs : List β), zipAll f es xs = true → es.length = xs.length
  | [], [], _ => rfl
  | [], _ :: _, h => by cases h
  | _ :: _, [], h => by cases h
  | e :: es, x :: xs, h => by
    have h : (f e x && zipAll f es xs) = true := h
    rw [Bool.and_eq_true] at h
    simp [zip_len es xs h.2]
theorem zip_args (ih : Snd n) (G : Good C c W X V) (m : Nat) : ∀ (es : List E) (xs : List Expr), xs.all nStar = true → zipAll (fun e x => chkE c n e x) es xs = true → PA X xs (RL X V W fun env st => evL (fun e st => ev C m e env st) es st)
  | [], [], _, _ => sl_nil (f := fun _ _ => .stuck)
  | [], _ :: _, _, h => by cases h
  | _ :: _, [], _, h => by cases h
  | e :: es, x :: xs, hs, h => by
    rw [List.all_cons, Bool.and_eq_true] at hs
    have h : (chkE c n e x && zipAll (fun e x => chkE c n e x) es xs) = true := h
    rw [Bool.and_eq_true] at h
    exact sl_cons (f := fun e env st => ev C m e env st) (star_of hs.1) (ih.e G m e x h.1) (zip_args ih G m es xs hs.2 h.2)
theorem zip_tgs (ih : Snd n) (G : Good C c W X V) (m : Nat) (sl : List Nat) : ∀ (ts : List Tg) (xs : List Expr), xs.all nStar = true → zipAll (fun t x => chkG c n t x) ts xs = true → (∀ j ∈ tgS.tgSs ts, j ∈ sl) →
    PGs X xs (RTs X V sl fun ds env st => tgsD (fun e env st => ev C m e env st) ts ds env st)
  | [], [], _, _, _ => gs_nil fun ds env st => by cases ds <;> (unfold tgsD; rfl)
  | [], _ :: _, _, h, _ => by cases h
  | _ :: _, [], _, h, _ => by cases h
  | t :: ts, x :: xs, hs, h, hj => by
    rw [List.all_cons, Bool.and_eq_true] at hs
    have h : (chkG c n t x && zipAll (fun t x => chkG c n t x) ts xs) = true := h
    rw [Bool.and_eq_true] at h
    have hj : ∀ j ∈ tgS t ++ tgS.tgSs ts, j ∈ sl := fun j m => hj j (by unfold tgS.tgSs; exact m)
    have q := gs_cons (xs := xs) (by rw [assign_of hs.1]; rfl) (ih.g G m t x h.1 sl fun j m => hj j (List.mem_append_left _ m)) (zip_tgs ih G m sl ts xs hs.2 h.2 fun j m => hj j (List.mem_append_right _ m))
    refine PGs.imp q fun vs σ H Q ⟨ρ, ds, env, st, rd, er, w, z⟩ => ⟨ρ, ds, env, st, rd, er, w, ?_⟩
    cases ds with
    | nil => unfold tgsD at z; exact z
    | cons d ds => unfold tgsD at z; exact z
theorem ExR.un {K : PySem.W.Frag} {mg : Str → Option Value} {V : Vw} {ρ : Rho} {H : Hp} {b : Bool} {env : Env} {σ : L2.St} {c : Nat} {v : Option D} {cls : Value} {dd : Option Addr} (x : ExR K mg (V.at b env σ) ρ H c v cls dd) : ExR K mg V ρ H c v cls dd := by
  obtain ⟨k, C, xi, h1, h2, h3, h0, h4⟩ := x
  refine ⟨k, C, xi, by rw [Vw.at_T] at h1; exact h1, h2, h3, h0, fun d hd => ?_⟩
  obtain ⟨f, a, x, a2, a3, a4, a5, a6⟩ := h4 d hd
  refine ⟨f, a, x, a2, a3, ?_, a5, a6.mv mv_un⟩
  unfold Vw.att at a4 ⊢
  rw [Vw.at_T] at a4
  exact a4
theorem Env.at_some {env : Env} {i : Nat} {d : D} (h : env.at i = some d) : env[i]? = some (some d) := by
  unfold Env.at at h
  split at h
  · rename_i e
    cases h
    exact e
  · cases h
/-- a def's answer to ds, its arguments told with the missing ones -/
theorem Good.callR (G : Good C c W X V) {f : Nat} {F : Fd} (hf : V.T.fns[f]? = some F) (n : Nat) : ∃ a, X.mg F.name = some (.ref a) ∧ PySem.W.keepIn X.K (.ref a) = true ∧ ∃ r, CallAt X a r ∧
    ∀ σ H Q ρ env ds st vs, ds.length = n → EnvRep X.K X.mg V ρ H env σ → RepL X.K X.mg V ρ H ds vs → Wd X.K X.mg V ρ st H → Post X.K X.mg V W σ ρ H (Rep X.K X.mg V) (C.call env f ds st) Q → r σ vs H Q := by
  obtain ⟨a, fd, hm, hk, FG, hb⟩ := G.call f F hf
  refine ⟨a, hm, hk, ?_⟩
  rcases hb n with h | ⟨pad, zs, ws, hn, rz, rp, hb, he⟩
  · exact ⟨fun _ _ _ _ => False, fun _ _ _ _ _ _ _ _ _ h => h.elim, fun σ H Q ρ env ds st vs hl _ _ _ q => by rw [h env ds st hl] at q; exact q⟩
  · refine ⟨fun σ vs H Q => ∃ env, spC X.K X.mg (V.at (!c.L.isEmpty) env σ) F.ps.length (C.call env f) (vs ++ zs) H Q (WE W σ),
      fun pins s σ H xs us Q I r ⟨env, h⟩ => run_fnG (FG env σ) G.room G.cx.gd hb rz G.tk I (G.frsAt I env) r h, fun σ H Q ρ env ds st vs hl er rd w q => ?_⟩
    refine ⟨env, by rw [List.length_append, ← rd.length, hl, ← (rp V ρ H).length]; exact hn, ρ, ds ++ pad, st, (rd.mv (mv_view Vw.at_T Vw.at_fs)).append (rp _ ρ H), w.atV _ er, ?_⟩
    rw [he env ds st hl] at q
    revert q
    cases C.call env f (ds ++ pad) st with
    | ok d st2 => exact fun q v H2 ρ2 e2 w2 r2 => q v H2 ρ2 e2 (w2.unV w e2) (r2.mv mv_un)
    | exc cc fs st2 => exact fun q cls dd H2 ρ2 e2 w2 x => q cls dd H2 ρ2 e2 (w2.unV w e2) x.un
    | stuck => exact id
theorem RE.fl {fl : Env → Sto → Res (List D)} {k : Env → List D → Sto → Res D} {r : L2.St → List L2.V → Hp → VK → Prop} {n : Nat} (hlen : ∀ env st ds st', fl env st = .ok ds st' → ds.length = n)
    (hr : ∀ σ H Q ρ env ds st vs, ds.length = n → EnvRep X.K X.mg V ρ H env σ → RepL X.K X.mg V ρ H ds vs → Wd X.K X.mg V ρ st H → Post X.K X.mg V W σ ρ H (Rep X.K X.mg V) (k env ds st) Q → r σ vs H Q) {σ : L2.St} {H : Hp} {Q : VK} {ρ : Rho} {env : Env} {st : Sto}
    (er : EnvRep X.K X.mg V ρ H env σ) (w : Wd X.K X.mg V ρ st H) (q : Post X.K X.mg V W σ ρ H (Rep X.K X.mg V) ((fl env st).bind fun ds st => k env ds st) Q) : RL X V W fl σ H fun vs H1 => r σ vs H1 Q :=
  Rdg.goE er w q fun ρ1 ds st1 vs H1 e e1 er1 w1 r1 q1 => hr σ H1 Q ρ1 env ds st1 vs (hlen _ _ _ _ e) er1 r1 w1 q1
theorem Good.calls (G : Good C c W X V) {i : Nat} {f : Str} {xs : List Expr} {p pos : Pos} {fl : Env → Sto → Res (List D)} (ht : c.fnN i = some f) (hg : c.gl f = true) (ho : okName f = true) (hs : xs.all nStar = true) (ha : PA X xs (RL X V W fl)) (hnil : xs = [] → ∀ env st, fl env st = .ok [] st)
    (hlen : ∀ env st ds st', fl env st = .ok ds st' → ds.length = xs.length) : PE X (.Call (.Name f p) xs [] pos) (RE X V W fun env st => (fl env st).bind fun ds st => C.call env i ds st) := by
  obtain ⟨o1, o2, o3⟩ := okName_of ho
  unfold Ct.fnN at ht
  rw [G.T2] at ht
  obtain ⟨F, hF, hn⟩ := Option.map_eq_some_iff.mp ht
  subst hn
  obtain ⟨a, hm, hk, r, hc, hr⟩ := G.callR hF xs.length
  cases xs with
  | nil =>
    refine PE.imp (pe_callK0 hc (G.glOk hg) hm hk o1) fun σ H Q ⟨ρ, env, st, er, w, q⟩ => ?_
    dsimp only at q
    rw [hnil rfl] at q
    exact hr σ H Q ρ env [] st [] rfl er .nil w q
  | cons x xs =>
    rw [List.all_cons, Bool.and_eq_true] at hs
    exact PE.imp (pe_callK hc (G.glOk hg) hm hk ha o1 (star_of hs.1) (plain_of hs.2)) fun σ H Q ⟨ρ, env, st, er, w, q⟩ => RE.fl hlen hr er w q
/-- a lambda's answer -/
theorem Good.cloR (G : Good C c W X V) {f cc : Addr} {d j : Nat} {F : FrS} {params : Arguments} {body : Expr} {scope : Scope} {σ : L2.St} {H : Hp} {Q : VK} {ρ : Rho} {env : Env} {st : Sto} {pins : List (Addr × Obj)} {s : Shared}
    (h1 : V.fs[d]? = some F) (h2 : LamOk V.T F j params body scope) (h3 : H f = some (LamO f F params body scope cc)) (h4 : H cc = some (LamX.CodeO cc (F.env.qual ++ "<lambda>"))) (I : Inv X pins σ H s) (er : EnvRep X.K X.mg V ρ H env σ) (w : Wd X.K X.mg V ρ st H)
    (q : Post X.K X.mg V W σ ρ H (Rep X.K X.mg V) (C.clo env d j [] st) Q) : wpAny (model X.prog X.w) X.A (PySem.call (.ref f) []) (EP X pins σ Q) X.xe s := by
  have q' : Post X.K X.mg (V.at (!c.L.isEmpty) env σ) (fun cls dd _ H => WE W σ cls dd H) [] ρ H (Rep X.K X.mg (V.at (!c.L.isEmpty) env σ)) (C.clo env d j [] st) Q := by
    revert q
    cases C.clo env d j [] st with
    | ok d st2 => exact fun q v H2 ρ2 e2 w2 r2 => q v H2 ρ2 e2 (w2.unV w e2) (r2.mv mv_un)
    | exc cc fs st2 => exact fun q cls dd H2 ρ2 e2 w2 x => q cls dd H2 ρ2 e2 (w2.unV w e2) x.un
    | stuck => exact id
  have z := G.clo env σ X.A X.stack s H d j f cc F params body scope ρ st Q (WE W σ) G.room G.cx.gd I.env0 (G.frsAt I env) (by rw [Vw.at_fs]; exact h1) (by rw [Vw.at_T]; exact h2) h3 h4 (w.atV _ er) q'
  refine wpAny_call (codeAny_mono z fun r s' hq => ?_)
  match r, hq with
  | .error e, hq => exact passAt G.tk σ pins H s e s' I hq
  | .ok (.ret u), hq => exact I.after hq
/-- what is called by a local name -/
theorem Good.callv (G : Good C c W X V) {i : Nat} {f : Str} {es : List E} {xs : List Expr} {p pos : Pos} {fl : Env → Sto → Res (List D)} (hN : c.N[i]? = some f) (hv : c.vis f = true) (ho : okName f = true) (hs : xs.all nStar = true) (hes : es.length = xs.length) (ha : PA X xs (RL X V W fl)) (hnil : xs = [] → ∀ env st, fl env st = .ok [] st)
    (hlen : ∀ env st ds st', fl env st = .ok ds st' → ds.length = xs.length) : PE X (.Call (.Name f p) xs [] pos) (RE X V W fun env st => match env.at i with
      | some (.fn f) => (fl env st).bind fun ds st => C.call env f ds st
      | some (.clo d j) => if es.isEmpty then C.clo env d j [] st else .stuck
      | _ => .stuck) := by
  obtain ⟨o1, o2, o3⟩ := okName_of ho
  have hvar : PE X (.Name f p) (tVar i) := pe_var (by rw [G.N]; exact hN) (G.visOk hv) o1 o2
  -- a def, or not at all
  have look : ∀ f : Nat, (∃ F, V.T.fns[f]? = some F) ∨ ∀ env ds st, C.call env f ds st = .stuck := fun f => by
    cases h : V.T.fns[f]? with
    | none => exact .inr (G.nof f h)
    | some F => exact .inl ⟨F, rfl⟩
  cases xs with
  | cons x xs =>
    rw [List.all_cons, Bool.and_eq_true] at hs
    have hes2 : es.isEmpty = false := by cases es with
      | nil => cases hes
      | cons _ _ => rfl
    let r : Addr → L2.St → List L2.V → Hp → VK → Prop := fun a σ vs H Q => ∃ (f : Nat) (F : Fd) (hf : V.T.fns[f]? = some F), X.mg F.name = some (.ref a) ∧ ∃ r, CallAt X a r ∧ r σ vs H Q
    refine PE.imp (pe_callX (r := r) hvar (fun a pins s σ H ys us Q I rv ⟨f, F, hf, hm, r, hc, h⟩ => hc pins s σ H ys us Q I rv h) ha (star_of hs.1) (plain_of hs.2)) fun σ H Q ⟨ρ, env, st, er, w, q⟩ => ?_
    dsimp only at q
    cases hi : env.at i with
    | none => rw [hi] at q; exact q.elim
    | some d =>
      obtain ⟨v, hv, rv⟩ := er.at_ i d (Env.at_some hi)
      rw [hi] at q
      cases rv with
      | @fn j F a hF hm =>
        refine ⟨.ref a, hv, a, rfl, ?_⟩
        obtain ⟨a', hm', hk, r', hc, hr⟩ := G.callR hF (x :: xs).length
        rw [hm] at hm'
        cases hm'
        refine ⟨hk, ?_⟩
        exact RE.fl (k := fun env ds st => C.call env j ds st) (r := r a) hlen (fun σ H Q ρ env ds st vs h1 h2 h3 h4 h5 => ⟨j, F, hF, hm, r', hc, hr σ H Q ρ env ds st vs h1 h2 h3 h4 h5⟩) er w q
      | clo h1 h2 h3 h4 h5 h6 => simp only [hes2] at q; exact q.elim
      | _ => exact q.elim
  | nil =>
    let r : Addr → L2.St → List L2.V → Hp → VK → Prop := fun a σ vs H Q => (∃ r, CallAt X a r ∧ vs = [] ∧ r σ [] H Q) ∨ ∃ (d j : Nat) (cc : Addr) (F : FrS) (params : Arguments) (body : Expr) (scope : Scope) (ρ : Rho) (env : Env) (st : Sto), vs = [] ∧ V.fs[d]? = some F ∧ LamOk V.T F j params body scope ∧
      H a = some (LamO a F params body scope cc) ∧ H cc = some (LamX.CodeO cc (F.env.qual ++ "<lambda>")) ∧ EnvRep X.K X.mg V ρ H env σ ∧ Wd X.K X.mg V ρ st H ∧ Post X.K X.mg V W σ ρ H (Rep X.K X.mg V) (C.clo env d j [] st) Q
    refine PE.imp (pe_callX0 (r := r) hvar fun a pins s σ H ys us Q I rv h => ?_) fun σ H Q ⟨ρ, env, st, er, w, q⟩ => ?_
    · rcases h with ⟨r, hc, rfl, h⟩ | ⟨d, j, cc, F, params, body, scope, ρ, env, st, rfl, h1, h2, h3, h4, er, w, q⟩
      · exact hc pins s σ H [] us Q I rv h
      · cases rv
        exact G.cloR h1 h2 h3 h4 I er w q
    · dsimp only at q
      cases hi : env.at i with
      | none => rw [hi] at q; exact q.elim
      | some d =>
        obtain ⟨v, hv, rv⟩ := er.at_ i d (Env.at_some hi)
        rw [hi] at q
        cases rv with
        | @fn j F a hF hm =>
          obtain ⟨a', hm', hk, r', hc, hr⟩ := G.callR hF 0
          rw [hm] at hm'
          cases hm'
          have q : Post X.K X.mg V W σ ρ H (Rep X.K X.mg V) ((fl env st).bind fun ds st => C.call env j ds st) Q := q
          rw [hnil rfl] at q
          exact ⟨.ref a, hv, a, rfl, .inl hk, .inl ⟨r', hc, rfl, hr σ H Q ρ env [] st [] rfl er .nil w q⟩⟩
        | @clo a cc d j F params body scope h1 h2 h3 h4 h5 h6 =>
          have hes2 : es.isEmpty = true := by cases es with
            | nil => rfl
            | cons _ _ => cases hes
          simp only [hes2] at q
          exact ⟨.ref a, hv, a, rfl, .inr ⟨F, params, body, scope, cc, h3⟩, .inr ⟨d, j, cc, F, params, body, scope, ρ, env, st, rfl, h1, h2, h3, h4, er, w, q⟩⟩
        | _ => exact q.elim
/-- the built-ins by their names -/
theorem Good.bltc (G : Good C c W X V) {f : Str} {b : Blt} {xs : List Expr} {p pos : Pos} {fl : Env → Sto → Res (List D)} (hf : b.name = f) (hg : c.gl f = true) (ho : okName f = true) (hne : xs.isEmpty = false) (hs : xs.all nStar = true)
    (ha : PA X xs (RL X V W fl)) : PE X (.Call (.Name f p) xs [] pos) (RE X V W fun env st => (fl env st).bind fun ds st => .of (bltD b ds st) st) := by
  obtain ⟨o1, o2, o3⟩ := okName_of ho
  have hG := G.glOk hg
  subst hf
  cases xs with
  | nil => cases hne
  | cons x xs =>
    rw [List.all_cons, Bool.and_eq_true] at hs
    have he := star_of (xs := xs) (env := X.env) hs.1
    have hp := plain_of (xs := xs) (env := X.env) (pos := pos) hs.2
    have bf : ∀ {id : String} {r : List L2.V → Hp → VK → Prop}, CallR X (.builtin id) r → X.mg b.name = none → bootBuiltins b.name = some (.builtin id) → PE X (.Call (.Name b.name p) (x :: xs) [] pos) (tCB r (RL X V W fl)) := fun hc hm hv => pe_callB hc hG hm hv ha o3 o1 he hp
    have bt : ∀ {id : String} {r : List L2.V → Hp → VK → Prop}, CallR X (.type id) r → X.mg b.name = none → bootBuiltins b.name = some (.type id) → PE X (.Call (.Name b.name p) (x :: xs) [] pos) (tCB r (RL X V W fl)) := fun hc hm hv => pe_callTy hc hG hm hv ha o3 o1 he hp
    cases b with
    | len => exact s_blt (fun _ _ _ h => h) (bf blt_len (G.blt _ (by decide +kernel)) (by decide +kernel))
    | abs => exact s_blt (fun _ _ _ h => h) (bf blt_abs (G.blt _ (by decide +kernel)) (by decide +kernel))
    | min => exact s_blt (fun _ _ _ h => h) (bf (blt_min G.cx) (G.blt _ (by decide +kernel)) (by decide +kernel))
    | max => exact s_blt (fun _ _ _ h => h) (bf (blt_max G.cx) (G.blt _ (by decide +kernel)) (by decide +kernel))
    | int => exact s_blt (fun _ _ _ h => h) (bt blt_int (G.blt _ (by decide +kernel)) (by decide +kernel))
    | tuple => exact s_blt (fun _ _ _ h => h) (bt blt_tuple (G.blt _ (by decide +kernel)) (by decide +kernel))
    | list => exact s_blt (fun _ _ _ h => h) (bt blt_list (G.blt _ (by decide +kernel)) (by decide +kernel))
    | all => exact s_blt (fun _ _ _ h => h) (bf (blt_all G.cx) (G.blt _ (by decide +kernel)) (by decide +kernel))
    | any => exact s_blt (fun _ _ _ h => h) (bf (blt_any G.cx) (G.blt _ (by decide +kernel)) (by decide +kernel))
    | isinstance => exact s_blt (fun _ _ _ h => h) (bf blt_isi (G.blt _ (by decide +kernel)) (by decide +kernel))
    | repr => exact s_blt (fun _ _ _ h => h) (bf (blt_repr G.cx G.room) (G.blt _ (by decide +kernel)) (by decide +kernel))
    | str => exact s_blt (t := tCB (fun _ _ _ => False) (RL X V W fl)) (fun σ H Q ⟨ρ, env, st, er, w, q⟩ => ⟨ρ, env, st, er, w, q.mono fun _ _ ⟨_, _, _, _, _, _, z, _⟩ => by cases z⟩) (bt (id := "str") (fun _ _ _ _ _ _ _ _ _ z => z.elim) (G.blt _ (by decide +kernel)) (by decide +kernel))
    | sum => exact s_blt (t := tCB (fun _ _ _ => False) (RL X V W fl)) (fun σ H Q ⟨ρ, env, st, er, w, q⟩ => ⟨ρ, env, st, er, w, q.mono fun _ _ ⟨_, _, _, _, _, _, z, _⟩ => by cases z⟩) (bf (id := "sum") (fun _ _ _ _ _ _ _ _ _ z => z.elim) (G.blt _ (by decide +kernel)) (by decide +kernel))
theorem Good.bty (G : Good C c W X V) {t : Ty} {pos : Pos} (hg : c.gl t.word = true) (ho : okName t.word = true) : PE X (.Name t.word pos) (RE X V W fun _ st => .ok (.ty t) st) := by
  obtain ⟨o1, o2, o3⟩ := okName_of ho
  have hG := G.glOk hg
  have bb : X.mg t.word = none → bootBuiltins t.word = some (.type t.name) → PE X (.Name t.word pos) (RE X V W fun _ st => .ok (.ty t) st) := fun hm hv => s_val (pe_bltn (v := .ty t.name) hG hm hv rfl o3 o1) fun ρ H => .ty _
  cases t <;> exact bb (G.blt _ (by decide +kernel)) (by decide +kernel)
theorem Good.conOk (G : Good C c W X V) {i : Nat} {z : Str} {pos : Pos} (hi : c.coN i = some z) (hg : c.gl z = true) (ho : okName z = true) : PE X (.Name z pos) (RE X V W fun _ st => .of ((C.T.con[i]?).map (·.2)) st) := by
  obtain ⟨o1, o2, o3⟩ := okName_of ho
  unfold Ct.coN at hi
  rw [G.T2] at hi
  rw [G.T]
  obtain ⟨⟨y, d⟩, h, rfl⟩ := Option.map_eq_some_iff.mp hi
  obtain ⟨v, u, hm, r, q⟩ := G.con i y d h
  rw [h]
  exact s_val (pe_glob (G.glOk hg) hm r o1) fun ρ H => q V ρ H
theorem Good.gfn (G : Good C c W X V) {i : Nat} {z : Str} {pos : Pos} (hi : c.fnN i = some z) (hg : c.gl z = true) (ho : okName z = true) : PE X (.Name z pos) (RE X V W fun _ st => .ok (.fn i) st) := by
  obtain ⟨o1, o2, o3⟩ := okName_of ho
  unfold Ct.fnN at hi
  rw [G.T2] at hi
  obtain ⟨F, h, rfl⟩ := Option.map_eq_some_iff.mp hi
  obtain ⟨a, fd, hm, _⟩ := G.call i F h
  exact s_val (pe_glob (v := .ref a) (G.glOk hg) hm rfl o1) fun ρ H => .fn h hm
theorem zip_argsS (ih : Snd n) (G : Good C c W X V) (m : Nat) : ∀ (es : List (Bool × E)) (xs : List Expr), zipAll (fun e x => match x with
        | .Starred y _ => e.1 && chkE c n e.2 y
        | y => !e.1 && chkE c n e.2 y) es xs = true → PA X xs (RL X V W fun env st => evLS (fun e st => ev C m e env st) es st)
  | [], [], _ => sls_nil (f := fun _ _ => .stuck)
  | [], _ :: _, h => by cases h
  | _ :: _, [], h => by cases h
  | (b, e) :: es, x :: xs, h => by
    unfold zipAll at h
    rw [Bool.and_eq_true] at h
    obtain ⟨h1, h2⟩ := h
    have rest := zip_argsS ih G m es xs h2
    split at h1
    · simp only [Bool.and_eq_true] at h1
      obtain ⟨rfl, h1⟩ := h1
      exact sls_star (f := fun e env st => ev C m e env st) (ih.e G m e _ h1) rest
    · rename_i hx
      simp only [Bool.and_eq_true, Bool.not_eq_true'] at h1
      obtain ⟨rfl, h1⟩ := h1
      refine sls_cons (f := fun e env st => ev C m e env st) ?_ (ih.e G m e _ h1) rest
      cases x <;> first | rfl | exact absurd rfl (hx _ _)
theorem lit_of {d : D} {v : Const} {kk : Nat} {pos : Pos} (h : litB d v = true) : PE X (.Constant v kk pos) (RE X V W fun _ st => .ok d st) := by
  unfold litB at h
  split at h
  · exact s_val pe_non fun _ _ => .non
  · have e := beq_iff_eq.mp h
    subst e
    exact s_val pe_bl fun _ _ => .bl _
  · have e := of_decide_eq_true h
    subst e
    exact s_val pe_int fun _ _ => .int _
  · have e := of_decide_eq_true h
    subst e
    exact s_val pe_str fun _ _ => .str _
  · cases h

end
end Mu

end
section
set_option linter.all false
set_option Elab.async false
set_option maxRecDepth 100000
/-! sorted(xs, key=f): f is a def of one's own that answers ints, and may write. -/
namespace Mu
open PySem PySem.Spec PyProof.Rows L2 PySem.W

/-- f(x), called by sorted -/
def KeyAt (X : Cx) (σ : L2.St) (f : Addr) (r : L2.V → Hp → (Int → Hp → Prop) → Prop) : Prop :=
  ∀ (E : Value → Shared → Prop) (pins : List (Addr × Obj)) (s : Shared) (H : Hp) (x : L2.V) (u : Value) (Q : Int → Hp → Prop), Inv X pins σ H s → RelV x u → r x H Q →
    wpAny (model X.prog X.w) X.A.in1.in1 (call (.ref f) [u]) (EP X pins σ fun v H' => ∃ n, v = .int n ∧ Q n H') E s
/-- by keys -/
def byKey {α : Type} (ns : List Int) (xs : List α) : List α := ((ns.zip xs).mergeSort fun p q => decide (p.1 ≤ q.1)).map Prod.snd
theorem gone_get (h : Heap) (a : Addr) : (h.update a fun o => { o with data := .freed }).get? a = none := by
  cases e : (h.update a fun o => { o with data := .freed }).get? a with
  | none => rfl
  | some o =>
    unfold Heap.get? at e
    unfold Heap.update at e
    split at e
    · cases e
    · rename_i q
      simp only [Array.getElem?_modify] at e q
      cases z : h.objs[a]? with
      | none => rw [z] at e; cases e
      | some w =>
        rw [z] at e q
        simp at e q
section
variable {X : Cx} {f a kS : Addr} {pins : List (Addr × Obj)} {σ : L2.St} {H : Hp} {s : Shared} {b : Bool} {vs : List Value} {xs : List L2.V} {ns : List Int} {e1 : Nat} {r : L2.V → Hp → (Int → Hp → Prop) → Prop} {J : Nat → Hp → Prop} {P : PySem.Fin → Shared → Prop} {E : Value → Shared → Prop}
/-- what is laid aside while the keys are asked for: nobody's -/
structure Own (X : Cx) (pins : List (Addr × Obj)) (kS : Addr) : Prop where
  loc : kS ≠ X.env.locals
  new : X.s_0.heap.objs.size ≤ kS
  cel : ∀ x c, X.env.cells.lookup x = some c → c ≠ kS
  pin : ∀ p ∈ X.pn ++ pins, p.1 ≠ kS
  fs : kS ∉ X.fs
theorem Own.of (I : Inv X pins σ H s) (h : s.heap.objs.size ≤ kS) : Own X pins kS := by
  refine ⟨fun z => ?_, Nat.le_trans I.sz h, fun x c e z => ?_, fun p hp z => ?_, I.nofs h⟩
  · rw [z] at h
    exact Nat.lt_irrefl _ (Nat.lt_of_lt_of_le I.lt h)
  · obtain ⟨v, o, ho, _⟩ := I.cell x c e
    rw [z] at ho
    exact Nat.lt_irrefl _ (Nat.lt_of_lt_of_le (Heap.lt_size ho) h)
  · have ho := (I.pin p hp).1
    rw [z] at ho
    exact Nat.lt_irrefl _ (Nat.lt_of_lt_of_le (Heap.lt_size ho) h)
def Two (X : Cx) (pins : List (Addr × Obj)) (σ : L2.St) (H : Hp) (a kS : Addr) (e1 : Nat) (kA : Array Value) (s : Shared) : Prop := ∃ e, Inv X ((kS, seqObj "list" kA e) :: (a, seqObj "list" #[] e1) :: pins) σ H s
theorem key_turn {kA : Array Value} {v : Value} (O : Own X pins kS) (hka : kS ≠ a) {e : Nat} (I : Inv X ((kS, seqObj "list" kA e) :: (a, seqObj "list" #[] e1) :: pins) σ H s) : Two X pins σ H a kS e1 (kA.push v) { s with heap := s.heap.update kS (Obj.mapSeq (·.push v)) } := by
  have atK : s.heap.get? kS = some (seqObj "list" kA e) := (I.pin _ (List.mem_append_right _ List.mem_cons_self)).1
  have noK : H kS = none := (I.pin _ (List.mem_append_right _ List.mem_cons_self)).2.1
  have I2 : Inv X ((a, seqObj "list" #[] e1) :: pins) σ H s := I.pins_of fun q hq => I.pin q (List.mem_append_right _ (List.mem_cons_of_mem _ hq))
  have sb := Heap.SameBut.update s.heap kS (Obj.mapSeq (·.push v))
  obtain ⟨c2, hc2⟩ : ∃ c, (s.heap.update kS (Obj.mapSeq (·.push v))).get? kS = some (seqObj "list" (kA.push v) c) := ⟨_, get?_update_seq atK (·.push v)⟩
  have I3 := I2.turned (t' := s.toks) (it := kS) (h' := s.heap.update kS (Obj.mapSeq (·.push v))) (fun b o hb q => (sb.2 b hb).trans q) noK O.loc (.inr O.new) O.cel fun p hp => by
    rcases List.mem_append.mp hp with m | m
    · exact O.pin p (List.mem_append_left _ m)
    · rcases List.mem_cons.mp m with e | m
      · rw [e]
        exact fun z => hka z.symm
      · exact O.pin p (List.mem_append_right _ m)
  refine ⟨c2, I3.pins_of fun p hp => ?_⟩
  rcases List.mem_cons.mp hp with e | m
  · rw [e]
    exact ⟨hc2, noK, O.loc, O.fs, fun v z => by cases z⟩
  · exact I3.pin p (List.mem_append_right _ m)
theorem keys_are {kA : Array Value} (h : Vals ((ns.take xs.length).map V.int) kA.toList) (hn : ns.length = xs.length) (hh : Heap) : EachIs (fun v d => ∃ as, Reads hh v d as) kA.toList (ns.map PyData.int) := by
  rw [← hn, List.take_length] at h
  clear hn
  generalize kA.toList = us at h
  induction ns generalizing us with
  | nil => cases h; exact .nil
  | cons n ns ih =>
    cases h with
    | cons q t =>
      obtain ⟨tk, rfl⟩ := q
      exact .cons ⟨[], .int _ _⟩ (ih _ t)
theorem each_zip : ∀ {xs : List L2.V} {vs : List Value} {ns : List Int}, Vals xs vs → ns.length = xs.length → EachIs (fun (v : Value) (p : Int × L2.V) => RelV p.2 v) vs (ns.zip xs)
  | [], _, ns, .nil, _ => by rw [List.zip_nil_right]; exact .nil
  | _ :: _, _, [], .cons _ _, h => by cases h
  | _ :: _, _, _ :: _, .cons q t, h => .cons q (each_zip t (by simpa using h))
theorem vals_at : ∀ {xs : List L2.V} {vs : List Value} {i : Nat} {x : L2.V} {v : Value}, Vals xs vs → xs[i]? = some x → vs[i]? = some v → RelV x v
  | _, _, _, _, _, .nil, h, _ => by simp at h
  | _, _, 0, _, _, .cons q _, h1, h2 => by cases h1; cases h2; exact q
  | _, _, i + 1, _, _, .cons _ t, h1, h2 => vals_at (i := i) t (by simpa using h1) (by simpa using h2)
theorem each_snd : ∀ {us : List Value} {ps : List (Int × L2.V)}, EachIs (fun (v : Value) (p : Int × L2.V) => RelV p.2 v) us ps → Vals (ps.map Prod.snd) us
  | _, _, .nil => .nil
  | _, _, .cons q t => .cons q (each_snd t)
theorem sort_end {kA : Array Value} (hz : vs.length ≤ sizeLine) (hx : Vals xs vs) (hn : ns.length = xs.length) (hu : X.A.in1.in1.units + 2 < cLine) (O : Own X pins kS) (OA : Own X pins a) (hka : kS ≠ a)
    (T : Two X pins σ H a kS e1 kA s) (hk : Vals ((ns.take xs.length).map V.int) kA.toList)
    (h : ∀ s', Inv X pins σ (upd H a (.lst (byKey ns xs))) s' → P (.done (.ret .none)) s') : wpAny (model X.prog X.w) X.A.in1.in1 (ksk_end a false vs.toArray e1 (.ref kS) kA) P E s := by
  obtain ⟨e, I⟩ := T
  have atK : s.heap.get? kS = some (seqObj "list" kA e) := (I.pin _ (List.mem_append_right _ List.mem_cons_self)).1
  have noK : H kS = none := (I.pin _ (List.mem_append_right _ List.mem_cons_self)).2.1
  have atA : s.heap.get? a = some (seqObj "list" #[] e1) := (I.pin _ (List.mem_append_right _ (List.mem_cons_of_mem _ List.mem_cons_self))).1
  have noA : H a = none := (I.pin _ (List.mem_append_right _ (List.mem_cons_of_mem _ List.mem_cons_self))).2.1
  have I0 : Inv X pins σ H s := I.pins_of fun q hq => I.pin q (List.mem_append_right _ (List.mem_cons_of_mem _ (List.mem_cons_of_mem _ hq)))
  have hl := hx.length
  have sb := Heap.SameBut.update s.heap kS fun o => { o with data := .freed }
  have er := keys_are hk hn s.heap
  have hsz : kA.size = vs.length := by
    have q := er.length
    rw [List.length_map, Array.length_toList] at q
    omega
  have hal : AllAlike (ns.map PyData.int) := fun d hd d' hd' => by
    obtain ⟨n, _, rfl⟩ := List.mem_map.mp hd
    obtain ⟨m, _, rfl⟩ := List.mem_map.mp hd'
    rfl
  have hso : PySem.W.Sortable (ns.map PyData.int) := .inr fun d hd => by
    obtain ⟨n, _, rfl⟩ := List.mem_map.mp hd
    exact ⟨nofun, nofun⟩
  have S := SortsAt.data (prog := X.prog) (w := X.w) (A := X.A.in1.in1) (s := s) er hal hso fun d hd => by
    obtain ⟨n, _, rfl⟩ := List.mem_map.mp hd
    have e : (PyData.int n).depth ≤ 1 := by simp [PyData.depth]
    exact Nat.lt_of_le_of_lt (Nat.add_le_add_left e _) (by omega)
  refine keyH_end (h₁ := s.heap.update kS fun o => { o with data := .freed }) (fun b o hb q => ?_) (gone_get _ _) atK atA hka S hsz hz fun h' tk c kp hA => ?_
  · by_cases hbk : b = kS
    · rw [hbk, gone_get] at q
      cases q
    · exact (sb.2 b hbk).symm.trans q
  · have same : ∀ b o, b ≠ a → b ≠ kS → s.heap.get? b = some o → h'.get? b = some o := fun b o h1 h2 q => kp b o h1 ((sb.2 b h2).trans q)
    have ko : KeyedOut false (ns.map PyData.int) vs (sortVals (dataKind s.heap (ns.map PyData.int)) false kA.toList vs) := ⟨s.heap, kA.toList, hal, rfl, er⟩
    have z : (ns.zip xs).map (fun p => PyData.int p.1) = ns.map PyData.int := by
      rw [show (fun p : Int × L2.V => PyData.int p.1) = PyData.int ∘ Prod.fst from rfl, ← List.map_map, List.map_fst_zip (by omega)]
    have ez := each_zip hx hn
    rw [← z] at ko
    have out := keyedOut_each (fun p : Int × L2.V => PyData.int p.1) ko ez
    rw [dataLe_int (fun p : Int × L2.V => p.1), z] at out
    have lo := out.length
    rw [(List.mergeSort_perm _ _).length_eq, List.length_zip] at lo
    have rel : Vals (byKey ns xs) (sortVals (dataKind s.heap (ns.map PyData.int)) false kA.toList vs) := each_snd out
    refine h _ ?_
    have hok' : HOk X.prog X.w (upd H a (.lst (byKey ns xs))) h' := fun b u q => by
      by_cases hb : b = a
      · subst hb
        rw [upd_same] at q
        cases q
        refine ⟨?_, _, c, rel, hA⟩
        have q2 := rel.length
        omega
      · rw [upd_ne hb] at q
        have ne : ∀ {c : Addr} {w : HO}, H c = some w → c ≠ a ∧ c ≠ kS := fun {c w} q => ⟨fun z => (by rw [z, noA] at q; cases q), fun z => (by rw [z, noK] at q; cases q)⟩
        refine (I0.hok b u q).stay (fun d v hd w => ?_) (fun d w => by rw [upd_ne (ne w).1]; exact w) fun d ys w => by rw [upd_ne (ne w).1]; exact w
        rcases hd with rfl | hd
        · exact same d v (ne q).1 (ne q).2 w
        · exact same d v (ne hd).1 (ne hd).2 w
    have un : Un (frs X.stack) [kS, a] H (upd H a (.lst (byKey ns xs))) s.heap h' := by
      have nb : ∀ {b : Addr}, b ∉ [kS, a] → b ≠ kS ∧ b ≠ a := fun {b} q => ⟨fun z => q (by simp [z]), fun z => q (by simp [z])⟩
      refine ⟨fun b o q _ _ m => same b o (nb m).2 (nb m).1 q, fun b o q _ _ m => ⟨o.slots, same b o (nb m).2 (nb m).1 q⟩, fun b o _ n m => by rw [upd_ne (nb m).2]; exact n, fun b o q m => ⟨o, same b o (nb m).2 (nb m).1 q⟩, fun b ys q => ?_, fun b o u q => ?_, fun b ps q => ⟨#[], ?_⟩⟩
      · rw [upd_ne (fun z => by rw [z, noA] at q; cases q)]; exact q
      · rw [upd_ne (fun z => by rw [z, noA] at q; cases q)]; exact q
      · rw [upd_ne (fun z => by rw [z, noA] at q; cases q), q]; simp
    exact I0.call (g' := s.gens) (d' := s.drawn) (t' := tk) (ch := [kS, a]) un hok' I0.bare fun b hb => by
      rcases List.mem_cons.mp hb with e | hb
      · rw [e]
        exact ⟨.inr O.new, O.loc, O.cel, O.pin⟩
      · rw [List.mem_singleton.mp hb]
        exact ⟨.inr OA.new, OA.loc, OA.cel, OA.pin⟩
/-- the keys, one by one, then the items by them -/
theorem sort_rest (hz : vs.length ≤ sizeLine) (hx : Vals xs vs) (hn : ns.length = xs.length) (hu : X.A.in1.in1.units + 2 < cLine) (O : Own X pins kS) (OA : Own X pins a) (hka : kS ≠ a)
    (hf : KeyAt X σ f r) (turn : ∀ (i : Nat) (x : L2.V) (n : Int) (H' : Hp), xs[i]? = some x → ns[i]? = some n → J i H' → r x H' fun m H2 => m = n ∧ J (i + 1) H2)
    (T : Two X pins σ H a kS e1 #[] s) (j0 : J 0 H) (h : ∀ H' s', J xs.length H' → Inv X pins σ (upd H' a (.lst (byKey ns xs))) s' → H' a = none → P (.done (.ret .none)) s') :
    wpAny (model X.prog X.w) X.A.in1.in1 (ksk_rest a (.ref f) false vs.toArray e1 (.ref kS)) P E s := by
  have hl := hx.length
  unfold ksk_rest
  refine wpAny_bind (wpAny_rule ?_)
  first
    | rw [List.forIn_toArray]
    | (rw [← Array.forIn_toList]; simp only [List.toList_toArray])
  refine wpAny_bind (ksk_fold (fun i s' => ∃ (H' : Hp) (kA : Array Value), Two X pins σ H' a kS e1 kA s' ∧ Vals ((ns.take i).map V.int) kA.toList ∧ J i H') vs 0 s ⟨H, #[], T, by rw [List.take_zero]; exact .nil, j0⟩ ?step ?done)
  case step =>
    rintro j v s1 hv ⟨H1, kA, T1, hk, hj⟩
    simp only [Nat.zero_add] at hk hj ⊢
    have hjl : j < vs.length := (List.getElem?_eq_some_iff.mp hv).1
    obtain ⟨x, hxj⟩ : ∃ x, xs[j]? = some x := ⟨_, List.getElem?_eq_getElem (by omega)⟩
    obtain ⟨n, hnj⟩ : ∃ n, ns[j]? = some n := ⟨_, List.getElem?_eq_getElem (by omega)⟩
    have rx : RelV x v := vals_at hx hxj hv
    obtain ⟨e, I1⟩ := T1
    refine wpAny_bind (wpAny_attempt (wpAny_mono (hf _ _ s1 H1 x v _ I1 rx (turn j x n H1 hxj hnj hj)) (fun u s2 q => ?_) fun _ _ q => q))
    obtain ⟨y, H2, I2, ry, m, rfl, rfl, hj2⟩ := q
    obtain ⟨tk, rfl⟩ : ∃ t, u = Value.int m t := ry
    have atK : s2.heap.get? kS = some (seqObj "list" kA e) := (I2.pin _ (List.mem_append_right _ List.mem_cons_self)).1
    have kz : kA.size ≤ vs.length := by
      have q := hk.length
      rw [List.length_map, List.length_take] at q
      have q2 : kA.toList.length = kA.size := Array.length_toList
      omega
    refine wpAny_bind (listUpdate_at atK rfl ?_ (Nat.le_trans kz hz) (Nat.le_trans (Nat.le_of_eq (Array.size_push ..)) (Nat.succ_le_succ (Nat.le_trans kz hz))))
    refine wpAny_pure ⟨rfl, H2, kA.push (.int m tk), key_turn O hka I2, ?_, hj2⟩
    have ek : ns.take (j + 1) = ns.take j ++ [m] := by rw [List.take_add_one, hnj]; rfl
    rw [ek, List.map_append, Array.toList_push]
    exact hk.append (.cons ⟨tk, rfl⟩ .nil)
  case done =>
    rintro s1 ⟨H1, kA, T1, hk, hj⟩
    rw [Nat.zero_add] at hk hj
    have atK := T1
    obtain ⟨e, I1⟩ := atK
    have at2 : s1.heap.get? kS = some (seqObj "list" kA e) := (I1.pin _ (List.mem_append_right _ List.mem_cons_self)).1
    have noA : H1 a = none := (I1.pin _ (List.mem_append_right _ (List.mem_cons_of_mem _ List.mem_cons_self))).2.1
    refine wpAny_bind (listItems_at at2 rfl ?_)
    rw [← hl] at hk hj
    exact sort_end hz hx hn hu O OA hka T1 hk fun s' I' => h H1 s' hj I' noA
/-- sorted(xs, key=f) -/
theorem sorted_by {l : Addr} {Q : VK} (I : Inv X pins σ H s) (hs : s.heap.IsList l vs.toArray) (hz : vs.length ≤ sizeLine) (hx : Vals xs vs) (hn : ns.length = xs.length) (hu : X.A.in1.in1.units + 2 < cLine)
    (hf : KeyAt X σ f r) (turn : ∀ (i : Nat) (x : L2.V) (n : Int) (H' : Hp), xs[i]? = some x → ns[i]? = some n → J i H' → r x H' fun m H2 => m = n ∧ J (i + 1) H2) (j0 : J 0 H)
    (h : ∀ (H' : Hp) (p : Addr), J xs.length H' → H' p = none → Q (.ref p) (upd H' p (.lst (byKey ns xs)))) :
    wpAny (model X.prog X.w) X.A (call (.builtin "sorted") [.ref l] [(Str.ofString "key", .ref f)]) (EP X pins σ Q) E s := by
  refine sorted_of_sort hs hz (ksk_s1 _ _) (fun _ => ksk_l1 _ _) fun E' => ?_
  rw [ksk_t1]
  have ho : (copyHeap s.heap vs).get? (s.heap.objs.size + 1) = some (seqObj "list" vs.toArray 0) := copyHeap_at s.heap vs
  obtain ⟨e1, ho1⟩ : ∃ e1, ((copyHeap s.heap vs).update (s.heap.objs.size + 1) (Obj.mapSeq fun _ => (#[] : Array Value))).get? (s.heap.objs.size + 1) = some (seqObj "list" #[] e1) := ⟨_, get?_update_seq ho fun _ => #[]⟩
  have alt : s.heap.objs.size + 1 < (copyHeap s.heap vs).objs.size := Heap.lt_size ho
  unfold ksk_tree
  refine wpAny_bind (listItems_at ho rfl ?_)
  refine wpAny_bind (listUpdate_at ho rfl ?_ (by rw [List.size_toArray]; exact hz) (Nat.zero_le _))
  refine wpAny_bind (seqEpoch_at ho1 rfl ?_)
  refine wpAny_bind (wpAny_newTuple ?_ hz)
  refine wpAny_bind (wpAny_newList ?_ (Nat.zero_le _))
  refine wpAny_holding ?_
  obtain ⟨g, hg⟩ : ∃ g, g = ((copyHeap s.heap vs).update (s.heap.objs.size + 1) (Obj.mapSeq fun _ => (#[] : Array Value))).push (seqObj "tuple" vs.toArray 0) := ⟨_, rfl⟩
  have gs : g.objs.size = (copyHeap s.heap vs).objs.size + 1 := by rw [hg, size_push', Heap.size_update]
  have kp : ∀ b u, s.heap.get? b = some u → (g.push (seqObj "list" #[] 0)).get? b = some u := fun b u q => by
    have hb : b ≠ s.heap.objs.size + 1 := fun z => by
      have w := Heap.lt_size q
      rw [z] at w
      exact absurd (Nat.lt_trans w (Nat.lt_succ_self _)) (Nat.lt_irrefl _)
    rw [hg]
    exact Heap.get?_push_of_some _ (Heap.get?_push_of_some _ ((Heap.get?_update_ne _ _ _ _ hb).trans (copyHeap_old q)))
  have OA : Own X pins (s.heap.objs.size + 1) := Own.of I (Nat.le_succ _)
  have OK : Own X pins g.objs.size := Own.of I (by rw [gs]; exact Nat.le_of_lt (Nat.lt_trans (Nat.lt_succ_self _) (Nat.lt_succ_of_lt alt)))
  have hka : g.objs.size ≠ s.heap.objs.size + 1 := by rw [gs]; exact Nat.ne_of_gt (Nat.lt_succ_of_lt alt)
  have Ik : Inv X pins σ H { s with heap := g.push (seqObj "list" #[] 0) } := I.kept (t' := s.toks) kp
  have T : Two X pins σ H (s.heap.objs.size + 1) g.objs.size e1 #[] { s with heap := g.push (seqObj "list" #[] 0) } := by
    refine ⟨0, Ik.pins_of fun p hp => ?_⟩
    rcases List.mem_cons.mp hp with e | hp
    · rw [e]
      exact ⟨Heap.get?_push_size _ rfl, I.hok.fresh (by rw [gs]; exact Nat.le_of_lt (Nat.lt_trans (Nat.lt_succ_self _) (Nat.lt_succ_of_lt alt))), OK.loc, OK.fs, fun v z => by cases z⟩
    · rcases List.mem_cons.mp hp with e | hp
      · rw [e]
        refine ⟨?_, I.hok.fresh (Nat.le_succ _), OA.loc, OA.fs, fun v z => by cases z⟩
        show (g.push (seqObj "list" #[] 0)).get? (s.heap.objs.size + 1) = _
        rw [hg]
        exact Heap.get?_push_of_some _ (Heap.get?_push_of_some _ ho1)
      · exact Ik.pin p (List.mem_append_right _ hp)
  rw [← hg]
  exact sort_rest (s := { s with heap := g.push (seqObj "list" #[] 0) }) hz hx hn hu OK OA hka hf turn T j0 fun H' s' hj I' na => ⟨rfl, V.ref (s.heap.objs.size + 1), _, I', rfl, h H' _ hj na⟩
end
end Mu

end
section
set_option linter.all false
set_option Elab.async false
/-! sorted(xs, key=f) is sound. -/
namespace Mu
open PySem PySem.Spec PyProof.Rows L2 PySem.W
/-! ### the plain part -/
section
variable {α β : Type}
theorem insK_perm (n : Int) (d : α) : ∀ l : List (Int × α), (insK n d l).Perm ((n, d) :: l)
  | [] => List.Perm.refl _
  | (m, e) :: r => by
    show (if n ≤ m then (n, d) :: (m, e) :: r else (m, e) :: insK n d r).Perm _
    split
    · exact List.Perm.refl _
    · exact ((insK_perm n d r).cons (m, e)).trans (List.Perm.swap _ _ _)
theorem sortK_perm : ∀ (ns : List Int) (xs : List α), (sortK ns xs).Perm (ns.zip xs)
  | [], _ => List.Perm.refl _
  | _ :: _, [] => List.Perm.refl _
  | n :: ns, x :: xs => (insK_perm n x _).trans ((sortK_perm ns xs).cons (n, x))
theorem upK_pair : ∀ {l : List (Int × α)}, upK l = true → l.Pairwise fun p q => p.1 < q.1
  | [], _ => .nil
  | [_], _ => List.pairwise_singleton _ _
  | (n, d) :: (m, e) :: r, h => by
    have h : (decide (n < m) && upK ((m, e) :: r)) = true := h
    rw [Bool.and_eq_true, decide_eq_true_eq] at h
    have q := upK_pair h.2
    refine .cons (fun p hp => ?_) q
    rcases List.mem_cons.mp hp with rfl | hp
    · exact h.1
    · exact Int.lt_trans h.1 ((List.pairwise_cons.mp q).1 p hp)
theorem only_one : ∀ {l m : List (Int × α)}, l.Pairwise (fun p q => p.1 < q.1) → m.Pairwise (fun p q => p.1 ≤ q.1) → l.Perm m → l = m
  | [], m, _, _, h => (List.Perm.eq_nil h.symm).symm
  | x :: l, [], _, _, h => absurd h.length_eq (by simp)
  | x :: l, y :: m, hl, hm, h => by
    have e : x = y := by
      rcases List.mem_cons.mp (h.mem_iff.mp (List.mem_cons_self (a := x) (l := l))) with e | hx
      · exact e
      · rcases List.mem_cons.mp (h.mem_iff.mpr (List.mem_cons_self (a := y) (l := m))) with e | hy
        · exact e.symm
        · have h1 := (List.pairwise_cons.mp hm).1 x hx
          have h2 := (List.pairwise_cons.mp hl).1 y hy
          omega
    subst e
    rw [only_one (List.pairwise_cons.mp hl).2 (List.pairwise_cons.mp hm).2 h.cons_inv]
theorem sortK_is {ns : List Int} {xs : List α} (h : upK (sortK ns xs) = true) : (sortK ns xs).map Prod.snd = byKey ns xs := by
  unfold byKey
  rw [only_one (upK_pair h) ?_ ((sortK_perm ns xs).trans (List.mergeSort_perm _ _).symm)]
  refine (List.pairwise_mergeSort (le := fun p q : Int × α => decide (p.1 ≤ q.1)) (fun a b c h1 h2 => ?_) (fun a b => ?_) (ns.zip xs)).imp fun h => of_decide_eq_true h
  · exact decide_eq_true (Int.le_trans (of_decide_eq_true h1) (of_decide_eq_true h2))
  · rw [Bool.or_eq_true, decide_eq_true_eq, decide_eq_true_eq]
    exact Int.le_total _ _
theorem byKey_map (f : α → β) (ns : List Int) (xs : List α) : byKey ns (xs.map f) = (byKey ns xs).map f := by
  unfold byKey
  have e : ns.zip (xs.map f) = (ns.zip xs).map fun p => (p.1, f p.2) := by
    rw [List.zip_map_right]
    rfl
  rw [e, ← List.map_mergeSort (r := fun p q : Int × α => decide (p.1 ≤ q.1)) (s := fun p q : Int × β => decide (p.1 ≤ q.1)) (f := fun p : Int × α => (p.1, f p.2)) (fun _ _ _ _ => rfl), List.map_map, List.map_map]
  rfl
theorem byKey_mem {ns : List Int} {xs : List α} {x : α} (h : x ∈ byKey ns xs) : x ∈ xs := by
  obtain ⟨p, hp, rfl⟩ := List.mem_map.mp h
  exact (List.of_mem_zip ((List.mergeSort_perm _ _).mem_iff.mp hp)).2
end
section
variable {K : PySem.W.Frag} {mg : Str → Option Value} {V : Vw} {ρ : Rho} {H : Hp}
theorem RepL.zipD : ∀ {ds : List D} {vs : List L2.V}, RepL K mg V ρ H ds vs → ∀ p ∈ ds.zip vs, Rep K mg V ρ H p.1 p.2
  | _, _, .nil, p, h => by simp at h
  | _, _, .cons q t, p, h => by
    rcases List.mem_cons.mp h with rfl | h
    · exact q
    · exact RepL.zipD t p h
theorem RepL.ofZip : ∀ {ps : List (D × L2.V)}, (∀ p ∈ ps, Rep K mg V ρ H p.1 p.2) → RepL K mg V ρ H (ps.map Prod.fst) (ps.map Prod.snd)
  | [], _ => .nil
  | p :: ps, h => .cons (h p List.mem_cons_self) (RepL.ofZip fun q m => h q (List.mem_cons_of_mem _ m))
theorem RepL.byKey (ns : List Int) {ds : List D} {vs : List L2.V} (r : RepL K mg V ρ H ds vs) : RepL K mg V ρ H (Mu.byKey ns ds) (Mu.byKey ns vs) := by
  have hl := r.length
  have e1 : ds = (ds.zip vs).map Prod.fst := (List.map_fst_zip (by omega)).symm
  have e2 : vs = (ds.zip vs).map Prod.snd := (List.map_snd_zip (by omega)).symm
  rw [show Mu.byKey ns ds = Mu.byKey ns ((ds.zip vs).map Prod.fst) by rw [← e1], show Mu.byKey ns vs = Mu.byKey ns ((ds.zip vs).map Prod.snd) by rw [← e2], byKey_map, byKey_map]
  exact RepL.ofZip fun p hp => r.zipD p (byKey_mem hp)
end
/-! ### the call -/
section
variable {C : Cf} {c : Ct} {W : WX} {X : Cx} {V : Vw}
/-- a built-in called with keywords, at these slots -/
theorem pe_callBS {x : Str} {p pos : Pos} {e : Expr} {es : List Expr} {kws : List Keyword} {t tk : TA} {id : String} {ks : List Str} {r : L2.St → List L2.V → List L2.V → Hp → VK → Prop}
    (hc : ∀ (pins : List (Addr × Obj)) (s : Shared) (σ : L2.St) (H : Hp) (xs zs : List L2.V) (us ws : List Value) (Q : VK), Inv X pins σ H s → Vals xs us → Vals zs ws → r σ xs zs H Q → wpAny (model X.prog X.w) X.A (PySem.call (.builtin id) us (ks.zip ws)) (EP X pins σ Q) X.xe s)
    (hg : Gl X x) (hm : X.mg x = none) (hv : bootBuiltins x = some (.builtin id)) (ha : PA X (e :: es) t) (hk : PK X kws tk) (hn : x ≠ "__name__") (hdb : (x == ("__debug__" : Str)) = false)
    (he : backTo pos (starEach (e :: es) X.env) = (false, eval e X.env) :: backTo pos (starEach es X.env)) (hpl : (backTo pos (starEach (e :: es) X.env)).any (·.1) = false)
    (hall : (backToKw pos (keywordEach kws X.env)).all (·.1.isSome) = true) (hnone : (backToKw pos (keywordEach kws X.env)).any (·.1.isNone) = false) (hks : (backToKw pos (keywordEach kws X.env)).filterMap (·.1) = ks) :
    PE X (.Call (.Name x p) (e :: es) kws pos) (fun σ H Q => t σ H fun vs H1 => tk σ H1 fun zs H2 => r σ vs zs H2 Q) := by
  refine ⟨fun pins s σ H Q I h => wpAny_Call_Name_kw (ld_blt I hg hm hv ?_ hn hdb)⟩
  refine PyProof.Rows.callWith_kw (thn (ha.run pos pins s σ H _ I h) fun us s1 q => ?_) he hpl hall hnone
  obtain ⟨vs, H1, I1, r1, q1⟩ := q
  refine thn (hk.run pos pins s1 σ H1 _ I1 q1) fun ws s2 q2 => ?_
  obtain ⟨zs, H2, I2, r2, q2⟩ := q2
  rw [hks]
  exact hc pins s2 σ H2 vs zs us ws Q I2 r1 r2 q2
/-- the keys' def, called by sorted -/
theorem Good.keyAt (G : Good C c W X V) {a : Addr} {fd : FuncData} {F : Fd} {f : Nat} {zs : List L2.V} {ws : List Value} (FG : ∀ env σ, FnG X.prog X.w X.K X.mg X.base (V.at (!c.L.isEmpty) env σ) C.k a fd F.ps (spC X.K X.mg (V.at (!c.L.isEmpty) env σ) F.ps.length (C.call env f)))
    (rz : Vals zs ws) (hb : Binds X.K fd F.ps ws) (env : Env) (σ : L2.St) :
    KeyAt X σ a fun x H Q => spC X.K X.mg (V.at (!c.L.isEmpty) env σ) F.ps.length (C.call env f) ([x] ++ zs) H (fun v H' => ∃ n, v = .int n ∧ Q n H') fun _ _ _ => False := by
  intro E pins s H x u Q I rx h
  have hr : Room C.k X.A.in1.in1 := ⟨G.room.hd, by have := G.rm.1; show X.A.depth + 3 * C.k + 5 < _; omega, by have := G.rm.2; show X.A.units + 1 + 1 + 16 * C.k + 200 < _; omega⟩
  have gd : X.A.in1.in1.guards = some [] := G.cx.gd
  have r1 : Vals [x] [u] := .cons rx .nil
  have r2 : Vals ([x] ++ zs) ([u] ++ ws) := r1.append rz
  have hl : ([u] ++ ws).length = F.ps.length := by rw [← r2.length]; exact h.1
  have q := (FG env σ).run X.A.in1.in1 X.stack s H ⟨[u], []⟩ ([u] ++ ws) ([x] ++ zs) _ _ hr gd I.env0.in1.in1 (G.frsAt I env) (hb s [u] I.kIn hl) r2 h
  refine wpAny_call (codeAny_mono q fun r s' hq => ?_)
  match r, hq with
  | .error e, hq => obtain ⟨_, _, _, _, _, _, _, _, _, _, _, _, z⟩ := hq; exact z.elim
  | .ok (.ret u), hq => exact I.after hq
theorem keys_step {f : D → Sto → Res D} {x : D} {xs : List D} {st st2 : Sto} {ns : List Int} (h : keysD f (x :: xs) st = .ok ns st2) : ∃ n ms st1, ns = n :: ms ∧ f x st = .ok (.int n) st1 ∧ keysD f xs st1 = .ok ms st2 := by
  unfold keysD at h
  cases e : f x st with
  | ok d st1 =>
    rw [e] at h
    simp only [Res.still_ok, Res.bind_ok] at h
    cases d with
    | int n =>
      simp only at h
      cases e2 : keysD f xs st1 with
      | ok ms st3 =>
        rw [e2] at h
        simp only [Res.bind_ok] at h
        cases h
        exact ⟨n, ms, st1, rfl, rfl, e2⟩
      | exc _ _ _ => rw [e2] at h; cases h
      | stuck => rw [e2] at h; cases h
    | _ => cases h
  | exc _ _ _ => rw [e] at h; cases h
  | stuck => rw [e] at h; cases h
theorem keys_len {f : D → Sto → Res D} : ∀ {xs : List D} {st st2 : Sto} {ns : List Int}, keysD f xs st = .ok ns st2 → ns.length = xs.length
  | [], _, _, _, h => by cases h; rfl
  | x :: xs, st, st2, ns, h => by
    obtain ⟨n, ms, st1, rfl, _, h2⟩ := keys_step h
    simp [keys_len h2]
/-- the keys' def: how it answers -/
theorem Good.keyR (G : Good C c W X V) {f : Nat} {F : Fd} (hf : V.T.fns[f]? = some F) : ∃ a, X.mg F.name = some (.ref a) ∧ ∃ r : Env → L2.St → L2.V → Hp → (Int → Hp → Prop) → Prop, (∀ env σ, KeyAt X σ a (r env σ)) ∧
    ∀ (env : Env) (σ : L2.St) (ρ : Rho) (H : Hp) (d : D) (x : L2.V) (st st1 : Sto) (n : Int) (Q : Int → Hp → Prop), EnvRep X.K X.mg V ρ H env σ → Rep X.K X.mg V ρ H d x → Wd X.K X.mg V ρ st H → C.call env f [d] st = .ok (.int n) st1 →
      (∀ H' ρ', Ext ρ H ρ' H' → Wd X.K X.mg V ρ' st1 H' → Q n H') → r env σ x H Q := by
  obtain ⟨a, fd, hm, _, FG, hb⟩ := G.call f F hf
  refine ⟨a, hm, ?_⟩
  rcases hb 1 with h | ⟨pad, zs, ws, hn, rz, rp, hb, he⟩
  · exact ⟨fun _ _ _ _ _ => False, fun _ _ _ _ _ _ _ _ _ _ _ z => z.elim, fun env σ ρ H d x st st1 n Q _ _ _ e _ => by rw [h env [d] st rfl] at e; cases e⟩
  · refine ⟨fun env σ x H Q => spC X.K X.mg (V.at (!c.L.isEmpty) env σ) F.ps.length (C.call env f) ([x] ++ zs) H (fun v H' => ∃ n, v = .int n ∧ Q n H') fun _ _ _ => False, fun env σ => G.keyAt FG rz hb env σ, fun env σ ρ H d x st st1 n Q er rd w e h => ?_⟩
    refine ⟨by rw [List.length_append, ← (rp V ρ H).length]; exact hn, ρ, [d] ++ pad, st, ((RepL.cons rd .nil).mv (mv_view Vw.at_T Vw.at_fs)).append (rp _ ρ H), w.atV _ er, ?_⟩
    rw [← he env [d] st rfl, e]
    intro v H' ρ' e' w' r'
    cases r'
    exact ⟨n, rfl, h H' ρ' e' (w'.unV w e')⟩
/-- sorted(xs, key=f) -/
theorem Good.srt (G : Good C c W X V) {f : Nat} {v : Str} {x : Expr} {p q pos kp : Pos} {fa : Env → Sto → Res D} (hg : c.gl "sorted" = true) (hx : nStar x = true) (ha : PE X x (RE X V W fa)) (ht : c.fnN f = some v) (hv : c.gl v = true) (ho : okName v = true) :
    PE X (.Call (.Name "sorted" p) [x] [⟨some "key", .Name v q, kp⟩] pos) (RE X V W fun env st => (fa env st).bind fun d st => srtD (fun d st => C.call env f [d] st) d st) := by
  obtain ⟨o1, o2, o3⟩ := okName_of ho
  unfold Ct.fnN at ht
  rw [G.T2] at ht
  obtain ⟨F, hF, hn⟩ := Option.map_eq_some_iff.mp ht
  subst hn
  obtain ⟨a, hm, r, hk, hr⟩ := G.keyR hF
  have st1 := star_of (xs := []) (env := X.env) hx
  refine PE.imp (pe_callBS (id := "sorted") (ks := ["key"]) (r := fun σ vs zs H Q => ∃ ρ env d st y, vs = [y] ∧ zs = [.ref a] ∧ EnvRep X.K X.mg V ρ H env σ ∧ Rep X.K X.mg V ρ H d y ∧ Wd X.K X.mg V ρ st H ∧ Post X.K X.mg V W σ ρ H (Rep X.K X.mg V) (srtD (fun d st => C.call env f [d] st) d st) Q)
    ?hc (G.glOk hg) (G.blt _ (by decide +kernel)) (by decide +kernel) (pa_cons ha pa_nil st1) (pk_cons (pe_glob (v := .ref a) (u := .ref a) (G.glOk hv) hm rfl o1) pk_nil) (by decide) (by decide) (by rw [st1]; rfl) (by rw [st1]; rfl) rfl rfl rfl) ?hi
  case hi =>
    intro σ H Q ⟨ρ, env, st, er, w, z⟩
    exact Rdg.go er w z fun ρ1 d st1 y H1 e1 er1 w1 r1 z1 => ⟨ρ1, env, d, st1, y, rfl, rfl, er1, r1, w1, z1⟩
  case hc =>
    rintro pins s σ H xs zs us ws Q I rx rz ⟨ρ, env, d, st, y, rfl, rfl, er, rd, w, z⟩
    obtain ⟨u, rfl, ru⟩ := vals1 rx
    obtain ⟨k, rfl, rk⟩ := vals1 rz
    obtain rfl : k = Value.ref a := rk
    unfold srtD at z
    cases hi : Sto.items st d with
    | none => rw [hi] at z; exact z.elim
    | some ds =>
      rw [hi] at z
      simp only at z
      obtain ⟨l, vs, rfl, hs, rl⟩ := items_of w rd hi
      obtain rfl : u = Value.ref l := ru
      obtain ⟨its, rv, hl, hz⟩ := I.list hs
      cases hkd : keysD (fun d st => C.call env f [d] st) ds st with
      | exc _ _ _ =>
        have aux : ∀ (ds : List D) (st : Sto) (cc : Nat) (fs : Option D) (st' : Sto), keysD (fun d st => C.call env f [d] st) ds st = .exc cc fs st' → False := by
          intro ds
          induction ds with
          | nil => intro st cc fs st' h; cases h
          | cons d ds ih =>
            intro st cc fs st' h
            unfold keysD at h
            cases e : C.call env f [d] st with
            | ok d1 s1 =>
              rw [e] at h
              simp only [Res.still_ok, Res.bind_ok] at h
              cases d1 with
              | int n =>
                simp only at h
                cases e2 : keysD (fun d st => C.call env f [d] st) ds s1 with
                | ok _ _ => rw [e2] at h; cases h
                | exc _ _ _ => exact ih _ _ _ _ e2
                | stuck => rw [e2] at h; cases h
              | _ => cases h
            | exc _ _ _ => rw [e] at h; cases h
            | stuck => rw [e] at h; cases h
        exact (aux _ _ _ _ _ hkd).elim
      | stuck => rw [hkd] at z; exact z.elim
      | ok ns st2 =>
        rw [hkd] at z
        simp only [Res.bind_ok] at z
        split at z
        · rename_i hup
          rw [sortK_is hup] at z
          refine sorted_by (ns := ns) (J := fun i H' => ∃ ρ' st', Ext ρ H ρ' H' ∧ Wd X.K X.mg V ρ' st' H' ∧ keysD (fun d st => C.call env f [d] st) (ds.drop i) st' = .ok (ns.drop i) st2) I hl.isList (by rw [← rv.length]; exact hz) rv ?_ ?_ (hk env σ) ?_ ⟨ρ, st, Ext.refl ρ H, w, hkd⟩ ?_
          · rw [keys_len hkd, rl.length]
          · have := G.rm.2
            show X.A.units + 1 + 1 + 2 < _
            omega
          · rintro i x n H' hx hni ⟨ρ', st', e', w', hd⟩
            obtain ⟨d', hd', rd'⟩ := rl.getV hx
            have h1 : ds.drop i = d' :: ds.drop (i + 1) := by
              obtain ⟨hlt, hg⟩ := List.getElem?_eq_some_iff.mp hd'
              rw [List.drop_eq_getElem_cons hlt, hg]
            have h2 : ns.drop i = n :: ns.drop (i + 1) := by
              obtain ⟨hlt, hg⟩ := List.getElem?_eq_some_iff.mp hni
              rw [List.drop_eq_getElem_cons hlt, hg]
            rw [h1, h2] at hd
            obtain ⟨m, ms, s1, q1, q2, q3⟩ := keys_step hd
            cases q1
            exact hr env σ ρ' H' d' x st' s1 n _ (er.ext e') (rd'.ext e') w' q2 fun H2 ρ2 e2 w2 => ⟨rfl, ρ2, s1, e'.trans e2, w2, q3⟩
          · rintro H' pp ⟨ρ', st', e', w', hd⟩ hp
            have e3 : st' = st2 := by
              rw [List.drop_eq_nil_of_le (as := ds) (by rw [rl.length]; exact Nat.le_refl _), List.drop_eq_nil_of_le (as := ns) (by rw [keys_len hkd, rl.length]; exact Nat.le_refl _)] at hd
              unfold keysD at hd
              cases hd
              rfl
            subst e3
            exact z.ok (e'.trans (Ext.fresh hp)) (w'.new hp) (.lst ⟨upd_same, w'.fresh hp⟩ (((rl.byKey ns).ext e').ext (Ext.fresh hp)))
        · exact z.elim
end
end Mu

end
section
set_option linter.all false
set_option Elab.async false
/-! Expressions are sound, by their checks. -/
namespace Mu
open PySem PySem.Spec PyProof.Rows L2
section
variable {K : PySem.W.Frag} {mg : Str → Option Value} {V : Vw} {ρ : Rho} {H : Hp} {st st' : Sto} {i : Nat} {a : Addr} {d d' : D} {v : L2.V} {Q : VK}
theorem bm_append (hi : ρ.ix[i]? = some (some a)) (w : Wd K mg V ρ st H) (r : Rep K mg V ρ H d v) (h : bmD .append (.ref i) [d] st = some (d', st')) (fin : ∀ u H', Ext ρ H ρ H' → Wd K mg V ρ st' H' → Rep K mg V ρ H' d' u → Q u H') : rAppend (.ref a) [v] H Q := by
  have h : (match st[i]? with
    | some (.lst xs) => if xs.length < sizeLine then some (D.non, st.set i (.lst (xs ++ [d]))) else none
    | _ => none) = some (d', st') := h
  split at h
  · rename_i xs e
    split at h
    · rename_i hz
      cases h
      obtain ⟨ys, hy, ry⟩ := w.ob i a _ hi e
      refine ⟨a, ys, v, rfl, rfl, hy, by rw [← ry.length]; exact hz, fin _ _ (Ext.put hi) (w.put hi ⟨_, upd_same, (ry.append (.cons r .nil)).ext (Ext.put hi)⟩) .non⟩
    · cases h
  · cases h
theorem bm_extend (hi : ρ.ix[i]? = some (some a)) (w : Wd K mg V ρ st H) (r : Rep K mg V ρ H d v) (h : bmD .extend (.ref i) [d] st = some (d', st')) (fin : ∀ u H', Ext ρ H ρ H' → Wd K mg V ρ st' H' → Rep K mg V ρ H' d' u → Q u H') : rExtend (.ref a) [v] H Q := by
  cases r with
  | @lst b ys ds t r =>
    have h : (match st[i]? with
      | some (.lst xs) => if xs.length + ds.length ≤ sizeLine then some (D.non, st.set i (.lst (xs ++ ds))) else none
      | _ => none) = some (d', st') := h
    split at h
    · rename_i xs e
      split at h
      · rename_i hz
        cases h
        obtain ⟨zs, hy, ry⟩ := w.ob i a _ hi e
        refine ⟨a, b, zs, ys, rfl, rfl, hy, t.1, by rw [← ry.length, ← r.length]; exact hz, fin _ _ (Ext.put hi) (w.put hi ⟨_, upd_same, (ry.append r).ext (Ext.put hi)⟩) .non⟩
      · cases h
    · cases h
  | _ => cases h
end
section
variable {C : Cf} {c : Ct} {W : WX} {X : Cx} {V : Vw} {n : Nat}
theorem litV_of {d : Mu.D} {v : Const} {kk : Nat} {pos : Pos} (h : litB d v = true) : ∃ z, PE X (.Constant v kk pos) (tC z) ∧ ∀ ρ H, Rep X.K X.mg V ρ H d z := by
  unfold litB at h
  split at h
  · exact ⟨_, pe_non, fun _ _ => .non⟩
  · have e := beq_iff_eq.mp h
    subst e
    exact ⟨_, pe_bl, fun _ _ => .bl _⟩
  · have e := of_decide_eq_true h
    subst e
    exact ⟨_, pe_int, fun _ _ => .int _⟩
  · have e := of_decide_eq_true h
    subst e
    exact ⟨_, pe_str, fun _ _ => .str _⟩
  · cases h
theorem keyB_of {k : Key} {v : Const} {kk : Nat} {pos : Pos} (h : keyB k v = true) : PE X (.Constant v kk pos) (tC (kV k)) := by
  unfold keyB at h
  split at h
  · have e := of_decide_eq_true h
    subst e
    exact pe_int
  · have e := of_decide_eq_true h
    subst e
    exact pe_str
  · cases h
theorem dic1_of {k : Key} {d : Mu.D} {kc vc : Const} {k1 k2 : Nat} {p1 p2 pos : Pos} (h1 : keyB k kc = true) (h2 : litB d vc = true) : PE X (.Dict [some (.Constant kc k1 p1)] [.Constant vc k2 p2] pos) (RE X V W fun _ st => .ok (.dic [k] [d]) st) := by
  obtain ⟨z, pz, rz⟩ := litV_of (X := X) (V := V) (kk := k2) (pos := p2) h2
  refine PE.imp (pe_disp (pps_cons (keyB_of h1) pz pps_nil) rfl rfl (by simp) (show 1 ≤ 15 by decide)) fun σ H Q ⟨ρ, env, st, er, w, q⟩ p hp => ?_
  have e : upd (upd H p (.dK [])) p (.dK (mergeK [] [(k, z)])) = upd H p (.dK [(k, z)]) := by
    funext b
    by_cases hb : b = p
    · rw [hb, upd_same, upd_same]
      rfl
    · rw [upd_ne hb, upd_ne hb, upd_ne hb]
  refine ⟨upd_same, [(k, z)], rfl, (show 1 ≤ 15 by decide), ?_⟩
  rw [e]
  exact q.ok (Ext.fresh hp) (w.new hp) (.dic (xs := [z]) upd_same (w.fresh hp) rfl (.cons (rz _ _) .nil))
theorem s_low {x : Expr} {d : Mu.D} {m : Nat} (h : PE X x (RE X V W fun _ st => .ok d st)) : PE X x (RE X V W fun env st => ev C (m + 1) (.lit d) env st) := by
  by_cases hd : d.low 0 = true
  · refine PE.imp h fun σ H Q ⟨ρ, env, st, er, w, q⟩ => ⟨ρ, env, st, er, w, ?_⟩
    simpa only [ev, if_pos hd] using q
  · exact s_no fun env st => by simp only [ev, if_neg hd]
theorem snd_e (ih : Snd n) (G : Good C c W X V) (m : Nat) (e : E) (x : Expr) (h : chkE c (n + 1) e x = true) : PE X x (RE X V W fun env st => ev C m e env st) := by
  cases m with
  | zero => exact s_no fun _ _ => rfl
  | succ m =>
    unfold chkE at h
    split at h
    · simp only [Bool.and_eq_true, decide_eq_true_eq] at h
      obtain ⟨o1, o2, o3⟩ := okName_of h.2
      exact s_var (by rw [G.N]; exact h.1.1) (G.visOk h.1.2) o1 o2
    · exact s_low (lit_of h)
    · exact s_low (PE.imp pe_dnewK fun σ H Q ⟨ρ, env, st, er, w, q⟩ p hp => q.ok (Ext.fresh hp) (w.new hp) (.dic (xs := []) upd_same (w.fresh hp) rfl .nil))
    · rw [Bool.and_eq_true] at h
      exact s_low (dic1_of h.1 h.2)
    · simp only [Bool.and_eq_true, decide_eq_true_eq] at h
      obtain ⟨⟨h0, h1⟩, h2⟩ := h
      exact G.conOk h0 h1 h2
    · simp only [Bool.and_eq_true, decide_eq_true_eq] at h
      obtain ⟨⟨rfl, h1⟩, h2⟩ := h
      exact G.bty h1 h2
    · simp only [Bool.and_eq_true, decide_eq_true_eq] at h
      obtain ⟨⟨h0, h1⟩, h2⟩ := h
      exact G.gfn h0 h1 h2
    · simp only [Bool.and_eq_true, decide_eq_true_eq] at h
      obtain ⟨⟨rfl, h1⟩, h2⟩ := h
      exact s_bin G.cx G.room (ih.e G m _ _ h1) (ih.e G m _ _ h2)
    · exact s_neg (ih.e G m _ _ h)
    · simp only [Bool.and_eq_true, Bool.not_eq_true', decide_eq_true_eq] at h
      obtain ⟨⟨⟨rfl, h0⟩, h1⟩, h2⟩ := h
      exact s_cmp G.room h0 (ih.e G m _ _ h1) (ih.e G m _ _ h2)
    · simp only [Bool.and_eq_true, Bool.not_eq_true', decide_eq_true_eq] at h
      obtain ⟨⟨⟨⟨⟨rfl, rfl⟩, h0⟩, h1⟩, h2⟩, h3⟩ := h
      exact s_cmp2 G.room h0 (ih.e G m _ _ h1) (ih.e G m _ _ h2) (ih.e G m _ _ h3)
    · exact s_not (ih.e G m _ _ h)
    · rw [Bool.and_eq_true] at h
      obtain ⟨h1, h2⟩ := h
      refine s_and (ih.e G m _ _ h1) ?_
      split at h2
      · exact ⟨fun p s σ H Q I q => (pe_one (ih.e G m _ _ h2)).run p s σ H Q I q⟩
      · exact ih.e G m _ _ h2
    · rw [Bool.and_eq_true] at h
      obtain ⟨h1, h2⟩ := h
      refine s_or (ih.e G m _ _ h1) ?_
      split at h2
      · exact ⟨fun p s σ H Q I q => (pe_one (ih.e G m _ _ h2)).run p s σ H Q I q⟩
      · exact ih.e G m _ _ h2
    · simp only [Bool.and_eq_true] at h
      exact s_ite (ih.t G m _ _ h.1.1) (ih.e G m _ _ h.1.2) (ih.e G m _ _ h.2)
    · rw [Bool.and_eq_true] at h
      exact s_tup (zip_args ih G m _ _ h.1 h.2)
    · rw [Bool.and_eq_true] at h
      exact s_lst (zip_args ih G m _ _ h.1 h.2)
    · rw [Bool.and_eq_true] at h
      exact s_lstR (zip_args ih G m _ _ h.1 h.2)
    · exact s_tup (zip_argsS ih G m _ _ h)
    · exact s_lst (zip_argsS ih G m _ _ h)
    · simp only [Bool.and_eq_true, decide_eq_true_eq] at h
      obtain ⟨⟨rfl, h1⟩, h2⟩ := h
      exact s_catR G.cx G.room (ih.e G m _ _ h1) (ih.e G m _ _ h2)
    · exact s_frz (ih.e G m _ _ h)
    · simp only [Bool.and_eq_true] at h
      obtain ⟨⟨h1, h2⟩, h3⟩ := h
      split at h3
      · rename_i e' he
        exact s_lam G h1 h2 he h3
      · cases h3
    · simp only [Bool.and_eq_true, decide_eq_true_eq] at h
      obtain ⟨⟨⟨⟨h1, h2⟩, h3⟩, h5⟩, h6⟩ := h
      rename_i f es y p xs pos
      have q := G.calls (p := p) (pos := pos) h1 h2 h3 h5 (zip_args ih G m es xs h5 h6) (fun e env st => by
        subst e
        cases es with
        | nil => rfl
        | cons _ _ => cases h6) fun env st ds st' e => (evL_len e).trans (zip_len es xs h6)
      exact PE.imp q fun σ H Q z => z
    · simp only [Bool.and_eq_true, decide_eq_true_eq] at h
      obtain ⟨⟨⟨⟨h1, h2⟩, h3⟩, h5⟩, h6⟩ := h
      rename_i f es y p xs pos
      have q := G.callv (p := p) (pos := pos) (es := es) h1 h2 h3 h5 (zip_len es xs h6) (zip_args ih G m es xs h5 h6) (fun e env st => by
        subst e
        cases es with
        | nil => rfl
        | cons _ _ => cases h6) fun env st ds st' e => (evL_len e).trans (zip_len es xs h6)
      exact PE.imp q fun σ H Q z => z
    · simp only [Bool.and_eq_true, Bool.not_eq_true', decide_eq_true_eq] at h
      obtain ⟨⟨⟨⟨⟨h1, h2⟩, h3⟩, h4⟩, h5⟩, h6⟩ := h
      exact PE.imp (G.bltc h1 h2 h3 h4 h5 (zip_args ih G m _ _ h5 h6)) fun σ H Q z => z
    · simp only [Bool.and_eq_true, decide_eq_true_eq] at h
      obtain ⟨⟨⟨⟨⟨rfl, h1⟩, h2⟩, h3⟩, h4⟩, h5⟩ := h
      refine PE.imp (s_bm (m := .append) (fa := fun env st => ev C m _ env st) (fb := fun env st => ev C m _ env st) PySem.F.slot_list_append PySem.F.type_list_append mt_append bm_append h1 h3 h2 (ih.e G m _ _ h4) (ih.e G m _ _ h5)) fun σ H Q z => z
    · simp only [Bool.and_eq_true, decide_eq_true_eq] at h
      obtain ⟨⟨⟨⟨⟨rfl, h1⟩, h2⟩, h3⟩, h4⟩, h5⟩ := h
      refine PE.imp (s_bm (m := .extend) (fa := fun env st => ev C m _ env st) (fb := fun env st => ev C m _ env st) PySem.F.slot_list_extend PySem.F.type_list_extend mt_extend bm_extend h1 h3 h2 (ih.e G m _ _ h4) (ih.e G m _ _ h5)) fun σ H Q z => z
    · simp only [Bool.and_eq_true, decide_eq_true_eq] at h
      obtain ⟨⟨⟨⟨⟨⟨⟨rfl, rfl⟩, h1⟩, h2⟩, h3⟩, h4⟩, h5⟩, h6⟩ := h
      exact PE.imp (G.srt h1 h2 (ih.e G m _ _ h3) h4 h5 h6) fun σ H Q z => z
    · rw [Bool.and_eq_true, Bool.and_eq_true] at h
      exact s_idx (slice_of h.1.1) (ih.e G m _ _ h.1.2) (ih.e G m _ _ h.2)
    · rw [Bool.and_eq_true, Bool.and_eq_true] at h
      exact s_slc (ih.e G m _ _ h.1.1) (ih.o G m _ _ h.1.2) (ih.o G m _ _ h.2)
    · exact s_rev (ih.e G m _ _ h)
    · simp only [Bool.and_eq_true] at h
      obtain ⟨⟨⟨⟨⟨⟨h1, h2⟩, h3⟩, h4⟩, h5⟩, h6⟩, h7⟩ := h
      rename_i r el tg it cond own xx t i ifs scope pos
      refine s_comp (sl := tgS tg) (b := !c.L.isEmpty) (gi := fun env st => itD (fun e st => ev C m e env st) it st) (gt := fun e0 x env st => tgD (fun e env st => ev (C.blk e0) m e env st) tg x env st)
        (ft := fun e0 => condT (fun c env st => evT (C.blk e0) m c env st) cond) (fe := fun e0 env st => ev (C.blk e0) m el env st) G.cx.calm G.nd (ih.i G m t it i h2) (blkOk_by (by rw [G.N, G.sc]; exact h1))
        ⟨fun σ e0 s H a cl fp at_ => ih.g (G.blk s H scope a cl fp σ e0 at_) m tg t h4 _ fun j hj => hj, fun σ e0 s H a cl fp at_ => ?_, fun σ e0 s H a cl fp at_ => ih.e (G.blk s H scope a cl fp σ e0 at_) m el xx h7⟩ (set_of h3 _) ?_
      · split at h6
        · refine ⟨fun p s σ H Q I z => pts_nil.run p s σ H Q I ?_⟩
          obtain ⟨ρ, env, st, er, w, q⟩ := z
          exact Post.here (st := st) q w rfl
        · exact ⟨fun p s' σ' H' Q I z => (pts_one (ih.t (G.blk s H scope a cl fp σ e0 at_) m _ _ h6)).run p s' σ' H' Q I z⟩
        · cases h6
      · intro j hj
        have q := List.all_eq_true.mp h5 j hj
        exact List.contains_iff_mem.mp q
    · cases h
end
end Mu

end
section
set_option linter.all false
set_option Elab.async false
/-! Tests, slices' parts, what is walked, targets are sound; all of it by induction. -/
namespace Mu
open PySem PySem.Spec PyProof.Rows L2
section
variable {C : Cf} {c : Ct} {W : WX} {X : Cx} {V : Vw} {n : Nat}
theorem pw_of {l : Expr} {o : BoolOp} {pos : Pos} {ft : Env → Sto → Res Bool} (h : PT X l (RB X V W ft)) : PW X (.BoolOp o [l] pos) (RB X V W ft) := by
  cases o with
  | And => exact pw_and1 h
  | Or => exact pw_or1 h
theorem snd_w (ih : Snd n) (G : Good C c W X V) (m : Nat) : ∀ (o : BoolOp) (e : E) (r : Expr) (rest : List Expr) (pos : Pos), (match rest with | [] => chkT c n e r | _ => chkT c n e (.BoolOp o (r :: rest) pos)) = true →
    (∀ e x, chkT c n e x = true → ∀ l pos', x = .BoolOp o l pos' → PW X x (RB X V W fun env st => evT C m e env st)) → PW X (.BoolOp o (r :: rest) pos) (RB X V W fun env st => evT C m e env st) := by
  intro o e r rest pos h hw
  split at h
  · exact pw_of (ih.t G m _ _ h)
  · exact hw _ _ h _ _ rfl
theorem evT_else {m : Nat} {e : E} (h1 : ∀ a, e ≠ .not a) (h2 : ∀ a b, e ≠ .and a b) (h3 : ∀ a b, e ≠ .or a b) (h4 : ∀ o a b, e ≠ .cmp o a b) (h5 : ∀ o p a b d, e ≠ .cmp2 o p a b d) (h6 : ∀ a b d, e ≠ .ite a b d) (env : Env) (st : Sto) :
    evT C (m + 1) e env st = (ev C m e env st).bind fun d st => .of (truth st d) st := by
  cases e <;> first | rfl | exact absurd rfl (h1 _) | exact absurd rfl (h2 _ _) | exact absurd rfl (h3 _ _) | exact absurd rfl (h4 _ _ _) | exact absurd rfl (h5 _ _ _ _ _) | exact absurd rfl (h6 _ _ _)
end
/-- tests whatever their whole is -/
theorem snd_pw {C : Cf} {c : Ct} {W : WX} {X : Cx} {V : Vw} (G : Good C c W X V) : ∀ (n : Nat), (∀ k, k < n → Snd k) → ∀ (m : Nat) (e : E) (x : Expr), chkT c n e x = true → ∀ o l pos, x = .BoolOp o l pos → PW X x (RB X V W fun env st => evT C m e env st) := by
  intro n
  induction n with
  | zero => intro _ m e x h; cases h
  | succ n ih =>
    intro hS m e x h o l pos ex
    subst ex
    have S := hS n (Nat.lt_succ_self n)
    have ih' := ih fun k hk => hS k (Nat.lt_succ_of_lt hk)
    cases m with
    | zero => exact ⟨fun wh p s σ H Q I ⟨ρ, env, st, _, _, q⟩ => q.elim⟩
    | succ m =>
      unfold chkT at h
      split at h
      · rename_i he; cases he
      · rename_i he
        cases he
        rw [Bool.and_eq_true] at h
        exact st_and (S.t G m _ _ h.1) (snd_w S G m _ _ _ _ _ h.2 fun e x hx l p ex => ih' m e x hx _ l p ex)
      · rename_i he
        cases he
        rw [Bool.and_eq_true] at h
        exact st_or (S.t G m _ _ h.1) (snd_w S G m _ _ _ _ _ h.2 fun e x hx l p ex => ih' m e x hx _ l p ex)
      · rename_i he; cases he
      · rename_i he; cases he
      · cases h
      · cases h
      · cases h
      · cases h
      · cases h
      · cases h
      · rw [Bool.and_eq_true] at h
        cases h.1
section
variable {C : Cf} {c : Ct} {W : WX} {X : Cx} {V : Vw} {n : Nat}
theorem snd_t (hS : ∀ k, k < n + 1 → Snd k) (G : Good C c W X V) (m : Nat) (e : E) (x : Expr) (h : chkT c (n + 1) e x = true) : PT X x (RB X V W fun env st => evT C m e env st) := by
  have ih := hS n (Nat.lt_succ_self n)
  have hw := h
  cases m with
  | zero => exact st_no fun _ _ => rfl
  | succ m =>
    unfold chkT at h
    split at h
    · exact st_not (ih.t G m _ _ h)
    · exact (snd_pw G (n + 1) hS (m + 1) _ _ hw _ _ _ rfl).pt
    · exact (snd_pw G (n + 1) hS (m + 1) _ _ hw _ _ _ rfl).pt
    · simp only [Bool.and_eq_true, Bool.not_eq_true', decide_eq_true_eq] at h
      obtain ⟨⟨⟨rfl, h0⟩, h1⟩, h2⟩ := h
      cases m with
      | zero => exact st_no fun _ _ => rfl
      | succ m => exact st_cmp G.room h0 (ih.e G m _ _ h1) (ih.e G m _ _ h2)
    · simp only [Bool.and_eq_true, Bool.not_eq_true', decide_eq_true_eq] at h
      obtain ⟨⟨⟨⟨⟨rfl, rfl⟩, h0⟩, h1⟩, h2⟩, h3⟩ := h
      cases m with
      | zero => exact st_no fun _ _ => rfl
      | succ m => exact st_cmp2 G.room h0 (ih.e G m _ _ h1) (ih.e G m _ _ h2) (ih.e G m _ _ h3)
    · cases h
    · cases h
    · cases h
    · cases h
    · cases h
    · cases h
    · rename_i h1 h2 h3 h4 h5 h6 _ _ _ _ _
      rw [Bool.and_eq_true] at h
      refine PT.imp (st_truth (W := W) (plainT_of h.1) (ih.e G m _ _ h.2)) fun σ H Q z => ?_
      obtain ⟨ρ, env, st, er, w, q⟩ := z
      refine ⟨ρ, env, st, er, w, ?_⟩
      have q : Post X.K X.mg V W σ ρ H (fun _ _ b c => b = c) (evT C (m + 1) e env st) Q := q
      rw [evT_else] at q
      · exact q
      all_goals (intros; rintro rfl; first | exact h1 _ rfl | exact h2 _ _ rfl | exact h3 _ _ rfl | exact h4 _ _ _ rfl | exact h5 _ _ _ _ _ rfl | exact h6 _ _ _ rfl)
theorem snd_o (ih : Snd n) (G : Good C c W X V) (m : Nat) (e : Option E) (x : Option Expr) (h : chkO c (n + 1) e x = true) : PO X x (RO X V W fun env st => evO (fun e st => ev C m e env st) e st) := by
  unfold chkO at h
  split at h
  · exact so_none (f := fun _ _ => .stuck)
  · exact so_some (f := fun e env st => ev C m e env st) (ih.e G m _ _ h)
  · cases h
theorem snd_i (ih : Snd n) (G : Good C c W X V) (m : Nat) (tg : Expr) (it : Iz) (x : Expr) (h : chkI c (n + 1) tg it x = true) : PI X tg x (RI X V W fun env st => itD (fun e st => ev C m e env st) it st) := by
  unfold chkI at h
  split at h
  · exact i_seq (ih.e G m _ _ h)
  · simp only [Bool.and_eq_true, decide_eq_true_eq] at h
    obtain ⟨⟨⟨rfl, h1⟩, h2⟩, h3⟩ := h
    refine i_rng1 (fl := fun env st => evL (fun e st => ev C m e env st) [_] st) (G.glOk h1) (G.blt _ (by decide +kernel)) (zip_args ih G m [_] [_] (by simp [h2]) (by simp [zipAll, h3])) (star_of h2) fun env st ds st' e => evL_len e
  · simp only [Bool.and_eq_true, decide_eq_true_eq] at h
    obtain ⟨⟨⟨⟨⟨rfl, h1⟩, h2⟩, h3⟩, h4⟩, h5⟩ := h
    refine i_rng2 (fl := fun env st => evL (fun e st => ev C m e env st) [_, _] st) (G.glOk h1) (G.blt _ (by decide +kernel)) (zip_args ih G m [_, _] [_, _] (by simp [h2, h3]) (by simp [zipAll, h4, h5])) ((star_of h2).trans (by rw [star_of h3]; rfl)) (star_of h3) fun env st ds st' e => evL_len e
  · simp only [Bool.and_eq_true, decide_eq_true_eq] at h
    obtain ⟨⟨⟨⟨⟨⟨rfl, h1⟩, h2⟩, h3⟩, h4⟩, h5⟩, h6⟩ := h
    split at h4
    · exact i_zip (G.glOk h1) (G.blt _ (by decide +kernel)) (star_of h2) (star_of h3) (plain_of (by simp [h3])) (ih.e G m _ _ h5) (ih.e G m _ _ h6)
    · cases h4
  · simp only [Bool.and_eq_true, decide_eq_true_eq] at h
    obtain ⟨⟨⟨⟨rfl, h1⟩, h2⟩, h3⟩, h4⟩ := h
    split at h3
    · exact i_enum (G.glOk h1) (G.blt _ (by decide +kernel)) (ih.e G m _ _ h4) (star_of h2)
    · cases h3
  · cases h
theorem snd_g (ih : Snd n) (G : Good C c W X V) (m : Nat) (t : Tg) (x : Expr) (h : chkG c (n + 1) t x = true) (sl : List Nat) (hj : ∀ j ∈ tgS t, j ∈ sl) : PG X x (RT X V sl fun d env st => tgD (fun e env st => ev C m e env st) t d env st) := by
  unfold chkG at h
  split at h
  · simp only [Bool.and_eq_true, decide_eq_true_eq] at h
    refine PG.imp (g_name (sl := sl) G.nd (by rw [G.N]; exact h.1.1) (G.locOk h.1.2) (G.mineOk h.2) (hj _ (by simp [tgS]))) fun v σ H Q ⟨ρ, d, env, st, rd, er, w, z⟩ => ⟨ρ, d, env, st, rd, er, w, ?_⟩
    unfold tgD at z
    exact z
  · rw [Bool.and_eq_true] at h
    rename_i ts xs _ _
    obtain ⟨a1, a2⟩ := assigns_of (env := X.env) h.1
    have hl : xs.length = ts.length := by
      have aux : ∀ (ts : List Tg) (xs : List Expr), zipAll (fun t x => chkG c n t x) ts xs = true → xs.length = ts.length := by
        intro ts
        induction ts with
        | nil => intro xs h; cases xs <;> first | rfl | cases h
        | cons t ts ih =>
          intro xs h
          cases xs with
          | nil => cases h
          | cons x xs =>
            have h : (chkG c n t x && zipAll (fun t x => chkG c n t x) ts xs) = true := h
            rw [Bool.and_eq_true] at h
            simp [ih xs h.2]
      exact aux _ _ h.2
    refine PG.imp (g_tup (n := ts.length) G.cx.calm (zip_tgs ih G m sl ts xs h.1 h.2 fun j m => hj j (by unfold tgS; exact m)) (by rw [a1, hl]) a2) fun v σ H Q ⟨ρ, d, env, st, rd, er, w, z⟩ => ⟨ρ, d, env, st, rd, er, w, ?_⟩
    unfold tgD at z
    exact z
  · simp only [Bool.and_eq_true] at h
    refine PG.imp (g_sub (sl := sl) (fa := fun env st => ev C m _ env st) (fb := fun env st => ev C m _ env st) (ih.e G m _ _ h.1.2) (ih.e G m _ _ h.2) (sub_of h.1.1)) fun v σ H Q ⟨ρ, d, env, st, rd, er, w, z⟩ => ⟨ρ, d, env, st, rd, er, w, ?_⟩
    unfold tgD at z
    exact z
  · cases h
end
theorem snd : ∀ n, Snd n := by
  intro n
  induction n using Nat.strongRecOn with
  | _ n ih =>
    cases n with
    | zero => exact ⟨fun _ _ _ _ h => (by cases h), fun _ _ _ _ h => (by cases h), fun _ _ _ _ h => (by cases h), fun _ _ _ _ _ h => (by cases h), fun _ _ _ _ h => (by cases h)⟩
    | succ n =>
      have S := ih n (Nat.lt_succ_self n)
      exact ⟨fun G m e x h => snd_e S G m e x h, fun G m e x h => snd_t ih G m e x h, fun G m e x h => snd_o S G m e x h, fun G m tg it x h => snd_i S G m tg it x h, fun G m t x h sl hj => snd_g S G m t x h sl hj⟩
end Mu

end
section
set_option linter.all false
set_option Elab.async false
set_option maxRecDepth 100000
set_option maxHeartbeats 4000000
/-! Own exception classes over any built-in one: the first field is stored; the base's __init__ is called. -/
namespace Mu
open PySem PySem.W PySem.Calls PyProof.Rows PySem.HandSPX
/-- what the classes above say of a store -/
structure MroOk (mro : List Value) : Prop where
  pass : ∀ self : Value, refuseLoop self "__setattr__" mro = pure ()
  some_ : mro.isEmpty = false
  obj : mro.contains (.type "object") = true
section
open Builtin Builtin.ObjectAttr
variable {P : Program} {w : World} {A : Around} {E : Value → Shared → Prop} {R : Result → Shared → Prop} {hp : Heap} {gs : Array GenState} {dr : Drawn} {n : Nat} {osx : OsState}
theorem store_first {K : Frag} {field : Str} {tk : Tok} {v : Value} {x C : Addr} {fv : Array Value} {cd : ClassData}
    (X : K.In hp) (hx : hp.get? x = some { cls := .ref C, data := .fields fv }) (hcd : clsIn K C = some cd) (M : MroOk cd.mro) (hh : cd.hasDict = true) (hno : findIn K (.ref C) field = some none)
    (fin : ∀ hq tq dx, (∀ b o, b ≠ x → hp.get? b = some o → hq.get? b = some o) → hp.objs.size ≤ dx → dx ≠ x → hq.get? x = some { cls := .ref C, dict := some dx, data := .fields fv } →
      hq.Ns1 dx (fun y => if y = field then some v else none) → R (.ok (.ret .none)) ⟨hq, gs, dr, tq, osx⟩) :
    codeAny (model P w) A (.call (.builtin "object.__setattr__") ⟨[.ref x, .str field tk, v], []⟩) R ⟨hp, gs, dr, n, osx⟩ := by
  have I : InstAt hp x { cls := .ref C, data := .fields fv } C none := ⟨hx, rfl, rfl, True.intro⟩
  have S := F.store_object
  have off : x ≠ hp.objs.size := fun z => absurd (Heap.lt_size hx) (by rw [z]; exact Nat.lt_irrefl _)
  have isObj : Looks (model P w) hp (isInstance (.ref x) (.type "object")) true := I.type.andThen (looks_mroIn X (by
    unfold mroIn
    rw [hcd, Option.bind_some, if_neg (by rw [M.some_]; decide), M.obj]))
  refine codeAny_call_builtin S.slot.plain S.entry ?_
  refine @check_slot (model P w) _ _ ⟨hp, gs, dr, n, osx⟩ "object.__setattr__" "object" "__setattr__" (.ref x) [.str field tk, v] [] _ S.kind S.split isObj (S.args (.ref x) (.str field tk) v) ?_
  have look : Looks (model P w) hp (mroOf (.ref C)) cd.mro := (looks_clsIn X hcd).andThen Looks.now
  have cls : Looks (model P w) hp (classData C) cd := looks_clsIn X hcd
  rw [osa_eq, refuse_eq]
  refine wpAny_bind (wpAny_bind (I.type.at (wpAny_bind (look.at ?_))))
  rw [M.pass]
  refine wpAny_pure (wpAny_bind (I.type.at (wpAny_bind ((looks_findIn X hno).at (wpAny_bind (Looks.now.at ?_))))))
  show wpAny _ _ (storeInOwnDict (.ref x) (.ref C) (.str field tk) field v false) _ _ _
  cases cd with | mk nm bs mro nsx qn hd sn sb ab col del => ?_
  have hh : hd = true := hh
  subst hh
  unfold storeInOwnDict ownDictForStores
  repeat (first
    | with_reducible refine store_in_new ?_ ?_
    | with_reducible refine wpAny_loadPart_at hx ?_
    | with_reducible refine cls.at ?_
    | wp_step)
  · refine ⟨_, #[], _, (Heap.get?_update_ne _ _ _ _ off.symm).trans (Heap.get?_push_at rfl rfl), rfl, fun e he => absurd he (by simp), fun _ => rfl⟩
  · intro hq tq nsq same
    have hx1 : (hp.push { cls := .type "dict", data := .dict #[] }).get? x = some { cls := .ref C, data := .fields fv } := Heap.get?_push_of_some _ hx
    refine fin hq tq _ (fun b o hb ho => ?_) (Nat.le_refl _) off.symm ((same.2 x off).trans (Heap.get?_update_self _ hx1 rfl)) nsq
    have nb := Nat.ne_of_lt (Heap.lt_size ho)
    exact (same.2 b nb).trans ((Heap.get?_update_ne _ _ _ _ hb).trans (Heap.get?_push_of_some _ ho))
end
end Mu

end
section
set_option linter.all false
set_option Elab.async false
set_option maxRecDepth 100000
set_option maxHeartbeats 4000000
/-! An __init__ that closes over __class__: its frame, super().__init__(..), self.f = .. -/
namespace Mu
open PySem PySem.W PySem.Spec PySem.Calls PyProof.Rows L2
/-- the frame's context: as of a def, with the cell of __class__ -/
def ctxI (P : Program) (w : World) (K : Frag) (mg : Str → Option Value) (base : Heap) (N : List Str) (qual : Str) (scope : Scope) (f cc : Addr) (cd : Value) (A : Around) (outer : List PySem.Env) (s : Shared) (H : Hp) : Cx where
  prog := P
  w := w
  K := K
  mg := mg
  base := base
  A := A.deeper (ksEnv qual scope s.heap.objs.size f cd cc)
  N := N
  s_0 := s
  H_0 := H
  env := ksEnv qual scope s.heap.objs.size f cd cc
  outer := outer
  stack := ksEnv qual scope s.heap.objs.size f cd cc :: outer
  ex := []
  fn := fun _ => false
  calm := true
  pn := []
  xe := fun _ _ => False
/-- names of such a scope -/
structure ScI (N ps : List Str) (sc : Scope) : Prop where
  kind : sc.kind = .function
  co : sc.isCoroutine = false
  gen : sc.isGenerator = false
  nd : N.Nodup
  all : N = ps
  par : ∀ x ∈ ps, sc.names.lookup x = some .local
  loc : ∀ y ∈ sc.names, y.2 ≠ .cell
  free : ∀ y, sc.names.lookup y = some .free → y = "__class__"
theorem rev_get {x : Str} {v : Value} : ∀ {ps : List Str} {us : List Value} {i : Nat}, ps.Nodup → ps[i]? = some x → us[i]? = some v → (ps.zip us).reverse.lookup x = some v := by
  intro ps us i nd h1 h2
  have mem : (x, v) ∈ (ps.zip us).reverse := by
    rw [List.mem_reverse]
    refine List.mem_of_getElem? (i := i) ?_
    rw [List.getElem?_zip_eq_some]
    exact ⟨h1, h2⟩
  have one : ∀ y ∈ (ps.zip us).reverse, y.1 = x → y.2 = v := by
    intro y hy e
    rw [List.mem_reverse] at hy
    obtain ⟨j, hj⟩ := List.getElem?_of_mem hy
    rw [List.getElem?_zip_eq_some] at hj
    have hij : j = i := by
      have p1 := List.getElem?_eq_some_iff.mp hj.1
      have p2 := List.getElem?_eq_some_iff.mp h1
      obtain ⟨a1, b1⟩ := p1
      obtain ⟨a2, b2⟩ := p2
      have pw := List.pairwise_iff_getElem.mp nd
      rcases Nat.lt_trichotomy j i with q | q | q
      · exact absurd (b1.trans (e.trans b2.symm)) (pw j i a1 a2 q)
      · exact q
      · exact absurd (b2.trans (e.symm.trans b1.symm)) (pw i j a2 a1 q)
    subst hij
    rw [h2] at hj
    exact (Option.some.inj hj.2).symm
  generalize (ps.zip us).reverse = l at mem one
  induction l with
  | nil => cases mem
  | cons y l ih =>
    obtain ⟨a, b⟩ := y
    rw [List.lookup_cons]
    by_cases e : x = a
    · subst e
      rw [beq_self_eq_true]
      exact congrArg some (one (x, b) List.mem_cons_self rfl)
    · have e' : (x == a) = false := by simpa using e
      rw [e']
      refine ih ?_ fun y hy => one y (List.mem_cons_of_mem _ hy)
      rcases List.mem_cons.mp mem with z | z
      · exact absurd (congrArg Prod.fst z) e
      · exact z
section
variable {P : Program} {w : World} {K : Frag} {mg : Str → Option Value} {base : Heap} {N ps : List Str} {qual : Str} {scope : Scope} {f cc D : Addr} {cd : Value} {A : Around} {outer : List PySem.Env} {s : Shared} {H : Hp} {us : List Value} {vs : List V}
theorem start_I {h1 : Heap} {tk : Nat} (S : ScI N ps scope) (hd : A.handled = none) (e0 : Env0 P w K mg base A outer s H) (r : Vals vs us) (hl : vs.length = ps.length)
    (hc : ∃ cl cld csl, K.lookup cc = some ⟨cl, cld, .cell (some (.ref D)), csl⟩) (hns : h1.Ns s.heap.objs.size fun x => (ps.zip us).reverse.lookup x) (kp : ∀ b o, s.heap.get? b = some o → h1.get? b = some o) :
    Inv (ctxI P w K mg base N qual scope f cc cd A outer s H) [] (vs.map some) H { s with heap := h1, toks := tk } := by
  have cells : ∀ {y c}, (ctxI P w K mg base N qual scope f cc cd A outer s H).env.cells.lookup y = some c → y = "__class__" ∧ c = cc := by
    intro y c e
    have e : ([("__class__", cc)] : List (Str × Addr)).lookup y = some c := e
    rw [List.lookup_cons] at e
    split at e
    · rename_i z
      cases e
      exact ⟨beq_iff_eq.mp z, rfl⟩
    · cases e
  obtain ⟨cl, cld, csl, hcc⟩ := hc
  have base_c : base.get? cc = _ := e0.mod.kin _ _ hcc
  obtain ⟨sc, fr⟩ := e0.bs _ _ base_c
  have noA : ∀ b : Addr, b ∉ ([] : List Addr) := fun b => List.not_mem_nil
  refine ⟨⟨e0.mod, S.kind, rfl, rfl, Nat.le_refl _, fun y z c h1 h2 => (cells h1).1.trans (cells h2).1.symm, fun y hy => ?_, fun y c z _ => ?_, fun _ => hd, Around.frames_deeper e0.frames, .inr ⟨rfl, rfl⟩, fun b z => absurd z (noA b), e0.bs, e0.bsz, fun b _ _ => noA b, fun b z => absurd z (noA b), e0.funs, e0.frf⟩,
    rfl, e0.bare, Un.kept kp, ⟨_, hns, fun i y v h1 h2 h3 => ?_⟩, fun y c e => ?_, e0.hok.fresh (Nat.le_refl _), fun y c e => ?_, fun p hp => absurd hp List.not_mem_nil, e0.hok.kept kp, ?_⟩
  · have hy : scope.names.lookup y = some .cell ∨ scope.names.lookup y = some .free := hy
    rcases hy with hy | hy
    · exact absurd rfl (S.loc _ (PySem.mem_of_lookup hy))
    · refine ⟨cc, ?_⟩
      rw [S.free y hy]
      rfl
  · have z : false = true := z
    cases z
  · have h1 : N[i]? = some y := h1
    rw [List.getElem?_map] at h2
    cases e : vs[i]? with
    | none => rw [e] at h2; cases h2
    | some v' =>
      rw [e] at h2
      cases h2
      obtain ⟨u, hu, rv⟩ := r.get e
      rw [S.all] at h1
      exact ⟨u, rv, .inl ⟨S.par y (List.mem_of_getElem? h1), rev_get (by rw [← S.all]; exact S.nd) h1 hu⟩⟩
  · obtain ⟨rfl, rfl⟩ := cells e
    exact ⟨_, _, kp _ _ sc, rfl⟩
  · obtain ⟨rfl, rfl⟩ := cells e
    exact fr
  · show (vs.map some).length = N.length
    rw [List.length_map, hl, S.all]
end
end Mu

end
section
set_option linter.all false
set_option Elab.async false
set_option maxRecDepth 100000
set_option maxHeartbeats 4000000
/-! super().__init__(..) of an own exception. -/
namespace Mu
open PySem PySem.W PySem.Spec PySem.Calls PyProof.Rows L2
/-- what the written part says of an own exception class -/
structure XCls (K : Frag) (C : Addr) (B newId initId : String) (bmB : List Value) : Prop where
  FB : ExcBaseFacts B newId initId bmB
  KF : KxsFacts B initId
  cls : ∃ nm q N bs bm sn sub ab col dd k0 k1 k2 k3 k5, K.lookup C = some (excClassObj nm q C N bs bm true sn sub ab col dd k0 k1 k2 k3 k5 newId) ∧ (∀ X : String, bm.contains (.type X) = bmB.contains (.type X)) ∧ MroOk (.ref C :: bm) ∧
    alongIn K "__init__" bm = some (some (.builtin initId))
  sa : findIn K (.ref C) "__setattr__" = some (some (.builtin "object.__setattr__"))
  exC : subIn K (.ref C) (.type "BaseException") = some true
  tyC : typeIn K (.ref C) = some (.type "type")
  kC : keepIn K (.ref C) = true
  sB : subIn K (.ref C) (.type B) = some true
  own : mroIn K C (.ref C) = some true
  op : nsIn K cStatics "thirdparty.any" = some none
section
variable {P : Program} {w : World} {K : Frag} {mg : Str → Option Value} {base : Heap} {N ps : List Str} {qual : Str} {scope : Scope} {f cc C a : Addr} {cdA : Addr} {A : Around} {outer : List PySem.Env} {s0 s : Shared} {H0 H : Hp} {B newId initId : String} {bmB : List Value} {σ : L2.St}
/-- the object is called as its base's __init__ -/
theorem call_wrapper {A : Around} {E : Value → Shared → Prop} {X : Cx} {pins : List (Addr × Obj)} {u : Addr} {rest : List Value} {Q : Value → Shared → Prop} (T : XCls X.K C B newId initId bmB) (I : Inv X pins σ H s) (hu : s.heap.get? u = some (kxs_mw initId a)) (ha : H a = some (exo a C none)) (hz : rest.length ≤ sizeLine)
    (fin : ∀ s', Inv X [] σ H s' → Q .none s') : wpAny (model X.prog X.w) A (call (.ref u) rest) Q E s := by
  obtain ⟨nm, q, N, bs, bm, sn, sub, ab, col, dd, k0, k1, k2, k3, k5, hC, hT, M, al⟩ := T.cls
  obtain ⟨t1, ho⟩ := exo_at I.hok ha
  have hC' := I.kIn _ _ hC
  obtain ⟨hp, g, d, tk, os⟩ := s
  refine wpAny_call (codeAny_of_tree ?_)
  show wpAny _ A.in1 (callAny (.ref u) ⟨rest, []⟩) _ _ _
  simp only [callAny]
  refine wpAny_bind (wpAny_load hu ?_)
  simp only [kxs_mw, show (Value.type "method-wrapper" == Value.type "method" || Value.type "method-wrapper" == Value.type "builtin_function_or_method" || Value.type "method-wrapper" == Value.type "method-wrapper") = true by decide, if_true]
  refine KFB.if_so (by decide) ?_
  refine wpAny_bind (check_bound_init T.FB.toExcCallFacts hC' ho rfl ?_)
  refine wpAny_bind (wpAny_pure (wpAny_pure ⟨plainId_quiet T.FB.init.plain _, codeAny_builtin T.FB.initEntry ?_⟩))
  refine exc_init_tree (cls := .ref C) (t0 := t1) (dv := none) (c2 := .none) (c3 := .none) (b4 := .bool false) ho hz fun h' k e' t' => ?_
  have J := I.write (t' := tk) (x := a) (e := a) (o := exo a C none) (by rw [ha]; exact True.intro) (.inl rfl) k ⟨_, e'⟩ (exo_ok e')
  have eu : upd H a (exo a C none) = H := by
    funext b
    by_cases hb : b = a
    · rw [hb, upd_same, ha]
    · rw [upd_ne hb]
  rw [eu] at J
  exact fin _ (J.pins_of fun p hp => absurd hp List.not_mem_nil)

/-- super().__init__(e, ..) as a statement of the __init__ of C -/
theorem super_stmt {body : List Stmt} {Q : Flow → Shared → Prop} {i : Nat} {e : Expr} {es : List Expr} {t : TA} {p0 p1 p2 pos spos : Pos} {fd : FuncData} {ar : Arg} {vs : Array Value} {file : Str} {tf : Tok} {oc ccl cl : Value} {od cdd cld : Option Addr} {osl ccs csl : Array (Option Value)}
    (T : XCls K C B newId initId bmB) (I : Inv (ctxI P w K mg base N qual scope f cc (.ref cdA) A outer s0 H0) [] σ H s) (ha : H a = some (exo a C none))
    (hf : K.lookup f = some ⟨oc, od, .func fd, osl⟩) (hp : (fd.params.posonlyargs ++ fd.params.args).head? = some ar) (hx : N[i]? = some ar.arg) (hself : σ[i]? = some (some (.ref a)))
    (hcode : K.lookup cdA = some ⟨ccl, cdd, .fields vs, ccs⟩) (hvs : vs[2]? = some (.str file tf)) (hfile : ((P.main.file : Str) == file) = true) (hcell : K.lookup cc = some ⟨cl, cld, .cell (some (.ref C)), csl⟩)
    (hsuper : mg "super" = none) (hks : scope.names.lookup ("super" : Str) = some .globalImplicit) (hkc : scope.names.lookup ("__class__" : Str) = some .free) (hka : scope.names.lookup ar.arg = some .local) (hk : scope.kind = .function)
    (htop : (P.main.scope.names.lookup ("super" : Str)).isSome = false) (hps : PA (ctxI P w K mg base N qual scope f cc (.ref cdA) A outer s0 H0) (e :: es) t)
    (he : starEach (e :: es) (ctxI P w K mg base N qual scope f cc (.ref cdA) A outer s0 H0).env = (false, eval e (ctxI P w K mg base N qual scope f cc (.ref cdA) A outer s0 H0).env) :: starEach es (ctxI P w K mg base N qual scope f cc (.ref cdA) A outer s0 H0).env)
    (hpl : (backTo pos (starEach es (ctxI P w K mg base N qual scope f cc (.ref cdA) A outer s0 H0).env)).any (·.1) = false)
    {pl : Sem Bool} (hev : eval (.Call (.Attribute (.Call (.Name "super" p0) [] [] p1) "__init__" p2) (e :: es) [] pos) (ksEnv qual scope s0.heap.objs.size f (.ref cdA) cc) = (do
      let ov ← attributeBase (.Call (.Name "super" p0) [] [] p1) "__init__" (ksEnv qual scope s0.heap.objs.size f (.ref cdA) cc) (eval (.Call (.Name "super" p0) [] [] p1) (ksEnv qual scope s0.heap.objs.size f (.ref cdA) cc))
      standAt p2.atName
      let (g, first) ← holding [ov] (getMethod ov "__init__" pl)
      callWith pos g first (backTo pos (starEach (e :: es) (ksEnv qual scope s0.heap.objs.size f (.ref cdA) cc))) []))
    (hsw : swapsWith (.Call (.Attribute (.Call (.Name "super" p0) [] [] p1) "__init__" p2) (e :: es) [] pos) none spos.line (ksEnv qual scope s0.heap.objs.size f (.ref cdA) cc) = pure false)
    (hn : t σ H fun ws H1 => ws.length ≤ sizeLine ∧ H1 a = some (exo a C none) ∧ ∀ s', Inv (ctxI P w K mg base N qual scope f cc (.ref cdA) A outer s0 H0) [] σ H1 s' → Q .next s') :
    PySem.wpAt (model P w) (A.deeper (ksEnv qual scope s0.heap.objs.size f (.ref cdA) cc)) (.func body (ksEnv qual scope s0.heap.objs.size f (.ref cdA) cc))
      (exec (.Expr (.Call (.Attribute (.Call (.Name "super" p0) [] [] p1) "__init__" p2) (e :: es) [] pos) spos) (ksEnv qual scope s0.heap.objs.size f (.ref cdA) cc)) Q (fun _ _ => False) s := by
  have kin := I.kIn
  obtain ⟨nm, q, N', bs, bm, sn, sub, ab, col, dd, k0, k1, k2, k3, k5, hC, hT, M, al⟩ := T.cls
  have hC' := kin _ _ hC
  obtain ⟨t1, ho⟩ := exo_at I.hok ha
  obtain ⟨m, hns, look⟩ := I.loc
  obtain ⟨u, ru, lk⟩ := look i ar.arg (.ref a) hx hself (.inl hka)
  obtain rfl : u = Value.ref a := ru
  have hself' : m ar.arg = some (.ref a) := by
    rcases lk with ⟨_, z⟩ | ⟨z, _⟩
    · exact z
    · have z : scope.names.lookup ar.arg = some .cell ∨ scope.names.lookup ar.arg = some .free := z
      rw [hka] at z
      rcases z with z | z <;> cases z
  obtain ⟨mb, hmb, hbb⟩ := I.ok.mod.blt
  have cdat : ∃ cd : ClassData, clsIn K C = some cd ∧ cd.mro = .ref C :: bm := ⟨{ name := nm, bases := bs, mro := .ref C :: bm, ns := N', qualname := q, hasDict := true, slotNames := sn, subclasses := sub, abstract := ab, collection := col, hasDel := false }, by unfold clsIn; rw [hC], rfl⟩
  obtain ⟨cd, hcd, hmro⟩ := cdat
  have hlook : Looks (model P w) s.heap (mroOf (.ref C)) cd.mro := (looks_clsIn kin hcd).andThen Looks.now
  obtain ⟨hp0, g, d, tk, os⟩ := s
  have hint : interactive (ksEnv qual scope s0.heap.objs.size f (.ref cdA) cc) = false := by
    unfold interactive
    simp [hk]
  refine ks_wpAt_Expr_any (hi := hint) (hs := hsw) (ks_wpAt_MethodCall (pl := pl) (he := hev) (ks_wpAt_super_base hks hkc (by decide) rfl (kin _ _ hf) rfl hp rfl (kin _ _ hcode) rfl hvs hfile htop ?_))
  refine ks_loadName_global hk hks (loadGlobal_builtin (I.ok.mod.glob.keeps I.bk) hsuper (hmb.keeps I.bk) ((hbb _ (by decide +kernel)).trans (show bootBuiltins "super" = some (.type "super") from by first | rfl | kernel_rfl)) ⟨rfl, ?_⟩)
  refine wpAny_loadName_free hk hkc rfl ⟨_, kin _ _ hcell, rfl⟩ ?_
  refine wpAny_loadName_local hk hka hns hself' ?_
  refine ks_wpAny_isType_cls hC' rfl ⟨rfl, ?_⟩
  refine ks_wpAny_call_super hC' rfl ho rfl (fun c z => by cases z) (looks_mroIn kin T.own) fun h1 e1 k1 => ?_
  have I1 := I.kept (h' := h1) (t' := tk) k1
  have hxC : a ≠ C := by
    rintro rfl
    rw [hC'] at ho
    cases ho
  have inst : InstAt h1 a _ C none := ⟨k1 _ _ ho, rfl, rfl, True.intro⟩
  refine kxs_getMethod T.KF e1 (looks_opaque I1.kIn T.op) (l₀ := cd.mro) (hlook.keeps k1) rfl I1.kIn (show alongIn K "__init__" ((cd.mro.dropWhile (· != .ref C)).drop 1) = _ from by rw [hmro]; simpa using al) (inst.type.andThen (looks_subIn I1.kIn T.sB)) hxC (by decide) ?_
  have hu : (h1.push (kxs_mw initId a)).get? h1.objs.size = some (kxs_mw initId a) := Heap.get?_push_at rfl rfl
  have I2 := I1.kept (h' := h1.push (kxs_mw initId a)) (t' := tk + 1) fun b o e => Heap.get?_push_of_some _ e
  have I3 : L2.Inv (ctxI P w K mg base N qual scope f cc (.ref cdA) A outer s0 H0) [(h1.objs.size, kxs_mw initId a)] σ H ⟨h1.push (kxs_mw initId a), g, d, tk + 1, os⟩ := I2.pins_of fun p hp => by
    obtain rfl := List.mem_singleton.mp hp
    refine ⟨hu, I1.hok.fresh (Nat.le_refl _), Nat.ne_of_gt I1.lt, fun z => ?_, fun v z => by cases z⟩
    obtain ⟨_, o', e', _⟩ := I1.ok.funs.mem z
    exact absurd (Nat.lt_of_lt_of_le (Heap.lt_size e') I1.sz) (Nat.lt_irrefl _)
  show wpAny _ _ (callWith pos (.ref h1.objs.size) [] (backTo pos (starEach (e :: es) (ctxI P w K mg base N qual scope f cc (.ref cdA) A outer s0 H0).env)) []) _ _ _
  have hpl2 : (backTo pos (starEach (e :: es) (ctxI P w K mg base N qual scope f cc (.ref cdA) A outer s0 H0).env)).any (·.1) = false := by
    rw [he]
    show (false || _) = false
    rw [Bool.false_or]
    exact hpl
  refine kxs_callWith (i := initId) (x := a) hpl2 ?_
  have hrun := hps.run pos [(h1.objs.size, kxs_mw initId a)] _ σ H _ I3 hn
  rw [he] at hrun ⊢
  refine evalArgs_plain (wpAny_mono hrun (fun us s2 hq => ?_) fun _ _ z => z)
  obtain ⟨ws, H1, I4, rv, hz, ha1, fin⟩ := hq
  have pin := I4.pin (h1.objs.size, kxs_mw initId a) (List.mem_append_right _ (List.mem_singleton.mpr rfl))
  refine ⟨pin.1, ?_⟩
  show wpAny _ _ (call (.ref h1.objs.size) ([] ++ us)) _ _ _
  rw [List.nil_append]
  exact call_wrapper T I4 pin.1 ha1 (by rw [← rv.length]; exact hz) fin
end
end Mu

end
section
set_option linter.all false
set_option Elab.async false
set_option maxRecDepth 100000
set_option maxHeartbeats 4000000
/-! self.f = v on an exception that is being made; its class called. -/
namespace Mu
open PySem PySem.W PySem.Spec PySem.Calls PyProof.Rows L2
section
variable {X : Cx} {pins : List (Addr × Obj)} {σ : L2.St} {H : Hp} {s : Shared} {a C : Addr} {B newId initId : String} {bmB : List Value} {A : Around}
theorem set_first {fld : Str} {y : V} {u : Value} {Q : Unit → Shared → Prop} {E : Value → Shared → Prop} (T : XCls X.K C B newId initId bmB) (I : Inv X pins σ H s) (ha : H a = some (exo a C none)) (hno : findIn X.K (.ref C) fld = some none) (ry : RelV y u)
    (fin : ∀ dx s', H dx = none → dx ≠ a → Inv X pins σ (upd (upd H dx (exd dx [(fld, y)])) a (exo a C (some dx))) s' → Q () s') : wpAny (model X.prog X.w) A (setAttr (.ref a) fld u) Q E s := by
  obtain ⟨nm, q, N, bs, bm, sn, sub, ab, col, dd, k0, k1, k2, k3, k5, hC, hT, M, al⟩ := T.cls
  obtain ⟨cd, hcd, hmro, hdict⟩ : ∃ cd : ClassData, clsIn X.K C = some cd ∧ cd.mro = .ref C :: bm ∧ cd.hasDict = true :=
    ⟨{ name := nm, bases := bs, mro := .ref C :: bm, ns := N, qualname := q, hasDict := true, slotNames := sn, subclasses := sub, abstract := ab, collection := col, hasDel := false }, by unfold clsIn; rw [hC], rfl, rfl⟩
  obtain ⟨t1, ho⟩ := exo_at I.hok ha
  obtain ⟨hp, g, d, t, os⟩ := s
  refine set_plain I.kIn (od := none) ⟨ho, rfl, rfl, True.intro⟩ T.sa ?_
  refine store_first I.kIn ho hcd (by rw [hmro]; exact M) hdict hno fun hq tq dx keep above apart hx ns => ?_
  have free : H dx = none := I.hok.fresh above
  have old : ∀ {b : Addr} {o : Obj}, hp.get? b = some o → b ≠ dx := fun e z => absurd (Heap.lt_size e) (by rw [z]; exact Nat.not_lt.mpr above)
  have other : ∀ {b : Addr}, H b = none → b ≠ a := by
    rintro b n rfl
    rw [ha] at n
    cases n
  have G : ∀ {b : Addr} {o : HO}, H b = some o → o ≠ exo a C none → upd (upd H dx (exd dx [(fld, y)])) a (exo a C (some dx)) b = some o := fun {b o} e n => by
    have n1 : b ≠ a := by
      rintro rfl
      rw [ha] at e
      exact n (Option.some.inj e).symm
    rw [upd_ne n1, upd_ne (ne_of_none e free)]
    exact e
  have un : Un X.fs [] H (upd (upd H dx (exd dx [(fld, y)])) a (exo a C (some dx))) hp hq := by
    refine ⟨fun b o e n _ _ => keep b o (other n) e, fun b o e n _ _ => ⟨o.slots, keep b o (other n) e⟩, fun b o e n _ => ?_, fun b o e _ => ?_, fun b xs e => G e fun z => exo_tup z.symm, fun b o v e => G e fun z => exo_frz z.symm, fun b ps e => ⟨#[], ?_⟩⟩
    · rw [upd_ne (other n), upd_ne (old e)]
      exact n
    · by_cases hb : b = a
      · exact ⟨_, by rw [hb]; exact hx⟩
      · exact ⟨o, keep b o hb e⟩
    · rw [G e fun z => exo_tbl z.symm]
      simp
  refine fin dx _ free apart (I.un (t' := tq) un fun b o e => ?_)
  by_cases hb : b = a
  · rw [hb] at e ⊢
    rw [upd_same] at e
    cases e
    exact exo_ok hx
  rw [upd_ne hb] at e
  by_cases hd : b = dx
  · rw [hd] at e ⊢
    rw [upd_same] at e
    cases e
    exact exd_ok ns (relO_put (fs := []) ry fun g => True.intro)
  rw [upd_ne hd] at e
  refine (I.hok b o e).stay (fun c v hc z => keep c v ?_ z) (fun c hc => G hc fun z => exo_own z.symm) fun c xs hc => G hc fun z => exo_tup z.symm
  rcases hc with hc | hc
  · rw [hc]
    exact hb
  · exact at_ne ha hc exo_own

/-- self.f = e, e's value ahead of self -/
def tSetF (K : Frag) (C a : Addr) (fld : Str) (te to : TE) : TS := fun D σ H => te σ H fun y H1 => to σ H1 fun x H2 => x = .ref a ∧ H2 a = some (exo a C none) ∧ findIn K (.ref C) fld = some none ∧
  ∀ dx, H2 dx = none → dx ≠ a → D.nx σ (upd (upd H2 dx (exd dx [(fld, y)])) a (exo a C (some dx)))
theorem ps_setF {o e : Expr} {fld : Str} {to te : TE} {pos p' : Pos} (T : XCls X.K C B newId initId bmB) (ho : PE X o to) (he : PE X e te) (hs : swapsWith e (some (.Attribute o fld p')) pos.line X.env = pure false) :
    PS X (.Assign [.Attribute o fld p'] e pos) (tSetF X.K C a fld te to) := by
  refine ⟨fun pins s σ H D I h => ?_⟩
  refine plainObj_wpAny_Assign_Attribute (thn (he.run pins s σ H _ I h) fun v s1 hv => ?_) hs
  obtain ⟨y, H1, I1, r1, q1⟩ := hv
  refine thn (ho.run pins s1 σ H1 _ I1 q1) fun u s2 hu => ?_
  obtain ⟨x, H2, I2, r2, rfl, ea, hno, q⟩ := hu
  obtain rfl : u = Value.ref a := r2
  exact set_first T I2 ea hno r1 fun dx s' n ne J => ⟨σ, _, J, q dx n ne⟩
end
end Mu

end
section
set_option linter.all false
set_option Elab.async false
set_option maxRecDepth 100000
set_option maxHeartbeats 4000000
/-! An __init__ of two statements, super().__init__(e) and self.f = g, run. -/
namespace Mu
open PySem PySem.W PySem.Spec PySem.Calls PyProof.Rows L2
/-- such an __init__ as the top has written it -/
structure InitF (P : Program) (K : Frag) (mg : Str → Option Value) (C fI cc cdA : Addr) (qual : Str) (params : Arguments) (scope : Scope) (body : List Stmt) (g : Str) (fd : FuncData) : Prop where
  fn : ∃ (oc : Value) (od : Option Addr) (dV kV doc pm : Value) (an : Option Addr) (ct : Value) (osl : Array (Option Value)), fd = ksFn "__init__" qual params body scope dV kV doc pm an (.ref cdA) ct cc ∧ K.lookup fI = some ⟨oc, od, .func fd, osl⟩
  code : codeIn K (.ref cdA) qual = true
  cobj : ∃ (ccl : Value) (cdd : Option Addr) (vs : Array Value) (ccs : Array (Option Value)) (file : Str) (tf : Tok), K.lookup cdA = some ⟨ccl, cdd, .fields vs, ccs⟩ ∧ vs[2]? = some (.str file tf) ∧ ((P.main.file : Str) == file) = true
  cell : ∃ (cl : Value) (cld : Option Addr) (csl : Array (Option Value)), K.lookup cc = some ⟨cl, cld, .cell (some (.ref C)), csl⟩
  bind : ∀ u v : Value, bindArgs fd ⟨[u, v], []⟩ = pure [(("self" : Str), u), (g, v)]
  head : ∃ ar : Arg, (params.posonlyargs ++ params.args).head? = some ar ∧ ar.arg = "self"
  sc : ScI ["self", g] ["self", g] scope
  nsup : mg "super" = none
  hks : scope.names.lookup ("super" : Str) = some .globalImplicit
  hkc : scope.names.lookup ("__class__" : Str) = some .free
  htop : (P.main.scope.names.lookup ("super" : Str)).isSome = false
section
variable {P : Program} {w : World} {K : Frag} {mg : Str → Option Value} {base : Heap} {qual : Str} {params : Arguments} {scope : Scope} {fI cc C a cdA : Addr} {A : Around} {outer : List PySem.Env} {s : Shared} {H : Hp} {B newId initId : String} {bmB : List Value} {g fld : Str} {fd : FuncData} {v : V} {u : Value} {R : Result → Shared → Prop}
theorem init_code {e : Expr} {t : TA} {p0 p1 p2 pos spos p3 p4 p5 posA : Pos} (T : XCls K C B newId initId bmB) (F : InitF P K mg C fI cc cdA qual params scope [.Expr (.Call (.Attribute (.Call (.Name "super" p0) [] [] p1) "__init__" p2) [e] [] pos) spos, .Assign [.Attribute (.Name "self" p3) fld p4] (.Name g p5) posA] g fd)
    (hd : A.handled = none) (hdp : A.depth < recursionLimit) (e0 : Env0 P w K mg base A outer s H) (ha : H a = some (exo a C none)) (ru : RelV v u) (hno : findIn K (.ref C) fld = some none) (hgd : (g == ("__debug__" : Str)) = false) (hgc : (g == ("__classdict__" : Str)) = false)
    (hmsg : ∀ s0 : Shared, PA (ctxI P w K mg base ["self", g] qual scope fI cc (.ref cdA) A outer s0 H) [e] t) (hstar : nStar e = true)
    (hev : ∀ env : PySem.Env, ∃ pl : Sem Bool, eval (.Call (.Attribute (.Call (.Name "super" p0) [] [] p1) "__init__" p2) [e] [] pos) env = (do
      let ov ← attributeBase (.Call (.Name "super" p0) [] [] p1) "__init__" env (eval (.Call (.Name "super" p0) [] [] p1) env)
      standAt p2.atName
      let (g, first) ← holding [ov] (getMethod ov "__init__" pl)
      callWith pos g first (backTo pos (starEach [e] env)) []))
    (ht : ∀ Q : List V → Hp → Prop, (∀ ws, ws.length ≤ sizeLine → Q ws H) → t [some (.ref a), some v] H Q)
    (fin : ∀ dx s', H dx = none → dx ≠ a → CE outer P w H s (fun z H' => z = .non ∧ H' = upd (upd H dx (exd dx [(fld, v)])) a (exo a C (some dx))) .none s' → R (.ok (.ret .none)) s') :
    codeAny (model P w) A (.call (.ref fI) ⟨[.ref a, u], []⟩) R s := by
  obtain ⟨oc, od, dV, kV, doc, pm, an, ct, osl, rfl, lk⟩ := F.fn
  obtain ⟨ccl, cdd, vs, ccs, file, tf, lc, hvs, hfile⟩ := F.cobj
  obtain ⟨cl, cld, csl, lcell⟩ := F.cell
  obtain ⟨ar, har, hself⟩ := F.head
  have kin : K.In s.heap := e0.mod.kin.keeps fun b o e => (e0.bs b o e).1
  have lim := e0.mod.nolimit.keeps fun b o e => (e0.bs b o e).1
  have par := F.sc.par
  refine ks_codeAny_call_defAt (binds := [(("self" : Str), .ref a), (g, u)]) hdp (kin _ _ lk) rfl lim (codeRec_of kin F.code) rfl (.of_eq (F.bind _ _)) F.sc.loc (fun x hx => ?_) (fun h1 hns kp => ?_) F.sc.co F.sc.gen F.sc.kind
  · rcases List.mem_cons.mp hx with rfl | hx
    · exact par _ List.mem_cons_self
    · obtain rfl := List.mem_singleton.mp hx
      exact par _ (List.mem_cons_of_mem _ List.mem_cons_self)
  have I : Inv (ctxI P w K mg base ["self", g] qual scope fI cc (.ref cdA) A outer s H) [] [some (.ref a), some v] H { s with heap := h1, toks := s.toks + [(("self" : Str), Value.ref a), (g, u)].length } :=
    start_I (us := [.ref a, u]) (vs := [.ref a, v]) F.sc hd e0 (.cons rfl (.cons ru .nil)) rfl ⟨_, _, _, lcell⟩ hns kp
  have fin' : ∀ {dx : Addr} {s' : Shared}, H dx = none → dx ≠ a → Inv (ctxI P w K mg base ["self", g] qual scope fI cc (.ref cdA) A outer s H) [] [some (.ref a), some v] (upd (upd H dx (exd dx [(fld, v)])) a (exo a C (some dx))) s' → R (.ok (.ret .none)) s' :=
    fun {dx s'} n ne J => fin dx s' n ne ⟨.non, _, J.os, J.bare, J.base, J.hok, rfl, rfl, rfl⟩
  refine ks_wpAt_execs_cons ?_
  obtain ⟨pl, hev'⟩ := hev (ksEnv qual scope s.heap.objs.size fI (.ref cdA) cc)
  refine ks_wpAt_mono (super_stmt (i := 0) (es := []) (t := t) (pl := pl) T I ha lk har (by rw [hself]; rfl) rfl lc hvs hfile lcell F.nsup F.hks F.hkc (by rw [hself]; exact par _ List.mem_cons_self) F.sc.kind F.htop (hmsg s) (star_of hstar) rfl hev' (by rfl)
    (Q := fun f s' => f = .next ∧ Inv (ctxI P w K mg base ["self", g] qual scope fI cc (.ref cdA) A outer s H) [] [some (.ref a), some v] H s') ?_) (fun f s' hq => ?_) fun _ _ z => z.elim
  · exact ht _ fun ws hz => ⟨hz, ha, fun s' J => ⟨rfl, J⟩⟩
  · obtain ⟨rfl, J⟩ := hq
    refine wpAt_of_wpAny ?_
    have pS : PE (ctxI P w K mg base ["self", g] qual scope fI cc (.ref cdA) A outer s H) (.Name "self" p3) (tVar 0) := pe_var rfl (.inl (par _ List.mem_cons_self)) (by decide) (by decide)
    have pG : PE (ctxI P w K mg base ["self", g] qual scope fI cc (.ref cdA) A outer s H) (.Name g p5) (tVar 1) := pe_var rfl (.inl (par _ (List.mem_cons_of_mem _ List.mem_cons_self))) hgd hgc
    refine wpAny_mono ((pss_one (ps_setF (a := a) (fld := fld) (pos := posA) (p' := p4) T pS pG rfl)).run [] s' [some (.ref a), some v] H
      { nx := fun σ' H' => ∃ dx, H dx = none ∧ dx ≠ a ∧ σ' = [some (.ref a), some v] ∧ H' = upd (upd H dx (exd dx [(fld, v)])) a (exo a C (some dx)), rt := fun _ _ => False } J ?_) (fun f s2 hq => ?_) fun _ _ z => z.elim
    · exact ⟨v, rfl, .ref a, rfl, rfl, ha, hno, fun dx n ne => ⟨dx, n, ne, rfl, rfl⟩⟩
    · match f, hq with
      | .next, ⟨σ', H', J', dx, n, ne, e1, e2⟩ =>
        subst e1
        subst e2
        exact fin' n ne J'
      | .ret _, ⟨_, _, _, _, _, z⟩ => exact z.elim
      | .brk, ⟨_, _, _, z⟩ => exact z.elim
      | .cont, ⟨_, _, _, z⟩ => exact z.elim
end
end Mu

end
section
set_option linter.all false
set_option Elab.async false
set_option maxRecDepth 100000
set_option maxHeartbeats 4000000
/-! An own exception class called: C(e) ahead of a raise. -/
namespace Mu
open PySem PySem.W PySem.Spec PySem.Calls PyProof.Rows L2
section
variable {X : Cx} {qual : Str} {params : Arguments} {scope : Scope} {fI cc C cdA : Addr} {B newId initId : String} {bmB : List Value} {g fld : Str} {fd : FuncData}
/-- the class at C, its __init__ with all that it needs; cnd: when its message can be made -/
structure XIni (P : Program) (w : World) (K : Frag) (mg : Str → Option Value) (C : Addr) (fld : Str) (cnd : V → Hp → Prop) : Prop where
  all : ∃ (B newId initId : String) (bmB : List Value) (fI cc cdA : Addr) (qual : Str) (params : Arguments) (scope : Scope) (g : Str) (fd : FuncData) (e : Expr) (t : TA) (p0 p1 p2 pos spos p3 p4 p5 posA : Pos), XCls K C B newId initId bmB ∧
    InitF P K mg C fI cc cdA qual params scope [.Expr (.Call (.Attribute (.Call (.Name "super" p0) [] [] p1) "__init__" p2) [e] [] pos) spos, .Assign [.Attribute (.Name "self" p3) fld p4] (.Name g p5) posA] g fd ∧
    findIn K (.ref C) fld = some none ∧ (g == ("__debug__" : Str)) = false ∧ (g == ("__classdict__" : Str)) = false ∧ nStar e = true ∧ findIn K (.ref C) "__init__" = some (some (.ref fI)) ∧ typeIn K (.ref fI) = some (.type "function") ∧
    (∀ env : PySem.Env, ∃ pl : Sem Bool, eval (.Call (.Attribute (.Call (.Name "super" p0) [] [] p1) "__init__" p2) [e] [] pos) env = (do
      let ov ← attributeBase (.Call (.Name "super" p0) [] [] p1) "__init__" env (eval (.Call (.Name "super" p0) [] [] p1) env)
      standAt p2.atName
      let (g, first) ← holding [ov] (getMethod ov "__init__" pl)
      callWith pos g first (backTo pos (starEach [e] env)) [])) ∧
    (∀ (base : Heap) (A : Around) (outer : List PySem.Env) (s0 : Shared) (H : Hp), A.guards = some [] → A.units + 300 < cLine → PA (ctxI P w K mg base ["self", g] qual scope fI cc (.ref cdA) A outer s0 H) [e] t) ∧
    ∀ (a : Addr) (v : V) (H : Hp) (Q : List V → Hp → Prop), cnd v H → (∀ ws, ws.length ≤ sizeLine → Q ws H) → t [some (.ref a), some v] H Q
theorem pmk_init {x : Str} {cnd : V → Hp → Prop} {k : Nat} {ea : Expr} {ta : TE} {p pos : Pos} (N : XIni X.prog X.w X.K X.mg C fld cnd) (hr : Room (k + 30) X.A) (hgd : X.A.guards = some []) (hg : Gl X x) (hm : X.mg x = some (.ref C)) (he : PE X ea ta)
    (hdb : (x == ("__debug__" : Str)) = false) (hs : nStar ea = true) :
    PMk X (.Call (.Name x p) [ea] [] pos) (fun σ H Q => ta σ H fun y H1 => (∀ a, H1 a = none → cnd y (upd H1 a (exo a C none))) ∧ ∀ d, H1 d = none → Q (.ref C) (some d) (upd H1 d (.xd [(fld, y)]))) := by
  intro pins s σ H Q I h
  obtain ⟨B, newId, initId, bmB, fI, cc, cdA, qual, params, scope, g, fd, e, t, p0, p1, p2, ps, spos, p3, p4, p5, posA, T, F, hno, hgdb, hgcd, hst, iC, tI, hev, hmsg, ht⟩ := N.all
  obtain ⟨nm, q, NN, bs, bm, sn, sub, ab, col, dd, k0, k1, k2, k3, k5, hC, hT, M, al⟩ := T.cls
  have arg : PA X [ea] (tCons ta tNil) := pa_cons he pa_nil (star_of hs)
  refine wpAny_Call_Name_kw (ld_glob I hg hm ?_ hdb)
  refine callWith_K (h₀ := X.base) I.ok.mod.kin T.kC (thn (arg.run pos pins s σ H (fun ws H1 => match ws with
    | [y] => (∀ a, H1 a = none → cnd y (upd H1 a (exo a C none))) ∧ ∀ d, H1 d = none → Q (.ref C) (some d) (upd H1 d (.xd [(fld, y)]))
    | _ => False) I h) fun us s1 hu => ?_) (star_of hs) rfl
  obtain ⟨vs, H1, I1, rv, hq⟩ := hu
  obtain ⟨y, rfl⟩ : ∃ y, vs = [y] := by
    match vs, hq with
    | [y], _ => exact ⟨y, rfl⟩
  obtain ⟨hc, hq⟩ := hq
  obtain ⟨u, rfl, ru⟩ := rv.one
  refine ⟨I1.kIn, ?_⟩
  show wpAny _ _ (call (.ref C) [u]) _ _ _
  obtain ⟨hp, gs, dr, tk, os⟩ := s1
  have up : hp.objs.size ≤ hp.objs.size + 1 := Nat.le_succ _
  have na : H1 (hp.objs.size + 1) = none := I1.hok.fresh up
  obtain ⟨h2, e2⟩ : ∃ h2, h2 = (hp.push (kdv_tup [u])).push (HandSPX.excO C hp.objs.size) := ⟨_, rfl⟩
  have keep : ∀ b o, hp.get? b = some o → h2.get? b = some o := fun b o e => by rw [e2]; exact Heap.get?_push_of_some _ (Heap.get?_push_of_some _ e)
  have there : h2.get? (hp.objs.size + 1) = some (HandSPX.excO C hp.objs.size) := by rw [e2]; heap_get
  have I2 := I1.laid (t' := tk) (a := hp.objs.size + 1) (o := exo (hp.objs.size + 1) C none) (h' := h2) keep up (exo_ok there)
  have nd : ∀ {dx : Addr}, upd H1 (hp.objs.size + 1) (exo (hp.objs.size + 1) C none) dx = none → dx ≠ hp.objs.size + 1 → H1 dx = none := fun n ne => by rw [upd_ne ne] at n; exact n
  refine wpAny_call (HandSPX.call_own T.FB hT (I1.kIn _ _ hC) (looks_findIn I1.kIn iC) (fun self => bind_fn I1.kIn self tI) (show 1 ≤ sizeLine by decide) ?_)
  rw [← e2]
  refine init_code (a := hp.objs.size + 1) (v := y) (outer := X.stack) (H := upd H1 (hp.objs.size + 1) (exo (hp.objs.size + 1) C none)) T F (hr.make C [u] []).hd (hr.make C [u] []).depth (I2.env0.make C [u] []) upd_same ru hno hgdb hgcd
    (fun s0 => hmsg _ _ _ _ _ ?_ ?_) hst hev (fun Q' hQ' => ht _ _ _ _ (hc _ na) hQ') fun dx s' n ne ce => ?_
  · first
      | exact hgd
      | (simp [Around.under, Code.isGuard, guardIds]; exact hgd)
  · have := (hr.make C [u] []).un
    omega
  · obtain ⟨z, H', os2, bare2, un2, hok2, rv2, ez, eH⟩ := ce
    subst eH
    obtain ⟨h3, g3, d3, t3, os3⟩ := s'
    refine ⟨rfl, mk_end (fs := [(fld, y)]) (d := dx) (raises_own T.exC T.tyC) I1 up keep un2 hok2 os2 bare2 upd_same (by rw [upd_ne ne, upd_same]) (nd n ne) ?_⟩
    have eh : upd (del (upd (upd (upd H1 (hp.objs.size + 1) (exo (hp.objs.size + 1) C none)) dx (exd dx [(fld, y)])) (hp.objs.size + 1) (exo (hp.objs.size + 1) C (some dx))) (hp.objs.size + 1)) dx (.xd [(fld, y)]) = upd H1 dx (.xd [(fld, y)]) := by
      funext b
      by_cases h1 : b = dx
      · rw [h1, upd_same, upd_same]
      rw [upd_ne h1, upd_ne h1]
      by_cases h2 : b = hp.objs.size + 1
      · rw [h2, del_same]
        exact na.symm
      · rw [del_ne h2, upd_ne h2, upd_ne h1, upd_ne h2]
    rw [eh]
    exact hq dx (nd n ne)
end
end Mu

end
section
set_option linter.all false
set_option Elab.async false
/-! {x!r} of data in an f-string. -/
namespace Mu
open PySem PySem.Spec PyProof.Rows L2
section
variable {X : Cx}
/-- {x!r} -/
def tFmtD (K : PySem.W.Frag) (mg : Str → Option Value) (te : TE) : TE := fun σ H Q => te σ H fun x H1 => ∃ V ρ d sh, Rep K mg V ρ H1 d x ∧ reprD d = some sh ∧ Q (.str sh) H1
theorem pe_fmtD {e : Expr} {te : TE} {pos : Pos} (hg : X.A.guards = some []) (hu : X.A.units + 100 < cLine) (he : PE X e te) : PE X (.FormattedValue e 114 none pos) (tFmtD X.K X.mg te) := by
  refine ⟨fun pins s σ H Q I h => ?_⟩
  refine wpAny_FormattedValue_repr (thn (he.run pins s σ H _ I h) fun u s1 hv => ?_)
  obtain ⟨x, H1, I1, ru, V', ρ, d, sh, rd, hr, q⟩ := hv
  unfold reprD at hr
  split at hr
  · rename_i hc
    simp only [Bool.and_eq_true, decide_eq_true_eq] at hc
    obtain ⟨⟨⟨hp, hs⟩, hl⟩, hd⟩ := hc
    cases hr
    obtain ⟨as, hr1, hsm⟩ := pyT_reads I1 rd ru hp
    have fin : ∀ {s2 : Shared} (t : Tok), Inv X pins σ H1 s2 → wpAny (model X.prog X.w) X.A (formatField (.str d.pyT.shown t) Str.empty) (EP X pins σ Q) X.xe s2 := fun t J =>
      wpAny_formatField_str ⟨.str _, H1, J, ⟨t, rfl⟩, q⟩ ⟨.str _, H1, J.tok _, ⟨_, rfl⟩, q⟩ hl
    cases rd with
    | non =>
      cases ru
      simp only [D.pyT, D.py, PyData.shown] at fin
      exact pyReprObj_none (fin _ (I1.tok _))
    | bl b =>
      cases ru
      simp only [D.pyT, D.py, PyData.shown] at fin
      exact pyReprObj_bool (fin _ (I1.tok _))
    | int i =>
      obtain ⟨t, rfl⟩ := ru
      simp only [D.pyT, D.py, PyData.shown, PyData.showable] at fin hs
      exact pyReprObj_int (of_decide_eq_true hs) (fin _ (I1.tok _))
    | str z =>
      obtain ⟨t, rfl⟩ := ru
      simp only [D.pyT, D.py, PyData.shown] at fin hl
      exact pyReprObj_str (fin _ (I1.tok _)) hl
    | tup t r =>
      cases ru
      exact pyReprObj_of_reads hr1 hs hsm hg (by omega) (fun _ _ e => e) (fun h' u tk hk => fin u (I1.kept hk)) hl
    | lst t r =>
      cases ru
      exact pyReprObj_of_reads hr1 hs hsm hg (by omega) (fun _ _ e => e) (fun h' u tk hk => fin u (I1.kept hk)) hl
    | dic h1 h2 h3 h4 =>
      cases ru
      exact pyReprObj_of_reads hr1 hs hsm hg (by omega) (fun _ _ e => e) (fun h' u tk hk => fin u (I1.kept hk)) hl
    | _ => first | (simp [D.plainT, D.plain] at hp; done) | cases hp
  · cases hr
end
end Mu

end
section
set_option linter.all false
set_option Elab.async false
set_option maxRecDepth 100000
/-! try with several clauses, each with a name or without one. -/
namespace Mu
open PySem PySem.Spec PyProof.Rows L2
/-- a clause: its class, the slot of its name, its suite's reading -/
structure Cls where
  c : Value
  nm : Option Nat
  ts : Addr → Value → Option Addr → TS
/-- what is wanted behind a suite: the name is gone -/
def Ends.gone (D : Ends) (i : Nat) : Ends := { nx := fun σ H => D.nx (σ.set i none) H, rt := D.rt, bk := fun σ H => D.bk (σ.set i none) H, ct := fun σ H => D.ct (σ.set i none) H }
def wCls (K : PySem.W.Frag) (Wout : WX) (D : Ends) : List Cls → WX
  | [] => Wout
  | h :: r => fun cls d σ H => ∃ b, PySem.W.exmOne K cls h.c = some b ∧ (b = true → ∀ a, H a = none → match h.nm with
      | none => h.ts a cls d D σ H
      | some i => h.ts a cls d (Ends.gone D i) (σ.set i (some (.ref a))) H) ∧ (b = false → wCls K Wout D r cls d σ H)
inductive ClsOk (X : Cx) : List ExceptHandler → List Cls → Prop
  | nil : ClsOk X [] []
  | bare {x : Str} {c : Value} {ts : Addr → Value → Option Addr → TS} {st : Stmt} {su : List Stmt} {p1 p2 : Pos} {hs : List ExceptHandler} {l : List Cls} (hc : Names X x c)
      (hsu : ∀ (a : Addr) (oe : Obj) (cls : Value) (d : Option Addr) (pn : List (Addr × Obj)), Zc cls d oe → (∃ vs, oe.data = .fields vs) → PSs (X.suite a ((a, oe) :: pn)) (st :: su) (ts a cls d)) (r : ClsOk X hs l) :
      ClsOk X (.ExceptHandler (some (.Name x p1)) none (st :: su) p2 :: hs) (⟨c, none, ts⟩ :: l)
  | named {x n : Str} {i : Nat} {c : Value} {ts : Addr → Value → Option Addr → TS} {st : Stmt} {su : List Stmt} {p1 p2 : Pos} {hs : List ExceptHandler} {l : List Cls} (hc : Names X x c) (hi : X.N[i]? = some n) (hl : X.env.kindOf n = some .local)
      (hsu : ∀ (a : Addr) (oe : Obj) (cls : Value) (d : Option Addr) (pn : List (Addr × Obj)), Zc cls d oe → (∃ vs, oe.data = .fields vs) → PSs (X.suite a ((a, oe) :: pn)) (st :: su) (ts a cls d)) (r : ClsOk X hs l) :
      ClsOk X (.ExceptHandler (some (.Name x p1)) (some n) (st :: su) p2 :: hs) (⟨c, some i, ts⟩ :: l)
section
variable {X : Cx} {body : List Stmt} {h0 : ExceptHandler} {hs : List ExceptHandler} {l : List Cls} {pos : Pos} {tb : WX → TS} {Wout : WX}
theorem ps_try (st : X.stack = X.env :: X.outer) (hf : X.env.frame = some X.env.locals) (hN : X.N.Nodup) (tk : Takes X Wout)
    (hb : ∀ (W : WX) (pn : List (Addr × Obj)) (xe : Value → Shared → Prop), Takes (X.tr pn xe) W → PassesOwn (model X.prog X.w) X.A X.env xe → PSs (X.tr pn xe) body (tb W))
    (hh : ClsOk X (h0 :: hs) l) : PS X (.Try body (h0 :: hs) [] [] pos) (fun D σ H => tb (wCls X.K Wout D l) D σ H) := by
  refine ⟨fun pins s σ H D I h => ?_⟩
  have ok := I.ok
  have frames : X.A.frames = some (X.env :: X.outer) := by rw [ok.frames, st]
  refine wpAny_Try_except (wpAny_mono ((hb (wCls X.K Wout D l) (X.pn ++ pins) (fun e s1 => wpAny (model X.prog X.w) X.A (noteFrame e X.env) (fun _ s2 => wpAny (model X.prog X.w) X.A (setFlight e none) (fun _ s3 =>
    wpAny (model X.prog X.w) X.A (handleBy e X.env (h0 :: hs)) (SP X pins D) X.xe s3) X.xe s2) X.xe s1) (fun u s' xx => ?_) PassesOwn.looking).run [] s σ H D (I.toTry _) h) (fun f s1 hsp => ?_) fun e s1 he => he)
  · obtain ⟨a, B, sI, pins', σ', H', cls, d, rfl, J', nb, up, sky, na, os, ag, w⟩ := xx
    have J : Inv X pins σ' H' sI := J'.ofTry ok
    rw [show (X.tr (X.pn ++ pins) _).stack = X.env :: X.outer from st] at sky
    refine Sky.land (E₁ := X.xe) Zc.steady frames hf sky fun h3 fl3 up3 => ?_
    have J3 : Inv X pins σ' H' { s' with heap := h3 } := J.landed nb fl3.1 (up.trans up3) os ag
    obtain ⟨oe3, vs3, he3, hz3, hd3⟩ := fl3.there
    have nfr : a ∉ frs (X.env :: X.outer) := fun hm => by
      obtain ⟨_, o', e', hnf⟩ := fl3.2.2.1.mem hm
      rw [he3] at e'
      cases e'
      exact hnf _ hd3
    have nL : a ≠ X.env.locals := fun z => nfr (List.mem_filterMap.mpr ⟨X.env, List.mem_cons_self, by rw [hf, z]⟩)
    have nF : a ∉ X.fs := fun hm => by
      obtain ⟨e, he, q⟩ := List.mem_filterMap.mp hm
      exact nfr (List.mem_filterMap.mpr ⟨e, List.mem_cons_of_mem _ he, q⟩)
    have S3 := J3.suite he3 hd3 na nL nF
    have LT : PySem.W.Looks (model X.prog X.w) h3 (typeOf (.ref a)) cls := fun A Q E s k q => wpAny_typeOf_ref (k _ _ he3) (by rw [hz3.1]; exact q)
    have test : ∀ {x : Str} {np : Pos} {c : Value} {Q : Value → Shared → Prop} {E : Value → Shared → Prop}, Names X x c → Q c { s' with heap := h3 } → wpAny (model X.prog X.w) (X.A.mark (some (.ref a))) (eval (.Name x np) X.env) Q E { s' with heap := h3 } := by
      rintro x np c Q E ⟨hg, hdbg, hm | ⟨hm, hv, hnn⟩⟩ q
      · exact ld_glob (X := X.suite a ((a, oe3) :: (X.pn ++ pins))) S3 hg hm q hdbg
      · exact ld_blt (X := X.suite a ((a, oe3) :: (X.pn ++ pins))) S3 hg hm hv q hnn hdbg
    have go : ∀ {hs' : List ExceptHandler} {l' : List Cls}, ClsOk X hs' l' → wCls X.K Wout D l' cls d σ' H' → wpAny (model X.prog X.w) X.A (handleBy (.ref a) X.env hs') (SP X pins D) X.xe { s' with heap := h3 } := by
      intro hs' l' hk
      have on : ∀ {h4 : Heap}, HandSPX.FlyingZ B (X.env :: X.outer) a (Zc cls d) h4 → h3.UpToSlots h4 → ∃ oe4, Inv (X.suite a ((a, oe4) :: (X.pn ++ pins))) [] σ' H' { s' with heap := h4 } ∧ Zc cls d oe4 ∧ ∃ vs, oe4.data = .fields vs := fun {h4} fl4 up4 => by
        have J4 : Inv X pins σ' H' { s' with heap := h4 } := J.landed nb fl4.1 ((up.trans up3).trans up4) os ag
        obtain ⟨oe4, vs4, he4, hz4, hd4⟩ := fl4.there
        exact ⟨oe4, J4.suite he4 hd4 na nL nF, hz4, _, hd4⟩
      induction hk with
      | nil =>
        intro w
        refine wpAny_handleBy_nil ?_
        obtain ⟨k1, k2, k3, oe, vs, T, oT, ts', he, hz, hd, h1, hr⟩ := id fl3
        unfold PySem.passOn
        refine wpAny_bind (wpAny_field he hd h1 ?_)
        rw [if_neg (show ¬ ((Value.ref T == Value.none) = true) from fun z => by cases z)]
        have fin : wpAny (model X.prog X.w) X.A (setFlight (.ref a) X.env.frame) (fun _ s4 => wpAny (model X.prog X.w) X.A (throw (.ref a) : Sem Flow) (SP X pins D) X.xe s4) X.xe { s' with heap := h3 } := by
          rw [hf]
          exact HandSPX.setFlight_upZ fl3 fun h4 hh4 up4 => wpAny_throw (tk _ _ ⟨a, B, sI, pins, σ', H', cls, d, rfl, J, nb, (up.trans up3).trans up4, .inr (.inr (by rw [st]; exact hh4)), na, os, ag, w⟩)
        first
          | exact wpAny_bind (wpAny_pure (wpAny_bind fin))
          | exact wpAny_bind fin
      | @bare x c ts b0 su p1 p2 hs2 l2 hc hsu r ih =>
        rintro ⟨b, hb1, yes, no⟩
        refine wpAny_handleBy_cons (codeAny_handlers_test (test hc ((PySem.W.exm_one (M := model X.prog X.w) J3.kIn LT hb1).here ?_))) (fun q => by cases q)
        cases b with
        | false => exact ih (no rfl)
        | true =>
          refine codeAny_handlers_suite (HandSPX.lands_againZ fl3 fun h4 fl4 up4 => ?_)
          obtain ⟨oe4, S4, hz4, hd4⟩ := on fl4 up4
          refine wpAny_mono ((hsu a oe4 cls d (X.pn ++ pins) hz4 hd4).run [] _ _ H' _ S4 (yes rfl a na)) (fun f s6 hsp => ?_) (fun _ _ z => False.elim z)
          match f, hsp with
          | .next, ⟨σ6, H6, S6, q6⟩ => exact ⟨σ6, H6, S6.unsuite ok, q6⟩
          | .brk, ⟨σ6, H6, S6, q6⟩ => exact ⟨σ6, H6, S6.unsuite ok, q6⟩
          | .cont, ⟨σ6, H6, S6, q6⟩ => exact ⟨σ6, H6, S6.unsuite ok, q6⟩
          | .ret u, ⟨v6, σ6, H6, S6, r6, q6⟩ => exact ⟨v6, σ6, H6, S6.unsuite ok, r6, q6⟩
      | @named x n i c ts b0 su p1 p2 hs2 l2 hc hi hl hsu r ih =>
        rintro ⟨b, hb1, yes, no⟩
        refine wpAny_handleBy_cons (codeAny_handlers_test (test hc ((PySem.W.exm_one (M := model X.prog X.w) J3.kIn LT hb1).here ?_))) (fun q => by cases q)
        cases b with
        | false => exact ih (no rfl)
        | true =>
          refine codeAny_handlers_suite_as (HandSPX.lands_againZ fl3 fun h4 fl4 up4 => ?_)
          obtain ⟨oe4, S4, hz4, hd4⟩ := on fl4 up4
          refine store_ok (X := X.suite a ((a, oe4) :: (X.pn ++ pins))) (v := .ref a) S4 hN hi (.inl hl) rfl (fun s5 S5 => ?_) (.inr hl)
          refine wpAny_mono ((hsu a oe4 cls d (X.pn ++ pins) hz4 hd4).run [] s5 _ H' _ S5 (yes rfl a na)) (fun f s6 hsp => ?_) (fun _ _ z => False.elim z)
          match f, hsp with
          | .next, ⟨σ6, H6, S6, q6⟩ => exact gone_ok (S6.unsuite ok) hN hi hl fun s7 J7 => ⟨_, _, J7, q6⟩
          | .brk, ⟨σ6, H6, S6, q6⟩ => exact gone_ok (S6.unsuite ok) hN hi hl fun s7 J7 => ⟨_, _, J7, q6⟩
          | .cont, ⟨σ6, H6, S6, q6⟩ => exact gone_ok (S6.unsuite ok) hN hi hl fun s7 J7 => ⟨_, _, J7, q6⟩
          | .ret u, ⟨v6, σ6, H6, S6, r6, q6⟩ => exact gone_ok (S6.unsuite ok) hN hi hl fun s7 J7 => ⟨_, _, _, J7, r6, q6⟩
    exact go hh w
  · cases f with
    | next =>
      obtain ⟨σ', H', J', q⟩ := hsp
      exact wpAny_execs_nil ⟨σ', H', J'.ofTry ok, q⟩
    | ret u =>
      obtain ⟨v, σ', H', J', r, q⟩ := hsp
      exact ⟨v, σ', H', J'.ofTry ok, r, q⟩
    | brk => exact (fun ⟨σ', H', J', q⟩ => ⟨σ', H', J'.ofTry ok, q⟩ : _ → _) hsp
    | cont => exact (fun ⟨σ', H', J', q⟩ => ⟨σ', H', J'.ofTry ok, q⟩ : _ → _) hsp
end
end Mu

end
section
set_option linter.all false
set_option Elab.async false
/-! Statements are sound. -/
namespace Mu
open PySem PySem.Spec PyProof.Rows L2

theorem swP_of {c : Ct} {env : PySem.Env} {ts vs : List Expr} {k k' : Nat} {p p' : Pos} {r : Option (List Str)} (hk : env.blockKind = .function) (hs : env.scope = c.sc) (h : swP c ts vs = some r) :
    swappedStores [.Tuple ts k p] (.Tuple vs k' p') env = pure r := by
  have hkind : ∀ id, env.kindOf id = c.kind id := fun id => by unfold Env.kindOf Ct.kind; rw [hs]
  have hst : (vs.any fun | .Starred .. => true | _ => false) = vs.any fun x => !nStar x := by
    congr 1
    funext x
    cases x <;> rfl
  unfold swP at h
  unfold swappedStores
  simp only [hk, hkind]
  split at h
  · rename_i h1
    cases h
    exact if_pos (by rw [Bool.or_eq_true]; exact .inl h1)
  · rename_i h1
    refine (if_neg (by rw [Bool.or_eq_true]; rintro (q | q); exact h1 q; exact absurd q (by decide))).trans ?_
    split at h
    · rename_i h2
      cases h
      exact if_pos (hst.trans h2)
    · rename_i h2
      refine (if_neg fun q => h2 (hst.symm.trans q)).trans ?_
      simp only at h
      split at h
      · rename_i h3
        cases h
        exact if_pos h3
      · rename_i h3
        refine (if_neg h3).trans ?_
        split at h
        · rename_i h4
          cases h
          exact if_pos h4
        · rename_i h4
          refine (if_neg h4).trans ?_
          split at h
          · cases h
          · rename_i h5
            cases h
            exact if_neg h5

abbrev RS (X : Cx) (V : Vw) (W : WX) (f : Env → Sto → SR) : TS := RdS X.K X.mg V W f
section
variable {X : Cx} {V : Vw} {W : WX} {x l r tg : Expr} {pos : Pos} {fa fb : Env → Sto → Res D} {ft : Env → Sto → Res Bool} {fs fu : Env → Sto → SR} {ss ts : List Stmt} {s : Stmt}
theorem PS.imp {t t' : TS} (h : PS X s t) (i : ∀ D σ H, t' D σ H → t D σ H) : PS X s t' := ⟨fun p st σ H D I q => h.run p st σ H D I (i D σ H q)⟩
theorem PSs.imp {t t' : TS} (h : PSs X ss t) (i : ∀ D σ H, t' D σ H → t D σ H) : PSs X ss t' := ⟨fun p st σ H D I q => h.run p st σ H D I (i D σ H q)⟩
theorem ss_no {f : Env → Sto → SR} (h : ∀ env st, f env st = .stuck) : PS X s (RS X V W f) := ⟨fun p st' σ H D I ⟨ρ, env, st, _, _, q⟩ => by rw [h] at q; exact q.elim⟩
/-- an expression, then what a statement does with it -/
theorem Rdg.runE {α β : Type} {K : PySem.W.Frag} {mg : Str → Option Value} {V : Vw} {σ : L2.St} {ρ : Rho} {H : Hp} {R : Rho → Hp → α → β → Prop} {st : Sto} {env : Env} {D : Ends} {f : Env → Sto → Res α} {g : α → Sto → SR} {Q' : β → Hp → Prop}
    (er : EnvRep K mg V ρ H env σ) (w : Wd K mg V ρ st H) (h : PostS K mg V W ρ H ((f env st).run env g) D)
    (k : ∀ ρ1 a st1 v H1, Ext ρ H ρ1 H1 → EnvRep K mg V ρ1 H1 env σ → Wd K mg V ρ1 st1 H1 → R ρ1 H1 a v → PostS K mg V W ρ1 H1 (g a st1) D → Q' v H1) : Rdg K mg V W R f σ H Q' := by
  obtain ⟨ρ0, env0, st0, er0, w0, q0⟩ := Rdg.run (R := R) er w h
  exact ⟨ρ0, env0, st0, er0, w0, q0.mono fun v H1 ⟨ρ1, d, st1, e1, er1, w1, r1, q1⟩ => k ρ1 d st1 v H1 e1 er1 w1 r1 q1⟩
theorem swap_no {e : Expr} {t : Option Expr} {l : Nat} {env : PySem.Env} (h : nComp e = true) : swapsWith e t l env = pure false := by
  cases e <;> first | rfl | cases h
theorem ss_expr (hn : nComp x = true) (ha : PE X x (RE X V W fa)) : PS X (.Expr x pos) (RS X V W fun env st => (fa env st).run env fun _ st => .next env st) := by
  refine PS.imp (ps_expr ha (swap_no hn)) fun D σ H ⟨ρ, env, st, er, w, q⟩ => ?_
  exact Rdg.runE er w q fun ρ1 a st1 v H1 e1 er1 w1 r1 q1 => q1 σ H1 ρ1 (Ext.refl _ _) w1 er1
theorem ss_ret (ha : PE X x (RE X V W fa)) : PS X (.Return (some x) pos) (RS X V W fun env st => (fa env st).run env fun d st => .ret d st) := by
  refine PS.imp (ps_ret ha) fun D σ H ⟨ρ, env, st, er, w, q⟩ => ?_
  exact Rdg.runE er w q fun ρ1 a st1 v H1 e1 er1 w1 r1 q1 => q1 v H1 ρ1 (Ext.refl _ _) w1 r1
theorem ss_retN : PS X (.Return none pos) (RS X V W fun _ st => .ret .non st) :=
  PS.imp ps_retN fun D σ H ⟨ρ, env, st, er, w, q⟩ => q _ H ρ (Ext.refl _ _) w .non
theorem ss_pass : PS X (.Pass pos) (RS X V W fun env st => .next env st) := PS.imp ps_pass fun D σ H ⟨ρ, env, st, er, w, q⟩ => q σ H ρ (Ext.refl _ _) w er
theorem ss_brk : PS X (.Break pos) (RS X V W fun env st => .brk env st) := PS.imp ps_break fun D σ H ⟨ρ, env, st, er, w, q⟩ => q σ H ρ (Ext.refl _ _) w er
theorem ss_cont : PS X (.Continue pos) (RS X V W fun env st => .cont env st) := PS.imp ps_continue fun D σ H ⟨ρ, env, st, er, w, q⟩ => q σ H ρ (Ext.refl _ _) w er
theorem ss_if (hc : PT X x (RB X V W ft)) (ha : PSs X ss (RS X V W fs)) (hb : PSs X ts (RS X V W fu)) : PS X (.If x ss ts pos) (RS X V W fun env st => (ft env st).run env fun c st => if c then fs env st else fu env st) := by
  refine PS.imp (ps_if hc ha hb) fun D σ H ⟨ρ, env, st, er, w, q⟩ => ?_
  refine Rdg.runE er w q fun ρ1 a st1 v H1 e1 er1 w1 r1 q1 => ?_
  subst r1
  cases a with
  | false => exact iteF ⟨ρ1, env, st1, er1, w1, by simpa using q1⟩
  | true => exact iteT ⟨ρ1, env, st1, er1, w1, by simpa using q1⟩
theorem sss_nil {f : S → Env → Sto → SR} : PSs X [] (RS X V W fun env st => exL f [] env st) :=
  PSs.imp pss_nil fun D σ H ⟨ρ, env, st, er, w, q⟩ => q σ H ρ (Ext.refl _ _) w er
theorem sss_cons {f : S → Env → Sto → SR} {s' : S} {ss' : List S} (h1 : PS X s (RS X V W (f s'))) (h2 : PSs X ss (RS X V W fun env st => exL f ss' env st)) : PSs X (s :: ss) (RS X V W fun env st => exL f (s' :: ss') env st) := by
  refine PSs.imp (pss_cons h1 h2) fun D σ H ⟨ρ, env, st, er, w, q⟩ => ⟨ρ, env, st, er, w, ?_⟩
  have q : PostS X.K X.mg V W ρ H ((f s' env st).then fun env st => exL f ss' env st) D := q
  cases e : f s' env st with
  | next env1 st1 =>
    rw [e] at q
    exact fun σ' H' ρ' e' w' er' => ⟨ρ', env1, st1, er', w', PostS.ext e' q⟩
  | ret d st1 => rw [e] at q; exact q
  | brk env1 st1 => rw [e] at q; exact q
  | cont env1 st1 => rw [e] at q; exact q
  | exc c fs env1 st1 => rw [e] at q; exact q
  | stuck => rw [e] at q; exact q
/-- behind a loop's turn -/
theorem PostS.turn {ρ : Rho} {H : Hp} {r : SR} {D : Ends} {k : Env → Sto → SR} {N : L2.St → Hp → Prop}
    (q : PostS X.K X.mg V W ρ H (match r with
      | .next env st => k env st
      | .cont env st => k env st
      | .brk env st => .next env st
      | r => r) D)
    (hN : ∀ env st σ' H' ρ', Ext ρ H ρ' H' → Wd X.K X.mg V ρ' st H' → EnvRep X.K X.mg V ρ' H' env σ' → PostS X.K X.mg V W ρ H (k env st) D → N σ' H') : PostS X.K X.mg V W ρ H r { D with nx := N, ct := N, bk := D.nx } := by
  cases r with
  | next env st => exact fun σ' H' ρ' e w er => hN env st σ' H' ρ' e w er q
  | cont env st => exact fun σ' H' ρ' e w er => hN env st σ' H' ρ' e w er q
  | brk env st => exact q
  | ret d st => exact q
  | exc c fs env st => exact q
  | stuck => exact q
theorem ss_whl (hp : PassesOwn (model X.prog X.w) X.A X.env X.xe) (hc : PT X x (RB X V W ft)) (hb : PSs X ss (RS X V W fs)) (n : Nat) : PS X (.While x ss [] pos) (RS X V W fun env st => whlN ft fs n env st) := by
  refine PS.imp (ps_while hp hc hb) fun D σ H ⟨ρ, env, st, er, w, q⟩ => ?_
  refine ⟨fun m σ H => ∃ ρ env st, EnvRep X.K X.mg V ρ H env σ ∧ Wd X.K X.mg V ρ st H ∧ PostS X.K X.mg V W ρ H (whlN ft fs m env st) D, ⟨n, ρ, env, st, er, w, q⟩, ?_⟩
  rintro m σ H ⟨ρ, env, st, er, w, q⟩
  cases m with
  | zero => exact q.elim
  | succ m =>
    have q : PostS X.K X.mg V W ρ H ((ft env st).run env fun c st => if c then match fs env st with
      | .next env st => whlN ft fs m env st
      | .cont env st => whlN ft fs m env st
      | .brk env st => .next env st
      | r => r
      else .next env st) D := q
    refine Rdg.runE er w q fun ρ1 a st1 v H1 e1 er1 w1 r1 q1 => ?_
    subst r1
    cases a with
    | false =>
      simp only [Bool.false_eq_true, if_false] at q1
      exact iteF (q1 σ H1 ρ1 (Ext.refl _ _) w1 er1)
    | true =>
      simp only [if_true] at q1
      refine iteT ⟨fun σ H => ∃ ρ env st, EnvRep X.K X.mg V ρ H env σ ∧ Wd X.K X.mg V ρ st H ∧ PostS X.K X.mg V W ρ H (whlN ft fs m env st) D, fun σ' H' h => ⟨m, Nat.lt_succ_self m, h⟩, ρ1, env, st1, er1, w1, ?_⟩
      exact PostS.turn (k := fun env st => whlN ft fs m env st) q1 fun env2 st2 σ' H' ρ' e' w' er' q' => ⟨ρ', env2, st2, er', w', PostS.ext e' q'⟩
theorem ss_for {gi : Env → Sto → Res (List D)} {gt : D → Env → Sto → Res Env} {sl : List Nat} (hp : PassesOwn (model X.prog X.w) X.A X.env X.xe) (hc : X.calm = true) (hi : PI X tg x (RI X V W gi)) (hg : PG X tg (RT X V sl gt)) (hb : PSs X ss (RS X V W fs))
    (hs : ∀ v, foldedSetIterable x X.env v = pure v) : PS X (.For tg x ss [] pos) (RS X V W fun env st => (gi env st).run env fun xs st => forL (fun x env st => (gt x env st).still.run env fun env st => fs env st) xs env st) := by
  refine PS.imp (ps_for hp hc hi hg hb hs) fun D σ H ⟨ρ, env, st, er, w, q⟩ => ?_
  refine Rdg.runE er w q fun ρ1 ds st1 J H1 e1 er1 w1 walk q1 => ?_
  refine ⟨fun i m σ' H' => ∃ ρ' env' st', i ≤ ds.length ∧ m = ds.length - i ∧ Ext ρ1 H1 ρ' H' ∧ EnvRep X.K X.mg V ρ' H' env' σ' ∧ Wd X.K X.mg V ρ' st' H' ∧
    PostS X.K X.mg V W ρ' H' (forL (fun x env st => (gt x env st).still.run env fun env st => fs env st) (ds.drop i) env' st') D, ⟨ds.length, ρ1, env, st1, Nat.zero_le _, rfl, Ext.refl _ _, er1, w1, q1⟩, ?_⟩
  rintro i m σ' H' ⟨ρ', env', st', hi, rfl, ex, er', w', q'⟩
  obtain ⟨go, stop, yld⟩ := walk ρ' H' ex
  by_cases hlt : i < ds.length
  · refine .inr ⟨go i hlt, fun σ' H' => ∃ ρ' env' st', Ext ρ1 H1 ρ' H' ∧ EnvRep X.K X.mg V ρ' H' env' σ' ∧ Wd X.K X.mg V ρ' st' H' ∧
      PostS X.K X.mg V W ρ' H' (forL (fun x env st => (gt x env st).still.run env fun env st => fs env st) (ds.drop (i + 1)) env' st') D,
      fun σ2 H2 ⟨ρ2, env2, st2, a1, a2, a3, a4⟩ => ⟨ds.length - (i + 1), by omega, ρ2, env2, st2, by omega, rfl, a1, a2, a3, a4⟩, fun v H2 y => ?_⟩
    obtain ⟨ey, wy, d, hd, rd⟩ := yld i v H2 hlt y st' w'
    have hdrop : ds.drop i = d :: ds.drop (i + 1) := by
      rw [List.drop_eq_getElem_cons hlt]
      congr 1
      have := List.getElem?_eq_getElem hlt
      rw [this] at hd
      exact Option.some.inj hd
    rw [hdrop] at q'
    have q' := PostS.ext ey q'
    have q' : PostS X.K X.mg V W ρ' H2 (match (gt d env' st').still.run env' fun env st => fs env st with
      | .next env st => forL (fun x env st => (gt x env st).still.run env fun env st => fs env st) (ds.drop (i + 1)) env st
      | .cont env st => forL (fun x env st => (gt x env st).still.run env fun env st => fs env st) (ds.drop (i + 1)) env st
      | .brk env st => .next env st
      | r => r) D := q'
    refine ⟨ρ', d, env', st', rd, er'.ext ey, wy, ?_⟩
    cases hgt : gt d env' st' with
    | exc _ _ _ => rw [hgt] at q'; exact q'.elim
    | stuck => rw [hgt] at q'; exact q'.elim
    | ok env2 st2 =>
      rw [hgt] at q'
      simp only [Res.still_ok, Res.run_ok] at q'
      intro σ3 H3 ρ3 e3 w3 er3 _ _
      refine ⟨ρ3, env2, st2, er3, w3, ?_⟩
      exact PostS.turn (k := fun env st => forL (fun x env st => (gt x env st).still.run env fun env st => fs env st) (ds.drop (i + 1)) env st) (PostS.ext e3 q') fun env4 st4 σ4 H4 ρ4 e4 w4 er4 q4 =>
        ⟨ρ4, env4, st4, ((ex.trans ey).trans e3).trans e4, er4, w4, PostS.ext e4 q4⟩
  · have ei : i = ds.length := by omega
    subst ei
    refine .inl ⟨stop, ?_⟩
    rw [List.drop_eq_nil_of_le (Nat.le_refl _)] at q'
    exact q' σ' H' ρ' (Ext.refl _ _) w' er'
/-- target = value -/
theorem ss_asg {gt : D → Env → Sto → Res Env} {sl : List Nat} (ha : PE X x (RE X V W fa)) (hg : PG X tg (RT X V sl gt)) (hs : swapsWithSole [tg] x pos.line X.env = pure false) (hw : swappedStores [tg] x X.env = pure none)
    (h1 : (assignEach [tg] X.env).map (·.2) = [assign tg X.env]) : PS X (.Assign [tg] x pos) (RS X V W fun env st => (fa env st).run env fun d st => (gt d env st).still.run env fun env st => .next env st) := by
  refine PS.imp (ps_asg ha hg hs hw h1) fun D σ H ⟨ρ, env, st, er, w, q⟩ => ?_
  refine Rdg.runE er w q fun ρ1 d st1 v H1 e1 er1 w1 r1 q1 => ⟨ρ1, d, env, st1, r1, er1, w1, ?_⟩
  cases hgt : gt d env st1 with
  | exc _ _ _ => rw [hgt] at q1; exact q1.elim
  | stuck => rw [hgt] at q1; exact q1.elim
  | ok env2 st2 =>
    rw [hgt] at q1
    exact fun σ3 H3 ρ3 e3 w3 er3 _ _ => q1 σ3 H3 ρ3 e3 w3 er3
/-- name = [..], stored as the block is left -/
theorem ss_lc {gi : Env → Sto → Res (List D)} {gt : Env → D → Env → Sto → Res Env} {ft : Env → Env → Sto → Res Bool} {fe : Env → Env → Sto → Res D} {sl : List Nat} {rr b : Bool} {i : Nat} {y : Str} {py p0 : Pos} {elt iter : Expr} {ifs : List Expr} {scope : Scope} {own : List (Str × Nat)} (hc : X.calm = true) (hN : X.N.Nodup) (hy : X.N[i]? = some y) (hyl : X.env.scope.names.lookup y = some .local)
    (hsw : swapsWith (.ListComp elt [⟨tg, iter, ifs, 0⟩] scope p0) (some (.Name y py)) pos.line X.env = pure true) (hi : PI X tg iter (RI X V W gi)) (ok : BlkOk X.N X.env.scope scope own) (P : CompOk X V b sl tg elt ifs scope gt ft fe)
    (hs : ∀ x, foldedSetIterable iter X.env x = pure x) (hsl : ∀ j ∈ sl, j ∈ own.map (·.2)) :
    PS X (.Assign [.Name y py] (.ListComp elt [⟨tg, iter, ifs, 0⟩] scope p0) pos) (RS X V W fun env st => (compR gi gt ft fe (own.map (·.2)) rr env st).run env fun d st => .next (env.set i (some d)) st) := by
  refine PS.imp (ps_lcS hc hN hy hyl hsw hi ok (fun σ => P.parts σ) hs) fun D σ H ⟨ρ, env, st, er, w, q⟩ => ?_
  have z : RE X V W (compR gi gt ft fe (own.map (·.2)) rr) σ H fun v H1 => gName i v σ H1 D.nx := by
    refine Rdg.runE er w q fun ρ1 d st1 v H1 e1 er1 w1 r1 q1 => ?_
    exact q1 _ H1 ρ1 (Ext.refl _ _) w1 (er1.set r1 i)
  exact lc_read hsl z
theorem ss_par2 {i j : Nat} {y z : Str} {py pz pt p2 : Pos} {kt k2 : Nat} {fl : Env → Sto → Res (List D)} (hc : X.calm = true) (hN : X.N.Nodup) (hi : X.N[i]? = some y) (hj : X.N[j]? = some z) (hij : i ≠ j) (hy : X.env.scope.names.lookup y = some .local) (hz : X.env.scope.names.lookup z = some .local)
    (ha : PA X [l, r] (RL X V W fl)) (hw : swappedStores [.Tuple [.Name y py, .Name z pz] kt pt] (.Tuple [l, r] k2 p2) X.env = pure (some [y, z])) (hl : ∀ env st ds st', fl env st = .ok ds st' → ds.length = 2) :
    PS X (.Assign [.Tuple [.Name y py, .Name z pz] kt pt] (.Tuple [l, r] k2 p2) pos) (RS X V W fun env st => (fl env st).run env fun ds st => .next (setAll [i, j] ds env) st) := by
  refine PS.imp (ps_par hc hN hi hj hij hy hz ha hw rfl) fun D σ H ⟨ρ, env, st, er, w, q⟩ => ?_
  dsimp only at q
  cases e : fl env st with
  | exc c fs st1 =>
    rw [e] at q
    refine ⟨ρ, env, st, er, w, ?_⟩
    rw [e]
    exact fun cls dd H1 ρ1 e1 w1 x => q cls dd σ H1 ρ1 e1 w1 (er.ext e1) x
  | stuck => rw [e] at q; exact q.elim
  | ok ds st1 =>
    have hlen := hl _ _ _ _ e
    rw [e] at q
    refine ⟨ρ, env, st, er, w, ?_⟩
    rw [e]
    intro vs H1 ρ1 e1 w1 r1
    match ds, hlen, r1, q with
    | [a, b], _, .cons ra (.cons rb .nil), q =>
      exact ⟨_, _, rfl, q _ H1 ρ1 e1 w1 (((er.ext e1).set ra i).set rb j)⟩
theorem ss_par3 {i j k : Nat} {x1 x2 x3 : Str} {p1 p2 p3 pt p4 : Pos} {kt k2 : Nat} {a1 a2 a3 : Expr} {fl : Env → Sto → Res (List D)} (hc : X.calm = true) (hN : X.N.Nodup) (hi : X.N[i]? = some x1) (hj : X.N[j]? = some x2) (hk : X.N[k]? = some x3) (hij : i ≠ j) (hik : i ≠ k) (hjk : j ≠ k)
    (h1 : X.env.scope.names.lookup x1 = some .local) (h2 : X.env.scope.names.lookup x2 = some .local) (h3 : X.env.scope.names.lookup x3 = some .local)
    (ha : PA X [a1, a2, a3] (RL X V W fl)) (hw : swappedStores [.Tuple [.Name x1 p1, .Name x2 p2, .Name x3 p3] kt pt] (.Tuple [a1, a2, a3] k2 p4) X.env = pure (some [x1, x2, x3])) (hl : ∀ env st ds st', fl env st = .ok ds st' → ds.length = 3) :
    PS X (.Assign [.Tuple [.Name x1 p1, .Name x2 p2, .Name x3 p3] kt pt] (.Tuple [a1, a2, a3] k2 p4) pos) (RS X V W fun env st => (fl env st).run env fun ds st => .next (setAll [i, j, k] ds env) st) := by
  refine PS.imp (ps_par3 hc hN hi hj hk hij hik hjk h1 h2 h3 ha hw rfl) fun D σ H ⟨ρ, env, st, er, w, q⟩ => ?_
  dsimp only at q
  cases e : fl env st with
  | exc c fs st1 =>
    rw [e] at q
    refine ⟨ρ, env, st, er, w, ?_⟩
    rw [e]
    exact fun cls dd H1 ρ1 e1 w1 x => q cls dd σ H1 ρ1 e1 w1 (er.ext e1) x
  | stuck => rw [e] at q; exact q.elim
  | ok ds st1 =>
    have hlen := hl _ _ _ _ e
    rw [e] at q
    refine ⟨ρ, env, st, er, w, ?_⟩
    rw [e]
    intro vs H1 ρ1 e1 w1 r1
    match ds, hlen, r1, q with
    | [a, b, c], _, .cons ra (.cons rb (.cons rc .nil)), q =>
      exact ⟨_, _, _, rfl, q _ H1 ρ1 e1 w1 ((((er.ext e1).set ra i).set rb j).set rc k)⟩
end
end Mu

end
section
set_option linter.all false
set_option Elab.async false
/-! raise, try. -/
namespace Mu
open PySem PySem.Spec PyProof.Rows L2
section
variable {C : Cf} {c : Ct} {W : WX} {X : Cx} {V : Vw}
/-! ### raise -/
theorem ss_raise (G : Good C c W X V) (hr30 : 30 ≤ C.k) {k : Nat} {y : Str} {x : Expr} {p p2 pos : Pos} {fa : Env → Sto → Res D} (hk : c.clN k = some y) (hsx : (V.T.xi k).isSome = true) (hg : c.gl y = true) (ho : okName y = true) (hs : nStar x = true) (he : PE X x (RE X V W fa)) :
    PS X (.Raise (some (.Call (.Name y p) [x] [] p2)) none pos) (RS X V W (raiseS (C.T.xi k) k fa)) := by
  obtain ⟨o1, o2, o3⟩ := okName_of ho
  unfold Ct.clN at hk
  rw [G.T2] at hk
  obtain ⟨cl, hcl, rfl⟩ := Option.map_eq_some_iff.mp hk
  have hxi : C.T.xi k = cl.exc := by unfold Tab.xi; rw [G.T, hcl]
  cases hx : cl.exc with
  | none =>
    rw [← G.T, hxi, hx] at hsx
    cases hsx
  | some xi =>
    obtain ⟨a, hm, hR⟩ := G.cls k cl hcl
    have room : Room (C.k - 30 + 30) X.A := by rw [Nat.sub_add_cancel hr30]; exact G.room
    have P := hR xi hx X (C.k - 30) cl.name x _ p p2 rfl rfl rfl rfl G.cx.calm room G.cx.gd (G.glOk hg) hm he o1 hs
    refine PS.imp (ps_raise G.cx.calm G.tk P) fun D σ H z => ?_
    obtain ⟨ρ, env, st, er, w, q⟩ := z
    unfold raiseS at q
    rw [hxi, hx] at q
    refine Rdg.runE er w q fun ρ1 d st1 v H1 e1 er1 w1 r1 q1 => ?_
    cases hf : xi.fld with
    | none =>
      have e : raiseD (some xi) d = some none := by
        show (match xi.fld with | none => some none | some _ => _ : Option (Option Mu.D)) = _
        rw [hf]
      rw [e] at q1
      exact q1 _ _ σ _ ρ1 (Ext.refl _ _) w1 er1 ⟨cl, a, xi, hcl, hm, rfl, hx, fun d z => by cases z⟩
    | some f =>
      have e : raiseD (some xi) d = if xi.shw && !showOk d then none else some (some d) := by
        show (match xi.fld with | none => some none | some _ => if xi.shw && !showOk d then none else some (some d) : Option (Option Mu.D)) = _
        rw [hf]
      rw [e] at q1
      by_cases hs : (xi.shw && !showOk d) = true
      · rw [if_pos hs] at q1
        exact q1.elim
      rw [if_neg hs] at q1
      refine ⟨fun H2 hk hs1 => ?_, fun dd nd => ?_⟩
      · have ok : showOk d = true := by
          rw [hs1, Bool.true_and, Bool.not_eq_true', Bool.not_eq_false] at hs
          exact hs
        unfold showOk at ok
        split at ok
        · rename_i sh hsh
          refine ⟨V, ρ1, d, sh, r1.mv ⟨rfl, fun _ _ h => h, fun i a oa h q => ⟨oa, h, q⟩, fun a o h _ n => ⟨hk a o h, n⟩⟩, hsh, of_decide_eq_true ok⟩
        · cases ok
      · refine q1 _ _ σ _ ρ1 (Ext.fresh nd) (w1.new nd) (er1.ext (Ext.fresh nd)) ⟨cl, a, xi, hcl, hm, rfl, hx, fun d' z => ?_⟩
        cases z
        exact ⟨f, dd, v, hf, rfl, upd_same, w1.fresh nd, r1.ext (Ext.fresh nd)⟩

/-! ### except suites -/
def litV : D → L2.V
  | .bl b => .bl b
  | .int i => .int i
  | .str x => .str x
  | _ => .non
theorem pe_lit {d : D} {v : Const} {kk : Nat} {pos : Pos} (h : litB d v = true) : PE X (.Constant v kk pos) (tC (litV d)) ∧ ∀ K mg V ρ H, Rep K mg V ρ H d (litV d) := by
  unfold litB at h
  split at h
  · exact ⟨pe_non, fun _ _ _ _ _ => .non⟩
  · have e := beq_iff_eq.mp h
    subst e
    exact ⟨pe_bl, fun _ _ _ _ _ => .bl _⟩
  · have e := of_decide_eq_true h
    subst e
    exact ⟨pe_int, fun _ _ _ _ _ => .int _⟩
  · have e := of_decide_eq_true h
    subst e
    exact ⟨pe_str, fun _ _ _ _ _ => .str _⟩
  · cases h
/-- the reading of a suite -/
def tSuite (K : PySem.W.Frag) (mg : Str → Option Value) (V : Vw) (nm : Option Nat) (a : Addr) (cls : Value) (d : Option Addr) : Cb → TS
  | .ret dv => fun D σ H => D.rt (litV dv) H
  | .retR pre n => fun D σ H => ∃ i, nm = some i ∧ σ[i]? = some (some (.ref a)) ∧ ∃ C dd x dv s ρ st, cls = .ref C ∧ d = some dd ∧ XfC K C ∧ PySem.W.findIn K (.ref C) (V.att n) = some none ∧ H dd = some (.xd [(V.att n, x)]) ∧
      Wd K mg V ρ st H ∧ Rep K mg V ρ H dv x ∧ reprD dv = some s ∧ pre.length + s.length ≤ sizeLine ∧ ∀ H', Ext ρ H ρ H' → Wd K mg V ρ st H' → D.rt (.str (pre ++ s)) H'
theorem attB_name {y g : Str} {p : Pos} {env : PySem.Env} : attributeBase (.Name y p) g env (eval (.Name y p) env) = eval (.Name y p) env := rfl
theorem suite_ok (G : Good C c W X V) {nm : Option Str} {ni : Option Nat} {b : Cb} {su : List Stmt} (h : chkB c nm b su = true) (hn : ∀ i n, ni = some i → nm = some n → c.N[i]? = some n ∧ c.kind n = some .local) (hnn : ni.isSome = nm.isSome)
    {a : Addr} {oe : Obj} {cls : Value} {d : Option Addr} {pn : List (Addr × Obj)} (hz : Zc cls d oe) (hf : ∃ vs, oe.data = .fields vs) : PSs (X.suite a ((a, oe) :: pn)) su (tSuite X.K X.mg V ni a cls d b) := by
  unfold chkB at h
  split at h
  · obtain ⟨q, _⟩ := pe_lit (X := X.suite a ((a, oe) :: pn)) h
    exact pss_one (PS.imp (ps_ret q) fun D σ H z => z)
  · rename_i p f q _ _ y _ z _ g _ _ _ _
    simp only [Bool.and_eq_true, decide_eq_true_eq] at h
    obtain ⟨⟨⟨⟨⟨rfl, rfl⟩, hg⟩, hnm⟩, hat⟩, hz2⟩ := h
    obtain ⟨i, hi⟩ : ∃ i, ni = some i := by
      rw [hnm] at hnn
      exact Option.isSome_iff_exists.mp hnn
    obtain ⟨hN, hk⟩ := hn i z hi hnm
    obtain ⟨o1, o2, o3⟩ := okName_of hz2
    rw [G.T2] at hat
    have hatt : V.att f = g := by unfold Vw.att; rw [hat]; rfl
    have hxf : ∀ {p1 p2 : Pos}, PE (X.suite a ((a, oe) :: pn)) (.Attribute (.Name z p1) g p2) (fun σ H Q => ∃ C, XfC X.K C ∧ PySem.W.findIn X.K (.ref C) g = some none ∧ tXf a cls d C g (tVar i) σ H Q) := fun {p1 p2} =>
      ⟨fun pins s σ H Q I ⟨C, T, hno, z⟩ => (pe_xf T hno hz hf (pe_var (X := X.suite a ((a, oe) :: pn)) (by show X.N[i]? = _; rw [G.N]; exact hN) (.inl (by show X.env.scope.names.lookup _ = _; rw [G.sc]; exact hk)) o1 o2)).run pins s σ H Q I z⟩
    have hrep := fun {p1 p2 p3 p4 : Pos} => pe_callB (X := X.suite a ((a, oe) :: pn)) (p := p3) (pos := p4) (blt_reprG (X := X.suite a ((a, oe) :: pn)) (V := V) G.cx.gd G.room.units) (show Gl (X.suite a ((a, oe) :: pn)) "repr" from G.glOk hg) (G.blt _ (by decide +kernel)) (by decide +kernel)
      (pa_cons (hxf (p1 := p1) (p2 := p2)) pa_nil rfl) (by decide) rfl rfl rfl
    refine pss_one (PS.imp (ps_ret (pe_op op_add_str pe_str hrep)) fun D σ H z => ?_)
    obtain ⟨j, hj, hσ, C, dd, x, dv, s, ρ, st, rfl, rfl, T, hno, hH, w, rd, hs, hl, q⟩ := z
    rw [hi] at hj
    cases hj
    rw [hatt] at hno hH
    refine ⟨C, T, hno, .ref a, hσ, rfl, rfl, dd, _, x, rfl, hH, by simp [List.lookup], ρ, st, [dv], .str s, w, .cons rd .nil, ?_, fun v H' e' w' r' => ?_⟩
    · show (reprD dv).map _ = _
      rw [hs]
      rfl
    · cases r'
      exact ⟨_, _, rfl, rfl, hl, q H' e' w'⟩
  · cases h
end
end Mu

end
section
set_option linter.all false
set_option Elab.async false
/-! try; statements are sound. -/
namespace Mu
open PySem PySem.Spec PyProof.Rows L2
section
variable {C : Cf} {c : Ct} {W : WX} {X : Cx} {V : Vw}
theorem chkB_ret {nm : Option Str} {d : Mu.D} {su : List Stmt} (h : chkB c nm (.ret d) su = true) : ∃ v, litB d v = true := by
  unfold chkB at h
  split at h
  all_goals first
    | (have e := ‹Cb.ret d = Cb.ret _›; injection e with e; subst e; exact ⟨_, h⟩)
    | exact absurd ‹Cb.ret d = Cb.retR _ _› (fun z => by cases z)
    | cases h
theorem chkB_retR {pre : Str} {n : Nat} {su : List Stmt} (h : chkB c none (.retR pre n) su = true) : False := by
  unfold chkB at h
  split at h
  all_goals first
    | exact absurd ‹Cb.retR pre n = Cb.ret _› (fun z => by cases z)
    | (simp at h; done)
    | cases h
/-- within a try's body -/
theorem Good.tr (G : Good C c W X V) {W' : WX} (pn : List (Addr × Obj)) (xe : Value → Shared → Prop) (tk : Takes (X.tr pn xe) W') : Good C c W' (X.tr pn xe) V :=
  ⟨G.N, G.sc, G.fn, G.nd, G.T, G.T2, ⟨G.cx.calm, G.cx.gd, G.cx.seer, G.cx.tree, G.cx.plain⟩, G.room, G.rm, tk, G.frs, fun h => ⟨(G.lam h).1, ⟨(G.lam h).2.fs, (G.lam h).2.ex⟩⟩, G.call, G.nof, G.clo, G.con, G.blt, G.cls, G.exm, G.xf⟩
/-- the clauses -/
def clsOf (K : PySem.W.Frag) (mg : Str → Option Value) (V : Vw) (z : Cz) : Cls :=
  ⟨((V.T.cls[z.cls]?).bind fun k => mg k.name).getD .none, z.nm, fun a cls d => tSuite K mg V z.nm a cls d z.bd⟩
theorem clsOk_of (G : Good C c W X V) : ∀ (zs : List Cz) (hs : List ExceptHandler), chkZs c zs hs = true → ClsOk X hs (zs.map (clsOf X.K X.mg V))
  | [], [], _ => .nil
  | [], _ :: _, h => by cases h
  | _ :: _, [], h => by cases h
  | z :: zs, h0 :: hs, h => by
    unfold chkZs at h
    rw [Bool.and_eq_true] at h
    have rest := clsOk_of G zs hs h.2
    obtain ⟨h1, _⟩ := h
    unfold chkZ at h1
    split at h1
    · rename_i y py nm su ph
      simp only [Bool.and_eq_true, decide_eq_true_eq] at h1
      obtain ⟨⟨⟨⟨⟨hy, hx⟩, hg⟩, ho⟩, hb⟩, hn⟩ := h1
      obtain ⟨o1, o2, o3⟩ := okName_of ho
      unfold Ct.clN at hy
      rw [G.T2] at hy
      obtain ⟨k, hk, rfl⟩ := Option.map_eq_some_iff.mp hy
      obtain ⟨D, hm, _⟩ := G.cls z.cls k hk
      have hc : (clsOf X.K X.mg V z).c = .ref D := by
        unfold clsOf
        simp [hk, hm]
      have hN : Names X k.name (clsOf X.K X.mg V z).c := by rw [hc]; exact ⟨G.glOk hg, o1, .inl hm⟩
      cases hznm : z.nm with
      | none =>
        cases nm with
        | some _ => rw [hznm] at hn; cases hn
        | none =>
          have q : ∀ (a : Addr) (oe : Obj) (cls : Value) (d : Option Addr) (pn : List (Addr × Obj)), Zc cls d oe → (∃ vs, oe.data = .fields vs) → PSs (X.suite a ((a, oe) :: pn)) su (tSuite X.K X.mg V z.nm a cls d z.bd) := fun a oe cls d pn hz hf =>
            suite_ok G hb (fun i n e _ => by rw [hznm] at e; cases e) (by rw [hznm]; rfl) hz hf
          cases su with
          | nil => exact absurd hb (by unfold chkB; cases z.bd <;> simp)
          | cons s0 su =>
            have e : clsOf X.K X.mg V z = ⟨(clsOf X.K X.mg V z).c, none, fun a cls d => tSuite X.K X.mg V z.nm a cls d z.bd⟩ := by
              show (⟨_, z.nm, _⟩ : Cls) = _
              rw [hznm]
              rfl
            rw [List.map_cons, e]
            exact .bare hN q rest
      | some i =>
        cases nm with
        | none => rw [hznm] at hn; cases hn
        | some n =>
          rw [hznm] at hn
          simp only [Bool.and_eq_true, decide_eq_true_eq] at hn
          have q : ∀ (a : Addr) (oe : Obj) (cls : Value) (d : Option Addr) (pn : List (Addr × Obj)), Zc cls d oe → (∃ vs, oe.data = .fields vs) → PSs (X.suite a ((a, oe) :: pn)) su (tSuite X.K X.mg V z.nm a cls d z.bd) := fun a oe cls d pn hz hf =>
            suite_ok G hb (fun j m e1 e2 => by rw [hznm] at e1; cases e1; cases e2; exact hn) (by rw [hznm]; rfl) hz hf
          cases su with
          | nil => exact absurd hb (by unfold chkB; cases z.bd <;> simp)
          | cons s0 su =>
            have e : clsOf X.K X.mg V z = ⟨(clsOf X.K X.mg V z).c, some i, fun a cls d => tSuite X.K X.mg V z.nm a cls d z.bd⟩ := by
              show (⟨_, z.nm, _⟩ : Cls) = _
              rw [hznm]
              rfl
            rw [List.map_cons, e]
            exact .named hN (by rw [G.N]; exact hn.1) (by show X.env.scope.names.lookup n = _; rw [G.sc]; exact hn.2) q rest
    · cases h1
/-- what is caught, and what passes on -/
theorem catch_ok (G : Good C c W X V) {D : Ends} {k : Nat} {v : Option Mu.D} {env1 : Env} {st1 : Sto} : ∀ (zs : List Cz) (hs : List ExceptHandler), chkZs c zs hs = true → ∀ {ρ : Rho} {H : Hp} {σ : L2.St} {cls : Value} {dd : Option Addr}, EnvRep X.K X.mg V ρ H env1 σ → Wd X.K X.mg V ρ st1 H → ExR X.K X.mg V ρ H k v cls dd →
    PostS X.K X.mg V W ρ H (catchD V.T k v env1 st1 zs) D → wCls X.K W D (zs.map (clsOf X.K X.mg V)) cls dd σ H
  | [], _, _, ρ, H, σ, cls, dd, er, w, x, q => q cls dd σ H ρ (Ext.refl _ _) w er x
  | _ :: _, [], h, _, _, _, _, _, _, _, _, _ => by cases h
  | z :: zs, h0 :: hs, h, ρ, H, σ, cls, dd, er, w, x, q => by
    unfold chkZs at h
    rw [Bool.and_eq_true] at h
    obtain ⟨h1, h2⟩ := h
    unfold chkZ at h1
    split at h1
    · rename_i y py nm su ph
      simp only [Bool.and_eq_true, decide_eq_true_eq] at h1
      obtain ⟨⟨⟨⟨⟨hy, hx⟩, hg⟩, ho⟩, hb⟩, hn⟩ := h1
      unfold Ct.clN at hy
      rw [G.T2] at hy hx
      obtain ⟨k', hk', rfl⟩ := Option.map_eq_some_iff.mp hy
      obtain ⟨D', hm', _⟩ := G.cls z.cls k' hk'
      have hx' : k'.exc ≠ none := fun e => by
        unfold Tab.xi at hx
        rw [hk'] at hx
        simp only [e] at hx
        cases hx
      have hc : (clsOf X.K X.mg V z).c = .ref D' := by
        unfold clsOf
        simp [hk', hm']
      obtain ⟨kk, Ca, xi, a1, a2, a3, a0, a4⟩ := id x
      refine ⟨V.T.isSub k z.cls, ?_, fun hb1 a na => ?_, fun hb0 => ?_⟩
      · rw [hc, a3]
        exact G.exm k z.cls kk k' Ca D' xi a1 hk' a2 hm' a0 hx'
      · have q1 : PostS X.K X.mg V W ρ H (if V.T.isSub k z.cls then if nmOk z.nm env1 then match cbD (V.T.xi k) z.bd v with
          | some d => .ret d st1
          | none => .stuck else .stuck else catchD V.T k v env1 st1 zs) D := q
        rw [if_pos hb1] at q1
        by_cases hnm : nmOk z.nm env1 = true
        rotate_left
        · rw [if_neg hnm] at q1
          exact q1.elim
        rw [if_pos hnm] at q1
        have hxi : V.T.xi k = some xi := by unfold Tab.xi; rw [a1]; exact a0
        have key : ∀ (D1 : Ends) (σ1 : L2.St), D1.rt = D.rt → (∀ i, z.nm = some i → σ1[i]? = some (some (.ref a))) → tSuite X.K X.mg V z.nm a cls dd z.bd D1 σ1 H := by
          intro D1 σ1 hD hσ
          unfold tSuite
          cases hbd : z.bd with
          | ret dv =>
            rw [hbd] at q1 hb
            obtain ⟨dv', hl⟩ := chkB_ret hb
            have rl := (pe_lit (X := X) (kk := 0) (pos := default) hl).2 X.K X.mg V ρ H
            show D1.rt _ _
            rw [hD]
            have q1 : PostS X.K X.mg V W ρ H (match (if dv.low 0 then some dv else none : Option Mu.D) with
              | some d => SR.ret d st1
              | none => SR.stuck) D := q1
            by_cases hlo : dv.low 0 = true
            · rw [if_pos hlo] at q1
              exact q1 _ H ρ (Ext.refl _ _) w rl
            · rw [if_neg hlo] at q1
              exact q1.elim
          | retR pre n =>
            rw [hbd, hxi] at q1
            cases hz : z.nm with
            | none =>
              rw [hbd] at hb
              cases nm with
              | some _ => rw [hz] at hn; cases hn
              | none => exact (chkB_retR hb).elim
            | some i =>
              have q2 : PostS X.K X.mg V W ρ H (match (match (if xi.fld = some n then v else none : Option Mu.D) with
                | some d => match reprD d with
                  | some s => if pre.length + s.length ≤ sizeLine then some (Mu.D.str (pre ++ s)) else none
                  | none => none
                | none => none) with
                | some d => SR.ret d st1
                | none => SR.stuck) D := q1
              by_cases hf : xi.fld = some n
              · rw [if_pos hf] at q2
                cases v with
                | none => exact q2.elim
                | some dv =>
                  simp only at q2
                  cases hr : reprD dv with
                  | none => rw [hr] at q2; exact q2.elim
                  | some s =>
                    rw [hr] at q2
                    simp only at q2
                    by_cases hl : pre.length + s.length ≤ sizeLine
                    · rw [if_pos hl] at q2
                      obtain ⟨f, ad, xv, b1, b2, b3, b4, b5⟩ := a4 dv rfl
                      rw [hf] at b1
                      cases b1
                      obtain ⟨T, hno⟩ := G.xf k kk Ca xi n a1 a2 a0 hf
                      refine ⟨i, rfl, hσ i hz, Ca, ad, xv, dv, s, ρ, st1, a3, b2, T, hno, b3, w, b5, hr, hl, fun H' e' w' => ?_⟩
                      rw [hD]
                      exact q2 _ H' ρ e' w' (.str _)
                    · rw [if_neg hl] at q2
                      exact q2.elim
              · rw [if_neg hf] at q2
                exact q2.elim
        cases hz : z.nm with
        | none =>
          show (match z.nm with | none => _ | some i => _ : Prop)
          rw [hz]
          exact key D σ rfl fun i e => by rw [hz] at e; cases e
        | some i =>
          show (match z.nm with | none => _ | some i => _ : Prop)
          rw [hz]
          refine key (Ends.gone D i) _ rfl fun j e => ?_
          rw [hz] at e
          cases e
          have hi : i < σ.length := by
            rw [hz] at hnm
            rw [← er.len]
            exact of_decide_eq_true hnm
          exact List.getElem?_set_self hi
      · have q1 : PostS X.K X.mg V W ρ H (if V.T.isSub k z.cls then if nmOk z.nm env1 then match cbD (V.T.xi k) z.bd v with
          | some d => .ret d st1
          | none => .stuck else .stuck else catchD V.T k v env1 st1 zs) D := q
        rw [if_neg (by rw [hb0]; simp)] at q1
        exact catch_ok G zs hs h2 er w x q1
    · cases h1
theorem ss_try (G : Good C c W X V) (hst : X.stack = X.env :: X.outer) (hfr : X.env.frame = some X.env.locals) {fs : Env → Sto → SR} {body : List Stmt} {h : ExceptHandler} {hs : List ExceptHandler} {cs : List Cz} {pos : Pos}
    (hb : ∀ (W' : WX) (pn : List (Addr × Obj)) (xe : Value → Shared → Prop), Takes (X.tr pn xe) W' → PassesOwn (model X.prog X.w) X.A X.env xe → PSs (X.tr pn xe) body (RS (X.tr pn xe) V W' fs)) (hc : chkZs c cs (h :: hs) = true) :
    PS X (.Try body (h :: hs) [] [] pos) (RS X V W fun env st => (fs env st).catch C.T cs) := by
  refine PS.imp (ps_try (tb := fun W' => RS X V W' fs) hst hfr G.nd G.tk (fun W' pn xe tk hp => hb W' pn xe tk hp) (clsOk_of G cs (h :: hs) hc)) fun D σ H ⟨ρ, env, st, er, w, q⟩ => ⟨ρ, env, st, er, w, ?_⟩
  dsimp only at q
  cases e : fs env st with
  | exc k v env1 st1 =>
    rw [e] at q
    have q : PostS X.K X.mg V W ρ H (catchD C.T k v env1 st1 cs) D := q
    rw [G.T] at q
    exact fun cls dd σ' H' ρ' e' w' er' x => catch_ok G cs (h :: hs) hc er' w' x (PostS.ext e' q)
  | next env1 st1 => rw [e] at q; exact q
  | ret d st1 => rw [e] at q; exact q
  | brk env1 st1 => rw [e] at q; exact q
  | cont env1 st1 => rw [e] at q; exact q
  | stuck => rw [e] at q; exact q
end
section
variable {C : Cf} {c : Ct} {W : WX} {X : Cx} {V : Vw} {n : Nat}
theorem sw_else {g x : Expr} {l : Nat} {env : PySem.Env} (hs : env.scope = c.sc) (hk : c.sc.kind = .function) (h1 : nSetDict x = true) (h2 : lcHot c g x = false) : swapsWithSole [g] x l env = pure false := by
  show swapsWith x (some g) l env = pure false
  cases x with
  | SetComp _ _ _ _ => cases h1
  | DictComp _ _ _ _ _ => cases h1
  | ListComp a b sc p0 =>
    cases g with
    | Name y py =>
      have hb : env.blockKind = .function := by unfold Env.blockKind; rw [hs, hk]; rfl
      have hkind : env.kindOf y = c.kind y := by unfold Env.kindOf Ct.kind; rw [hs]
      unfold lcHot at h2
      unfold swapsWith
      simp only [hb, hkind, Expr.pos]
      have e : ((ScopeKind.function == ScopeKind.function) : Bool) = true := rfl
      show (pure (_ && _ && _ && _) : Sem Bool) = _
      rw [show (ScopeKind.function == ScopeKind.function) = true from rfl, Bool.true_and]
      exact congrArg (fun b => (pure b : Sem Bool)) h2
    | _ => rfl
  | _ => rfl
theorem sw_hot {y : Str} {py p0 : Pos} {x : Expr} {gs : List Comprehension} {sc : Scope} {l : Nat} {env : PySem.Env} (hs : env.scope = c.sc) (hk : c.sc.kind = .function) (h2 : lcHot c (.Name y py) (.ListComp x gs sc p0) = true) :
    swapsWith (.ListComp x gs sc p0) (some (.Name y py)) l env = pure true ∧ env.scope.names.lookup y = some .local := by
  unfold lcHot at h2
  simp only [Bool.and_eq_true, Bool.not_eq_true', beq_iff_eq] at h2
  obtain ⟨⟨h1, h2⟩, h3⟩ := h2
  have hy : env.scope.names.lookup y = some .local := by rw [hs]; exact h1
  exact ⟨sw_true (by rw [hs]; exact hk) hy (by rw [h2]; exact beq_self_eq_true _) h3, hy⟩
theorem sp_none {g x : Expr} {env : PySem.Env} (hs : env.scope = c.sc) (hk : c.sc.kind = .function) (h : swNone c g x = true) : swappedStores [g] x env = pure none := by
  have hb : env.blockKind = .function := by unfold Env.blockKind; rw [hs, hk]; rfl
  cases g with
  | Tuple ts a b =>
    cases x with
    | Tuple vs a' b' =>
      exact swP_of hb hs (by unfold swNone at h; exact beq_iff_eq.mp h)
    | _ => rfl
  | List _ _ => cases h
  | _ => rfl
theorem pnames_of : ∀ {is : List Nat} {ts : List Expr} {ms : List Str}, pnames c is ts = some ms → ts.length = is.length ∧ ms.length = is.length
  | [], [], ms, h => by cases h; exact ⟨rfl, rfl⟩
  | [], _ :: _, ms, h => by cases h
  | i :: is, [], ms, h => by cases h
  | i :: is, t :: r, ms, h => by
    cases t with
    | Name y p =>
      unfold pnames at h
      split at h
      · cases e : pnames c is r with
        | none => rw [e] at h; cases h
        | some ns =>
          rw [e] at h
          cases h
          have q := pnames_of e
          simp [q.1, q.2]
      · cases h
    | _ => cases h
theorem pnames_cons {i : Nat} {is : List Nat} {t : Expr} {r : List Expr} {ms : List Str} (h : pnames c (i :: is) (t :: r) = some ms) : ∃ y p ns, t = .Name y p ∧ ms = y :: ns ∧ c.N[i]? = some y ∧ c.kind y = some .local ∧ pnames c is r = some ns := by
  cases t with
  | Name y p =>
    unfold pnames at h
    split at h
    · rename_i h1
      cases e : pnames c is r with
      | none => rw [e] at h; cases h
      | some ns =>
        rw [e] at h
        cases h
        exact ⟨y, p, ns, rfl, rfl, h1.1, h1.2, rfl⟩
    · cases h
  | _ => cases h
theorem snd_comp_rule (G : Good C c W X V) (m k : Nat) {i : Nat} {r : Bool} {el : E} {tg : Tg} {it : Iz} {cond : Option E} {own : List (Str × Nat)} {y : Str} {py p0 pos : Pos} {x t j : Expr} {ifs : List Expr} {scope : Scope} (hs : c.sc.kind = .function)
    (hot : lcHot c (.Name y py) (.ListComp x [⟨t, j, ifs, 0⟩] scope p0) = true) (hi : c.N[i]? = some y) (h : chkE c (k + 1) (.comp r el tg it cond own) (.ListComp x [⟨t, j, ifs, 0⟩] scope p0) = true) :
    PS X (.Assign [.Name y py] (.ListComp x [⟨t, j, ifs, 0⟩] scope p0) pos) (RS X V W fun env st => (ev C (m + 1) (.comp r el tg it cond own) env st).run env fun d st => .next (env.set i (some d)) st) := by
  unfold chkE at h
  simp only [Bool.and_eq_true] at h
  obtain ⟨⟨⟨⟨⟨⟨h1, h2⟩, h3⟩, h4⟩, h5⟩, h6⟩, h7⟩ := h
  have S := snd k
  obtain ⟨sw, hy⟩ := sw_hot (l := pos.line) G.sc hs hot
  refine ss_lc (sl := tgS tg) (b := !c.L.isEmpty) (gi := fun env st => itD (fun e st => ev C m e env st) it st) (gt := fun e0 x env st => tgD (fun e env st => ev (C.blk e0) m e env st) tg x env st) (ft := fun e0 => condT (fun c env st => evT (C.blk e0) m c env st) cond) (fe := fun e0 env st => ev (C.blk e0) m el env st)
    G.cx.calm G.nd (by rw [G.N]; exact hi) hy sw (S.i G m t it j h2) (blkOk_by (by rw [G.N, G.sc]; exact h1)) ⟨fun σ e0 s H a cl fp at_ => S.g (G.blk s H scope a cl fp σ e0 at_) m tg t h4 _ fun j hj => hj, fun σ e0 s H a cl fp at_ => ?_, fun σ e0 s H a cl fp at_ => S.e (G.blk s H scope a cl fp σ e0 at_) m el x h7⟩ (set_of h3 _) ?_
  · split at h6
    · refine ⟨fun p s σ H Q I z => pts_nil.run p s σ H Q I ?_⟩
      obtain ⟨ρ, env, st, er, w, q⟩ := z
      exact Post.here (st := st) q w rfl
    · exact ⟨fun p s' σ2 H' Q I z => (pts_one (S.t (G.blk s H scope a cl fp σ e0 at_) m _ _ h6)).run p s' σ2 H' Q I z⟩
    · cases h6
  · intro j hj
    exact List.contains_iff_mem.mp (List.all_eq_true.mp h5 j hj)
theorem snd_asg (G : Good C c W X V) (m k : Nat) {g : Tg} {e : E} {t x : Expr} {pos : Pos} (hs : c.sc.kind = .function) (h1 : nStar t = true) (h2 : nSetDict x = true) (h3 : lcHot c t x = false) (h4 : swNone c t x = true) (h5 : chkG c k g t = true) (h6 : chkE c k e x = true) :
    PS X (.Assign [t] x pos) (RS X V W fun env st => (ev C m e env st).run env fun d st => (tgD (fun e env st => ev C m e env st) g d env st).still.run env fun env st => .next env st) := by
  refine ss_asg (sl := tgS g) (gt := fun x env st => tgD (fun e env st => ev C m e env st) g x env st) ((snd k).e G m e x h6) ((snd k).g G m g t h5 _ fun j hj => hj) (sw_else G.sc hs h2 h3) (sp_none G.sc hs h4) ?_
  rw [assign_of h1]
  rfl

structure SndS (c : Ct) (n : Nat) : Prop where
  s : ∀ {C : Cf} {W : WX} {X : Cx} {V : Vw} (_ : Good C c W X V) (_ : PassesOwn (model X.prog X.w) X.A X.env X.xe) (_ : X.stack = X.env :: X.outer) (_ : X.env.frame = some X.env.locals) (m : Nat) (s : S) (t : Stmt), chkS c n s t = true → PS X t (RS X V W fun env st => ex C m s env st)
  l : ∀ {C : Cf} {W : WX} {X : Cx} {V : Vw} (_ : Good C c W X V) (_ : PassesOwn (model X.prog X.w) X.A X.env X.xe) (_ : X.stack = X.env :: X.outer) (_ : X.env.frame = some X.env.locals) (m : Nat) (ss : List S) (ts : List Stmt), chkL c n ss ts = true → PSs X ts (RS X V W fun env st => exL (ex C m) ss env st)
theorem snd_par (G : Good C c W X V) (m k : Nat) {is : List Nat} {es : List E} {ts vs : List Expr} {kt k2 : Nat} {pt p2 pos : Pos} (hs : c.sc.kind = .function)
    (h1 : (match swP c ts vs, pnames c is ts with
        | some (some ns), some ms => decide (ns = ms)
        | _, _ => false) = true) (h2 : is.Nodup) (h3 : vs.all nStar = true) (h4 : zipAll (fun e x => chkE c k e x) es vs = true) (h5 : is.length = 2 ∨ is.length = 3) :
    PS X (.Assign [.Tuple ts kt pt] (.Tuple vs k2 p2) pos) (RS X V W fun env st => (evL (fun e st => ev C m e env st) es st).run env fun ds st => .next (setAll is ds env) st) := by
  cases e1 : swP c ts vs with
  | none => rw [e1] at h1; cases h1
  | some o =>
    cases o with
    | none => rw [e1] at h1; cases h1
    | some ns =>
      cases e2 : pnames c is ts with
      | none => rw [e1, e2] at h1; cases h1
      | some ms =>
        rw [e1, e2] at h1
        obtain rfl : ns = ms := of_decide_eq_true h1
        have hb : X.env.blockKind = .function := by unfold Env.blockKind; rw [G.sc, hs]; rfl
        have sp := swP_of (k := kt) (k' := k2) (p := pt) (p' := p2) hb G.sc e1
        have l1 := pnames_of e2
        have lv : vs.length = ts.length := by
          unfold swP at e1
          split at e1
          · cases e1
          · rename_i z
            simp only [Bool.or_eq_true, not_or, bne_iff_ne, ne_eq, Decidable.not_not, Bool.not_eq_true] at z
            exact z.2
        have pa := zip_args (snd k) G m es vs h3 h4
        have le : ∀ env st ds st', evL (fun e st => ev C m e env st) es st = .ok ds st' → ds.length = is.length := fun env st ds st' e => by rw [evL_len e, zip_len _ _ h4, lv, l1.1]
        have lk : ∀ {y : Str}, c.kind y = some .local → X.env.scope.names.lookup y = some .local := fun h => by rw [G.sc]; exact h
        have nk : ∀ {i : Nat} {y : Str}, c.N[i]? = some y → X.N[i]? = some y := fun h => by rw [G.N]; exact h
        rcases h5 with h5 | h5
        · match is, ts, h5, h2, e2, l1.1, lv, sp with
          | [i, j], [t1, t2], _, h2, e2, _, lv, sp =>
            obtain ⟨y1, p1, ns1, rfl, rfl, a1, b1, e2⟩ := pnames_cons e2
            obtain ⟨y2, p2, ns2, rfl, rfl, a2, b2, e2⟩ := pnames_cons e2
            cases e2
            match vs, lv, pa, sp with
            | [v1, v2], _, pa, sp =>
              exact ss_par2 G.cx.calm G.nd (nk a1) (nk a2) (by simpa using h2) (lk b1) (lk b2) pa sp le
        · match is, ts, h5, h2, e2, l1.1, lv, sp with
          | [i, j, q], [t1, t2, t3], _, h2, e2, _, lv, sp =>
            obtain ⟨y1, p1, ns1, rfl, rfl, a1, b1, e2⟩ := pnames_cons e2
            obtain ⟨y2, p2, ns2, rfl, rfl, a2, b2, e2⟩ := pnames_cons e2
            obtain ⟨y3, p3, ns3, rfl, rfl, a3, b3, e2⟩ := pnames_cons e2
            cases e2
            have nd : (i ≠ j ∧ i ≠ q) ∧ j ≠ q := by simpa using h2
            match vs, lv, pa, sp with
            | [v1, v2, v3], _, pa, sp =>
              exact ss_par3 G.cx.calm G.nd (nk a1) (nk a2) (nk a3) nd.1.1 nd.1.2 nd.2 (lk b1) (lk b2) (lk b3) pa sp le
theorem snd_s1 (ih : SndS c n) (hs : c.sc.kind = .function) {C : Cf} {W : WX} {X : Cx} {V : Vw} (G : Good C c W X V) (hp : PassesOwn (model X.prog X.w) X.A X.env X.xe) (hst : X.stack = X.env :: X.outer) (hfr : X.env.frame = some X.env.locals) (m : Nat) (s : S) (t : Stmt) (h : chkS c (n + 1) s t = true) : PS X t (RS X V W fun env st => ex C m s env st) := by
  cases m with
  | zero => exact ss_no fun _ _ => rfl
  | succ m =>
    unfold chkS at h
    split at h
    · exact ss_no fun _ _ => rfl
    · rw [Bool.and_eq_true] at h
      exact ss_expr h.1 ((snd n).e G m _ _ h.2)
    · split at h
      · rename_i hot
        rw [Bool.and_eq_true, decide_eq_true_eq] at h
        cases n with
        | zero => cases h.2
        | succ k =>
          cases m with
          | zero => exact ss_no fun _ _ => rfl
          | succ m =>
            refine PS.imp (snd_comp_rule G m k hs hot h.1 h.2) fun D σ H ⟨ρ, env, st, er, w, z⟩ => ⟨ρ, env, st, er, w, ?_⟩
            revert z
            show PostS X.K X.mg V W ρ H ((ev C (m + 1) _ env st).run env fun d st => (tgD _ (.name _) d env st).still.run env fun env st => .next env st) D → _
            simp only [tgD, Res.still_ok, Res.run_ok]
            exact id
      · rename_i hot
        rw [Bool.and_eq_true] at h
        exact snd_asg G m n hs rfl rfl (by simpa using hot) rfl h.1 h.2
    · simp only [Bool.and_eq_true, Bool.not_eq_true'] at h
      obtain ⟨⟨⟨⟨⟨h1, h2⟩, h3⟩, h4⟩, h5⟩, h6⟩ := h
      exact snd_asg G m n hs h1 h2 h3 h4 h5 h6
    · simp only [Bool.and_eq_true, Bool.or_eq_true, beq_iff_eq, decide_eq_true_eq] at h
      obtain ⟨⟨⟨⟨h1, h2⟩, h3⟩, h4⟩, h5⟩ := h
      exact snd_par G m n hs h1 h2 h3 h4 h5
    · exact ss_ret ((snd n).e G m _ _ h)
    · exact ss_retN
    · simp only [Bool.and_eq_true] at h
      exact ss_if ((snd n).t G m _ _ h.1.1) (ih.l G hp hst hfr m _ _ h.1.2) (ih.l G hp hst hfr m _ _ h.2)
    · simp only [Bool.and_eq_true] at h
      exact ss_whl hp ((snd n).t G m _ _ h.1) (ih.l G hp hst hfr m _ _ h.2) wmax
    · simp only [Bool.and_eq_true] at h
      obtain ⟨⟨⟨h1, h2⟩, h3⟩, h4⟩ := h
      exact ss_for (sl := tgS _) hp G.cx.calm ((snd n).i G m _ _ _ h1) ((snd n).g G m _ _ h3 _ fun j hj => hj) (ih.l G hp hst hfr m _ _ h4) (set_of h2 _)
    · simp only [Bool.and_eq_true, decide_eq_true_eq] at h
      obtain ⟨⟨⟨⟨⟨h1, h0⟩, h2⟩, h3⟩, h4⟩, h5⟩ := h
      by_cases hk : 30 ≤ C.k
      · refine PS.imp (ss_raise G hk h1 (by rw [← G.T2]; exact h0) h2 h3 h4 ((snd n).e G m _ _ h5)) fun D σ H ⟨ρ, env, st, er, w, z⟩ => ⟨ρ, env, st, er, w, ?_⟩
        simpa only [ex, if_pos hk] using z
      · exact ss_no fun env st => if_neg hk
    · rw [Bool.and_eq_true] at h
      exact ss_try G hst hfr (fun W' pn xe tk hp' => ih.l (G.tr pn xe tk) hp' hst hfr m _ _ h.1) h.2
    · exact ss_pass
    · exact ss_brk
    · exact ss_cont
    · cases h
theorem snd_l1 (ih : SndS c n) {C : Cf} {W : WX} {X : Cx} {V : Vw} (G : Good C c W X V) (hp : PassesOwn (model X.prog X.w) X.A X.env X.xe) (hst : X.stack = X.env :: X.outer) (hfr : X.env.frame = some X.env.locals) (m : Nat) (ss : List S) (ts : List Stmt) (h : chkL c (n + 1) ss ts = true) : PSs X ts (RS X V W fun env st => exL (ex C m) ss env st) := by
  unfold chkL at h
  split at h
  · exact sss_nil
  · rw [Bool.and_eq_true] at h
    exact sss_cons (ih.s G hp hst hfr m _ _ h.1) (ih.l G hp hst hfr m _ _ h.2)
  · cases h
end
theorem sndS {c : Ct} (hs : c.sc.kind = .function) : ∀ n, SndS c n
  | 0 => ⟨fun _ _ _ _ _ _ _ h => (by cases h), fun _ _ _ _ _ _ _ h => (by cases h)⟩
  | n + 1 => ⟨fun G hp hst hfr m s t h => snd_s1 (sndS hs n) hs G hp hst hfr m s t h, fun G hp hst hfr m ss ts h => snd_l1 (sndS hs n) G hp hst hfr m ss ts h⟩
end Mu

end
section
set_option linter.all false
set_option Elab.async false
/-! Defs and lambdas: a table of the interpreter's defs is sound, at every depth. -/
namespace Mu
open PySem PySem.Spec PyProof.Rows L2

/-! ### behind a call: new objects that nobody knows are let go -/
def Rho.cut (ρ : Rho) (n : Nat) : Rho := ⟨ρ.ix.take n, ρ.no⟩
section
variable {K : PySem.W.Frag} {mg : Str → Option Value} {V V' : Vw} {ρ ρ' : Rho} {H H' : Hp} {st : Sto} {n m : Nat}
theorem Out.cut {a : Addr} (x : Out ρ a) : Out (ρ.cut n) a := ⟨fun m => x.1 (List.mem_of_mem_take m), x.2⟩
theorem TupAt.cut {a : Addr} {xs : List L2.V} (h : TupAt K ρ H a xs) : TupAt K (ρ.cut n) H a xs := by
  rcases h with ⟨h, x⟩ | h
  · exact .inl ⟨h, x.cut⟩
  · exact .inr h
theorem RolAt.cut {a : Addr} {xs : List L2.V} (h : RolAt K ρ H a xs) : RolAt K (ρ.cut n) H a xs := by
  rcases h with ⟨h, x⟩ | h
  · exact .inl ⟨h, x.cut⟩
  · exact .inr h
mutual
theorem Rep.cut : ∀ {d : D} {v : L2.V}, Rep K mg V ρ H d v → D.low n d = true → Rep K mg V (ρ.cut n) H d v
  | _, _, .non, _ => .non
  | _, _, .bl b, _ => .bl b
  | _, _, .int i, _ => .int i
  | _, _, .str x, _ => .str x
  | _, _, .ty n, _ => .ty n
  | _, _, .fn h e, _ => .fn h e
  | _, _, .cls h e, _ => .cls h e
  | _, _, .tup t r, q => .tup t.cut (RepL.cut r (by unfold D.low at q; exact q))
  | _, _, .lst t r, q => .lst ⟨t.1, t.2.cut⟩ (RepL.cut r (by unfold D.low at q; exact q))
  | _, _, .rol t r, q => .rol t.cut (RepL.cut r (by unfold D.low at q; exact q))
  | _, _, .ref (i := i) (oa := oa) h e, q => .ref (oa := oa) (by
    unfold D.low at q
    show (ρ.ix.take n)[i]? = _
    rw [List.getElem?_take_of_lt (of_decide_eq_true q)]
    exact h) e
  | _, _, .dic h x l r, q => .dic h x.cut l (RepL.cut r (by unfold D.low at q; exact q))
  | _, _, .obj h1 h2 h x l r, q => .obj h1 h2 h x.cut l (RepL.cut r (by unfold D.low at q; exact q))
  | _, _, .clo h1 h2 h3 h4 x y, _ => .clo h1 h2 h3 h4 x.cut y.cut
theorem RepL.cut : ∀ {ds : List D} {vs : List L2.V}, RepL K mg V ρ H ds vs → D.lows n ds = true → RepL K mg V (ρ.cut n) H ds vs
  | _, _, .nil, _ => .nil
  | _, _, .cons h t, q => by
    unfold D.lows at q
    rw [Bool.and_eq_true] at q
    exact .cons (Rep.cut h q.1) (RepL.cut t q.2)
end
/-- less frames are known -/
structure FsLow (V V' : Vw) (m : Nat) : Prop where
  T : V'.T = V.T
  fs : ∀ d, d < m → V'.fs[d]? = V.fs[d]?
theorem FsLow.att (e : FsLow V V' m) : V'.att = V.att := by
  funext i
  unfold Vw.att
  rw [e.T]
mutual
theorem Rep.dn (e : FsLow V V' m) : ∀ {d : D} {v : L2.V}, Rep K mg V ρ H d v → D.lowC m d = true → Rep K mg V' ρ H d v
  | _, _, .non, _ => .non
  | _, _, .bl b, _ => .bl b
  | _, _, .int i, _ => .int i
  | _, _, .str x, _ => .str x
  | _, _, .ty n, _ => .ty n
  | _, _, .fn h z, _ => .fn (by rw [e.T]; exact h) z
  | _, _, .cls h z, _ => .cls (by rw [e.T]; exact h) z
  | _, _, .tup t r, q => .tup t (RepL.dn e r (by unfold D.lowC at q; exact q))
  | _, _, .lst t r, q => .lst t (RepL.dn e r (by unfold D.lowC at q; exact q))
  | _, _, .rol t r, q => .rol t (RepL.dn e r (by unfold D.lowC at q; exact q))
  | _, _, .ref h z, _ => .ref h z
  | _, _, .dic h x l r, q => .dic h x l (RepL.dn e r (by unfold D.lowC at q; exact q))
  | _, _, .obj h1 h2 h x l r, q => .obj (by rw [e.T]; exact h1) h2 (by rw [e.att]; exact h) x l (RepL.dn e r (by unfold D.lowC at q; exact q))
  | _, _, .clo h1 h2 h3 h4 x y, q => .clo (by
      unfold D.lowC at q
      rw [e.fs _ (of_decide_eq_true q)]
      exact h1) (by rw [e.T]; exact h2) h3 h4 x y
theorem RepL.dn (e : FsLow V V' m) : ∀ {ds : List D} {vs : List L2.V}, RepL K mg V ρ H ds vs → D.lowsC m ds = true → RepL K mg V' ρ H ds vs
  | _, _, .nil, _ => .nil
  | _, _, .cons h t, q => by
    unfold D.lowsC at q
    rw [Bool.and_eq_true] at q
    exact .cons (Rep.dn e h q.1) (RepL.dn e t q.2)
end
theorem RepO.dn {a : Addr} {o : O} (e : FsLow V V' m) (h : RepO K mg V ρ H a o) (q : o.lowC m = true) : RepO K mg V' ρ H a o := by
  cases o with
  | lst ds => obtain ⟨xs, h1, r⟩ := h; exact ⟨xs, h1, r.dn e q⟩
  | dic ks ds => obtain ⟨xs, h1, l, r⟩ := h; exact ⟨xs, h1, l, r.dn e q⟩
  | ins c ks ds => obtain ⟨k, C, dx, xs, h1, h2, h3, l, r⟩ := h; exact ⟨k, C, dx, xs, by rw [e.T]; exact h1, h2, by rw [e.att]; exact h3, l, r.dn e q⟩
  | gone => exact h
theorem RepO.cut {a : Addr} {o : O} (h : RepO K mg V ρ H a o) (q : o.low n = true) : RepO K mg V (ρ.cut n) H a o := by
  cases o with
  | lst ds => obtain ⟨xs, h1, r⟩ := h; exact ⟨xs, h1, r.cut q⟩
  | dic ks ds => obtain ⟨xs, h1, l, r⟩ := h; exact ⟨xs, h1, l, r.cut q⟩
  | ins c ks ds => obtain ⟨k, C, dx, xs, h1, h2, h3, l, r⟩ := h; exact ⟨k, C, dx, xs, h1, h2, h3, l, r.cut q⟩
  | gone => exact h
theorem Ext.cut (e : Ext ρ H ρ' H') : Ext ρ H (ρ'.cut ρ.ix.length) H' := by
  have look : ∀ i, i < ρ.ix.length → (ρ'.ix.take ρ.ix.length)[i]? = ρ'.ix[i]? := fun i hi => List.getElem?_take_of_lt hi
  refine ⟨e.no, ?_, fun i hi => ?_, fun i a hi h => ?_, e.same, e.live⟩
  · show ρ.ix.length ≤ (ρ'.ix.take ρ.ix.length).length
    rw [List.length_take]
    have := e.len
    omega
  · show (ρ'.ix.take ρ.ix.length)[i]? = _ ∨ (ρ'.ix.take ρ.ix.length)[i]? = _
    rw [look i hi]
    exact e.old i hi
  · have h : (ρ'.ix.take ρ.ix.length)[i]? = some (some a) := h
    have := (List.getElem?_eq_some_iff.mp h).1
    rw [List.length_take] at this
    omega
theorem Wd.cut {ρ0 : Rho} {H0 : Hp} {st0 : Sto} (w : Wd K mg V ρ st H) (w0 : Wd K mg V ρ0 st0 H0) (e : Ext ρ0 H0 ρ H) (h : (st.take ρ0.ix.length).all (O.low ρ0.ix.length) = true) : Wd K mg V (ρ.cut ρ0.ix.length) (st.take ρ0.ix.length) H := by
  have look : ∀ i, i < ρ0.ix.length → (ρ.ix.take ρ0.ix.length)[i]? = ρ.ix[i]? := fun i hi => List.getElem?_take_of_lt hi
  have lt : ∀ {i : Nat} {oa : Option Addr}, (ρ.cut ρ0.ix.length).ix[i]? = some oa → i < ρ0.ix.length ∧ ρ.ix[i]? = some oa := fun {i oa} q => by
    have q : (ρ.ix.take ρ0.ix.length)[i]? = some oa := q
    have l := (List.getElem?_eq_some_iff.mp q).1
    rw [List.length_take] at l
    have hi : i < ρ0.ix.length := by omega
    rw [look i hi] at q
    exact ⟨hi, q⟩
  refine ⟨?_, fun i j a h1 h2 => w.inj i j a (lt h1).2 (lt h2).2, fun i a o h1 h2 => ?_, fun i h1 => ?_, fun a m => ⟨(w.pv a m).1, fun z => (w.pv a m).2 (List.mem_of_mem_take z)⟩, fun d fi hf => (w0.frs d fi hf).ext e.cut, w.tb.rho fun p _ x => x.cut⟩
  · show (ρ.ix.take ρ0.ix.length).length = _
    rw [List.length_take, List.length_take, w.len]
  · obtain ⟨hi, h1⟩ := lt h1
    have hm := List.all_eq_true.mp h o (List.mem_of_getElem? h2)
    rw [List.getElem?_take_of_lt hi] at h2
    exact (w.ob i a o h1 h2).cut hm
  · obtain ⟨hi, h1⟩ := lt h1
    rw [List.getElem?_take_of_lt hi]
    exact w.gn i h1
theorem Wd.dn {ρ0 : Rho} {H0 : Hp} {st0 : Sto} (e : FsLow V V' m) (hfr : V'.fr = V.fr) (htb : V'.tb = V.tb) (w : Wd K mg V ρ st H) (w0 : Wd K mg V' ρ0 st0 H0) (x : Ext ρ0 H0 ρ H) (h : st.all (O.lowC m) = true) : Wd K mg V' ρ st H :=
  ⟨w.len, w.inj, fun i a o h1 h2 => (w.ob i a o h1 h2).dn e (List.all_eq_true.mp h o (List.mem_of_getElem? h2)), w.gn, w.pv, fun d fi hf => (w0.frs d fi hf).ext x, by rw [htb]; exact w.tb.tabs, by rw [htb]; exact w.tb.out, by rw [htb]; exact w.tb.only⟩

/-! ### one's own frame comes in, and goes -/
def Vw.own (V : Vw) (F : FrS) : Vw := if F.lams.isEmpty then V else { V with fs := V.fs ++ [F] }
theorem Vw.own_T {F : FrS} : (V.own F).T = V.T := by unfold Vw.own; split <;> rfl
theorem Vw.own_fr {F : FrS} : (V.own F).fr = V.fr := by unfold Vw.own; split <;> rfl
theorem Vw.own_tb {F : FrS} : (V.own F).tb = V.tb := by unfold Vw.own; split <;> rfl
theorem Vw.own_fs {F G : FrS} {d : Nat} (h : V.fs[d]? = some G) : (V.own F).fs[d]? = some G := by
  unfold Vw.own
  split
  · exact h
  · show (V.fs ++ [F])[d]? = _
    rw [List.getElem?_append_left (List.getElem?_eq_some_iff.mp h).1]
    exact h
theorem mv_own2 {F : FrS} : Mv K V ρ H (V.own F) ρ H := ⟨Vw.own_T, fun d G h => Vw.own_fs h, fun i a oa h q => ⟨oa, h, q⟩, fun a o h _ n => ⟨h, n⟩⟩
theorem Wd.ownF {F : FrS} (w : Wd K mg V ρ st H) : Wd K mg (V.own F) ρ st H :=
  ⟨w.len, w.inj, fun i a o a1 a2 => (w.ob i a o a1 a2).mv mv_own2 rfl, w.gn, w.pv, fun d fi h => by rw [Vw.own_fr] at h; exact (w.frs d fi h).mv mv_own2, by rw [Vw.own_tb]; exact w.tb.tabs, by rw [Vw.own_tb]; exact w.tb.out, by rw [Vw.own_tb]; exact w.tb.only⟩
/-- back -/
theorem own_back {F : FrS} {k : Nat} {ρ0 : Rho} {H0 : Hp} {st0 : Sto} {d : D} (hk : V.fs.length = V.fr.length) (hl : k = V.fr.length) (w0 : Wd K mg V ρ0 st0 H0) (x : Ext ρ0 H0 ρ H) (w : Wd K mg (V.own F) ρ st H) (ok : okC (if F.lams.isEmpty then none else some k) d st = true) :
    Wd K mg V ρ st H ∧ ∀ {d' : D} {v : L2.V}, (okC (if F.lams.isEmpty then none else some k) d' st = true) → Rep K mg (V.own F) ρ H d' v → Rep K mg V ρ H d' v := by
  by_cases he : F.lams.isEmpty = true
  · have e : V.own F = V := by unfold Vw.own; rw [if_pos he]
    rw [e] at w
    exact ⟨w, fun _ r => by rw [e] at r; exact r⟩
  · rw [if_neg he] at ok
    have e : FsLow (V.own F) V k := ⟨Vw.own_T.symm, fun d hd => by
      unfold Vw.own
      rw [if_neg he]
      show _ = (V.fs ++ [F])[d]?
      rw [List.getElem?_append_left (by omega)]⟩
    have ok : (d.lowC k && st.all (O.lowC k)) = true := ok
    rw [Bool.and_eq_true] at ok
    refine ⟨w.dn e Vw.own_fr.symm Vw.own_tb.symm w0 x ok.2, fun h r => r.dn e ?_⟩
    rw [if_neg he] at h
    have h : (_ && _) = true := h
    rw [Bool.and_eq_true] at h
    exact h.1
theorem trim_ok {W : WX} {σ : L2.St} {d : D} {Q : VK} {ρ0 : Rho} {H0 : Hp} {st0 : Sto} (hn : n = ρ0.ix.length) (h : Post K mg V W σ ρ0 H0 (Rep K mg V) (trim n d st) Q) {v : L2.V} (w0 : Wd K mg V ρ0 st0 H0) (e : Ext ρ0 H0 ρ H) (w : Wd K mg V ρ st H) (r : Rep K mg V ρ H d v) : Q v H := by
  unfold trim at h
  split at h
  · rename_i z
    rw [Bool.and_eq_true] at z
    subst hn
    exact h v H _ e.cut (w.cut w0 e z.2) (r.cut z.1)
  · exact h v H ρ e w r
/-- a def's end -/
theorem finish_ok {W : WX} {σ : L2.St} {r : SR} {Q : VK} {F : FrS} {k : Nat} (hW : ∀ c d σ σ' H, W c d σ H → W c d σ' H) (hk : V.fs.length = V.fr.length) (hl : k = V.fr.length) (w0 : Wd K mg V ρ st H) (hn : n = ρ.ix.length)
    (h : Post K mg V W σ ρ H (Rep K mg V) (finish (if F.lams.isEmpty then none else some k) n r) Q) : PostS K mg (V.own F) W ρ H r { nx := fun _ H' => Q .non H', rt := Q } := by
  cases r with
  | next env st1 =>
    intro σ' H' ρ' e w _
    have h : Post K mg V W σ ρ H (Rep K mg V) (if okC (if F.lams.isEmpty then none else some k) .non st1 then trim n .non st1 else .stuck) Q := h
    by_cases ok : okC (if F.lams.isEmpty then none else some k) .non st1 = true
    · rw [if_pos ok] at h
      obtain ⟨w1, back⟩ := own_back hk hl w0 e w ok
      exact trim_ok hn h w0 e w1 .non
    · rw [if_neg ok] at h
      exact h.elim
  | ret d st1 =>
    intro v H' ρ' e w r
    have h : Post K mg V W σ ρ H (Rep K mg V) (if okC (if F.lams.isEmpty then none else some k) d st1 then trim n d st1 else .stuck) Q := h
    by_cases ok : okC (if F.lams.isEmpty then none else some k) d st1 = true
    · rw [if_pos ok] at h
      obtain ⟨w1, back⟩ := own_back hk hl w0 e w ok
      exact trim_ok hn h w0 e w1 (back ok r)
    · rw [if_neg ok] at h
      exact h.elim
  | brk env st => exact h.elim
  | cont env st => exact h.elim
  | exc c v env st1 =>
    intro cls dd σ' H' ρ' e w _ x
    have h : Post K mg V W σ ρ H (Rep K mg V) (if okC (if F.lams.isEmpty then none else some k) (v.getD .non) st1 then .exc c v st1 else .stuck) Q := h
    by_cases ok : okC (if F.lams.isEmpty then none else some k) (v.getD .non) st1 = true
    · rw [if_pos ok] at h
      obtain ⟨w1, back⟩ := own_back hk hl w0 e w ok
      obtain ⟨kk, C, xi, h1, h2, h3, h0, h4⟩ := x
      refine hW _ _ σ σ' _ (h cls dd H' ρ' e w1 ⟨kk, C, xi, by rw [Vw.own_T] at h1; exact h1, h2, h3, h0, fun d hd => ?_⟩)
      obtain ⟨f, a, x, a2, a3, a4, a5, a6⟩ := h4 d hd
      subst hd
      refine ⟨f, a, x, a2, a3, ?_, a5, back ok a6⟩
      unfold Vw.att at a4 ⊢
      rw [Vw.own_T] at a4
      exact a4
    · rw [if_neg ok] at h
      exact h.elim
  | stuck => exact h.elim
theorem env_start {N : List Str} {ds : List D} {vs : List L2.V} (r : RepL K mg V ρ H ds vs) : EnvRep K mg V ρ H (ds.map some ++ List.replicate (N.length - ds.length) none) (L2.start N vs) := by
  refine ⟨by unfold L2.start; simp [r.length], fun i d h => ?_⟩
  by_cases hi : i < ds.length
  · rw [List.getElem?_append_left (by simpa using hi), List.getElem?_map] at h
    cases e : ds[i]? with
    | none => rw [e] at h; cases h
    | some d' =>
      rw [e] at h
      cases h
      obtain ⟨v, hv, rv⟩ := r.get e
      refine ⟨v, ?_, rv⟩
      unfold L2.start
      rw [List.getElem?_append_left (by rw [List.length_map, ← r.length]; exact hi), List.getElem?_map, hv]
      rfl
  · rw [List.getElem?_append_right (by simpa using hi)] at h
    have := List.mem_of_getElem? h
    have := List.eq_of_mem_replicate this
    cases this
end
end Mu

end
section
set_option linter.all false
set_option Elab.async false
/-! Tables of defs. -/
namespace Mu
open PySem PySem.Spec PyProof.Rows L2

section
variable {P : Program} {w : World} {K : PySem.W.Frag} {mg : Str → Option Value} {base : Heap} {V : Vw}
/-- a def by its body, where no object is under way -/
theorem fnG_of {k : Nat} {x qual : Str} {params : Arguments} {body : List Stmt} {scope : Scope} {dvs : List L2.V} {f : Addr} {fd : FuncData} {N ps : List Str} {sp : Sp} (F : FunD K x qual params body scope dvs [] f fd) (S : FnScope N ps scope)
    (hlen : ∀ vs H Q E, sp vs H Q E → vs.length = ps.length)
    (hb : ∀ (A : Around) (outer : List PySem.Env) (s : Shared) (H : Hp) (vs : List L2.V) (Q : VK) (E : XK), Room (k + 1) A → A.guards = some [] → A.frames = some outer → FrsAt V s.heap H → sp vs H Q E →
      ∃ t, PSs (cxOf (L2.CX P w) P w K mg base N qual scope f fd.code A outer s H E) body t ∧ t { nx := fun _ H' => Q .non H', rt := Q } (L2.start N vs) H) : FnG P w K mg base V (k + 1) f fd ps sp := by
  obtain ⟨oc, od, dV, kV, doc, pm, an, cdv, ct, osl, rfl, lk, hcd, _, _⟩ := F.ex
  refine ⟨hlen, ?_⟩
  intro A outer s H args us vs Q E hr hg ce fa binds rv hsp
  have lv := hlen _ _ _ _ hsp
  have kin : K.In s.heap := ce.mod.kin.keeps fun b o e => And.left (ce.bs b o e)
  have lim := ce.mod.nolimit.keeps fun b o e => And.left (ce.bs b o e)
  have kinds : ∀ y ∈ ps.zip us, scope.names.lookup y.1 = some .local ∨ scope.names.lookup y.1 = some .cell ∧ ((cellsFrom (s.heap.objs.size + 1) scope.names []).lookup y.1).isSome = true := by
    rintro ⟨m, v⟩ hy
    have q := S.par m (List.of_mem_zip hy).1
    exact q.elim Or.inl fun q => Or.inr ⟨q, PySem.W.cellsFrom_some _ _ _ (Or.inl q)⟩
  refine codeAny_call_function hr.depth (kin _ _ lk) rfl S.co S.gen rfl (PySem.W.codeRec_of kin hcd) (binds _ _ _ _ (wpAny_newFunctionEnv_cells S.kind kinds fun env he s1 x => ?_))
  subst he
  refine ⟨lim.keeps x.toInCall.keep, codeAny_func ?_⟩
  obtain ⟨t, ht, hq⟩ := hb A outer s H vs Q E hr hg ce.frames fa hsp
  have J := inv_start (CX := L2.CX P w) (E := E) S hr.hd ce lv rv x
  have fin : ∀ {s' : Shared} {σ' : L2.St} {H' : Hp} {v : L2.V} {u : Value}, Inv (cxOf (L2.CX P w) P w K mg base N qual scope f cdv A outer s H E) [] σ' H' s' → RelV v u → Q v H' → CE outer P w H s Q u s' := by
    intro s' σ' H' v u J rv q
    exact ⟨v, H', J.os, J.bare, J.base, J.hok, rv, q⟩
  refine wpAny_mono (ht.run [] s1 _ H _ J hq) (fun fl s' hs => ?_) fun e s' hs => hs
  match fl, hs with
  | .ret u, ⟨v, σ', H', J, rv, q⟩ => exact fin J rv q
  | .next, ⟨σ', H', J, q⟩ => exact fin (v := L2.V.non) (u := Value.none) J rfl q
  | .brk, ⟨_, _, _, q⟩ => exact q.elim
  | .cont, ⟨_, _, _, q⟩ => exact q.elim

theorem _root_.L2.Room.deep2 {k : Nat} {A : Around} (r : Room (k + 1) A) (env : PySem.Env) : (A.deeper env).depth + 3 * k + 7 < recursionLimit ∧ (A.deeper env).units + 16 * k + 213 < cLine :=
  ⟨by have := r.dp; show A.depth + 1 + 3 * k + 7 < _; omega, by have := r.un; show A.units + 3 + 16 * k + 213 < _; omega⟩
/-! ### tables -/
def Tab.attN (T : Tab) : Nat → Str := fun i => (T.att[i]?).getD ""
/-- the interpreter's def F is the text's; cs: code objects and their tables, tb: the tables and the lambdas' names -/
structure FdOk (K : PySem.W.Frag) (mg : Str → Option Value) (T : Tab) (cs : List (Addr × Addr)) (tb : List (Addr × Str)) (F : Fd) (a : Addr) (fd : FuncData) : Prop where
  at_ : mg F.name = some (.ref a)
  dl : F.dft.length ≤ F.ps.length
  ex : ∃ (qual : Str) (params : Arguments) (body : List Stmt) (scope : Scope) (dvs : List L2.V), FunD K F.name qual params body scope dvs [] a fd ∧ FnScope F.names F.ps scope ∧ chkL ⟨F.names, scope, fun _ => true, T, F.lams⟩ 200 F.body body = true ∧
    (F.lams ≠ [] → ∃ c Pt, fd.code = .ref c ∧ (c, Pt) ∈ cs ∧ (Pt, (qual ++ ".<locals>.") ++ "<lambda>") ∈ tb ∧ ∀ p ∈ tb, p.1 = Pt → p.2 = (qual ++ ".<locals>.") ++ "<lambda>")
  bind : ∀ j, j ≤ F.dft.length → ∃ zs ws, Vals zs ws ∧ (∀ V ρ H, RepL K mg V ρ H (F.dft.drop j) zs) ∧ Binds K fd F.ps ws
structure TabOk (P : Program) (w : World) (K : PySem.W.Frag) (mg : Str → Option Value) (base : Heap) (T : Tab) (cs : List (Addr × Addr)) (tb : List (Addr × Str)) : Prop where
  seer : base.NoSeer
  tree : P.given.tree = none
  con : ∀ (i : Nat) (x : Str) (d : D), T.con[i]? = some (x, d) → ∃ v u, mg x = some u ∧ RelV v u ∧ ∀ V ρ H, Rep K mg V ρ H d v
  blt : ∀ x ∈ blts, mg x = none
  fns : ∀ (i : Nat) (F : Fd), T.fns[i]? = some F → ∃ a fd, FdOk K mg T cs tb F a fd
  cls : ∀ (i : Nat) (k : Cl), T.cls[i]? = some k → ∃ C, mg k.name = some (.ref C) ∧ (∀ xi, k.exc = some xi → RaiseOk P w K mg T.attN C xi)
  exm : ∀ (i j : Nat) (k l : Cl) (C D : Addr) (xi : XI), T.cls[i]? = some k → T.cls[j]? = some l → mg k.name = some (.ref C) → mg l.name = some (.ref D) → k.exc = some xi → l.exc ≠ none → PySem.W.exmOne K (.ref C) (.ref D) = some (T.isSub i j)
  xf : ∀ (i : Nat) (k : Cl) (C : Addr) (xi : XI) (f : Nat), T.cls[i]? = some k → mg k.name = some (.ref C) → k.exc = some xi → xi.fld = some f → XfC K C ∧ PySem.W.findIn K (.ref C) (T.attN f) = some none
  tabs : ∀ p ∈ cs, LamX.TabB base mg p.1 p.2
structure VOk (V : Vw) (T : Tab) (tb : List (Addr × Str)) : Prop where
  T : V.T = T
  len : V.fs.length = V.fr.length
  tb : V.tb = tb
theorem callF_eq {T : Tab} {x : Nat} {F : Fd} (h : T.fns[x]? = some F) (k : Nat) (fr : List Frm) (ds : List D) (st : Sto) : callF T (k + 1) fr x ds st = if (F.pad ds).length = F.ps.length then
        finish (lmF fr F.lams) st.length (exL (ex (cfOf T k fr F.lams (callF T k) (cloF T k)) deep) F.body ((F.pad ds).map some ++ List.replicate (F.names.length - (F.pad ds).length) none) st) else .stuck := by
  show (match T.fns[x]? with
    | none => Res.stuck
    | some F => if (F.pad ds).length = F.ps.length then
        finish (lmF fr F.lams) st.length (exL (ex (cfOf T k fr F.lams (callF T k) (cloF T k)) deep) F.body ((F.pad ds).map some ++ List.replicate (F.names.length - (F.pad ds).length) none) st) else .stuck) = _
  rw [h]
theorem callF_none {T : Tab} {x : Nat} (h : T.fns[x]? = none) (k : Nat) (fr : List Frm) (ds : List D) (st : Sto) : callF T k fr x ds st = .stuck := by
  cases k with
  | zero => rfl
  | succ k =>
    show (match T.fns[x]? with
      | none => Res.stuck
      | some F => _) = _
    rw [h]
theorem pad_full {F : Fd} {ds : List D} (h : ds.length = F.ps.length) : F.pad ds = ds := by
  unfold Fd.pad
  rw [List.drop_eq_nil_of_le (by omega), List.append_nil]
/-- missing arguments -/
theorem padded {T : Tab} {f : Nat} {F : Fd} {cs : List (Addr × Addr)} {tb : List (Addr × Str)} {a : Addr} {fd : FuncData} (hf : T.fns[f]? = some F) (ok : FdOk K mg T cs tb F a fd) (k n : Nat) : (∀ fr ds st, ds.length = n → callF T k fr f ds st = .stuck) ∨
    ∃ (pad : List D) (zs : List L2.V) (ws : List Value), n + pad.length = F.ps.length ∧ Vals zs ws ∧ (∀ V ρ H, RepL K mg V ρ H pad zs) ∧ Binds K fd F.ps ws ∧ ∀ fr ds st, ds.length = n → callF T k fr f ds st = callF T k fr f (ds ++ pad) st := by
  have dl := ok.dl
  by_cases hcase : n ≤ F.ps.length ∧ F.ps.length ≤ n + F.dft.length
  · right
    obtain ⟨zs, ws, v1, r1, b1⟩ := ok.bind (n + F.dft.length - F.ps.length) (by omega)
    refine ⟨F.dft.drop (n + F.dft.length - F.ps.length), zs, ws, ?_, v1, r1, b1, fun fr ds st hl => ?_⟩
    · rw [List.length_drop]
      omega
    · cases k with
      | zero => rfl
      | succ k =>
        have e1 : F.pad ds = ds ++ F.dft.drop (n + F.dft.length - F.ps.length) := by unfold Fd.pad; rw [hl]
        have e2 : F.pad (ds ++ F.dft.drop (n + F.dft.length - F.ps.length)) = ds ++ F.dft.drop (n + F.dft.length - F.ps.length) := pad_full (by
          rw [List.length_append, List.length_drop, hl]
          omega)
        rw [callF_eq hf, callF_eq hf, e1, e2]
  · left
    intro fr ds st hl
    cases k with
    | zero => rfl
    | succ k =>
      rw [callF_eq hf, if_neg]
      unfold Fd.pad
      rw [List.length_append, List.length_drop, hl]
      omega
theorem zip_take {α β : Type} : ∀ (xs ys : List α) (zs : List β), xs.length = zs.length → (xs ++ ys).zip zs = xs.zip zs
  | [], ys, [], _ => by simp
  | [], _, _ :: _, h => by cases h
  | _ :: _, _, [], h => by cases h
  | x :: xs, ys, z :: zs, h => by simp [zip_take xs ys zs (by simpa using h)]
theorem frames_at {F : FrS} {env : Env} {σ : L2.St} (hl : V.fs.length = V.fr.length) : ((V.own F).at (!F.lams.isEmpty) env σ).frames = pushF V.frames F.lams env := by
  unfold pushF Vw.own
  by_cases he : F.lams.isEmpty = true
  · rw [if_pos he, if_pos he, he]
    rfl
  · rw [if_neg he, if_neg he]
    have e2 : F.lams.isEmpty = false := by simpa using he
    rw [e2]
    show ((V.fs ++ [F]).zip (V.fr ++ [⟨env, σ⟩])).map _ = _
    rw [List.zip_append hl, List.map_append]
    rfl
theorem vok_at {T : Tab} {tb : List (Addr × Str)} {F : FrS} {env : Env} {σ : L2.St} (h : VOk V T tb) : VOk ((V.own F).at (!F.lams.isEmpty) env σ) T tb := by
  refine ⟨by rw [Vw.at_T, Vw.own_T]; exact h.T, ?_, by rw [Vw.at_tb, Vw.own_tb]; exact h.tb⟩
  unfold Vw.own Vw.at
  by_cases he : F.lams.isEmpty = true
  · rw [if_pos he, he]
    exact h.len
  · rw [if_neg he]
    have e2 : F.lams.isEmpty = false := by simpa using he
    rw [e2]
    show (V.fs ++ [F]).length = (V.fr ++ [(⟨env, σ⟩ : FrI)]).length
    simp [h.len]
theorem frames_len (h : V.fs.length = V.fr.length) : V.frames.length = V.fr.length := by
  unfold Vw.frames
  rw [List.length_map, List.length_zip, h]
  exact Nat.min_self _
theorem frames_get {d : Nat} {F : FrS} {i : FrI} (h1 : V.fs[d]? = some F) (h2 : V.fr[d]? = some i) : V.frames[d]? = some ⟨F.lams, i.menv⟩ := by
  unfold Vw.frames
  have z : (V.fs.zip V.fr)[d]? = some (F, i) := by
    rw [List.getElem?_zip_eq_some]
    exact ⟨h1, h2⟩
  rw [List.getElem?_map, z]
  rfl
theorem FrsAt.own {F : FrS} {h : Heap} {H : Hp} (hl : V.fs.length = V.fr.length) (a : FrsAt V h H) : FrsAt (V.own F) h H := by
  intro d G i h1 h2
  rw [Vw.own_fr] at h2
  refine a d G i ?_ h2
  have hd : d < V.fs.length := by rw [hl]; exact (List.getElem?_eq_some_iff.mp h2).1
  obtain ⟨G', hG⟩ : ∃ G', V.fs[d]? = some G' := ⟨V.fs[d], by simp [hd]⟩
  rw [Vw.own_fs hG] at h1
  cases h1
  exact hG
theorem att_of {T : Tab} (h : V.T = T) : V.att = T.attN := by
  funext i
  unfold Vw.att Tab.attN
  rw [h]
/-- the promises at the depth k -/
structure Deep (P : Program) (w : World) (K : PySem.W.Frag) (mg : Str → Option Value) (base : Heap) (T : Tab) (cs : List (Addr × Addr)) (tb : List (Addr × Str)) (k : Nat) : Prop where
  fn : ∀ (V : Vw), VOk V T tb → ∀ (x : Nat) (F : Fd) (a : Addr) (fd : FuncData), T.fns[x]? = some F → FdOk K mg T cs tb F a fd → FnG P w K mg base V k a fd F.ps (spC K mg V F.ps.length (callF T k V.frames x))
  clo : ∀ (V : Vw), VOk V T tb → CloG P w K mg base V k (cloF T k V.frames)
section
variable {T : Tab} {cs : List (Addr × Addr)} {tb : List (Addr × Str)} {k : Nat}
theorem good_def (TK : TabOk P w K mg base T cs tb) (IH : Deep P w K mg base T cs tb k) (VO : VOk V T tb) {F : Fd} {qual : Str} {scope : Scope} {a : Addr} {cd : Value} {A : Around} {outer : List PySem.Env} {s : Shared} {H : Hp} {E : XK} (S : FnScope F.names F.ps scope) (hr : Room (k + 1) A)
    (hg : A.guards = some []) (hf : A.frames = some outer) (fa : FrsAt V s.heap H) (hl : F.lams ≠ [] → ∃ c Pt, cd = .ref c ∧ (c, Pt) ∈ cs ∧ (Pt, (qual ++ ".<locals>.") ++ "<lambda>") ∈ tb ∧ ∀ p ∈ tb, p.1 = Pt → p.2 = (qual ++ ".<locals>.") ++ "<lambda>") :
    Good (cfOf T k V.frames F.lams (callF T k) (cloF T k)) ⟨F.names, scope, fun _ => true, T, F.lams⟩ (fun c d _ H => E c d H) (cxOf (L2.CX P w) P w K mg base F.names qual scope a cd A outer s H E) (V.own ⟨envOfC qual scope s.heap.objs.size a cd, F.names, F.lams⟩) := by
  have hT : (V.own ⟨envOfC qual scope s.heap.objs.size a cd, F.names, F.lams⟩).T = T := Vw.own_T.trans VO.T
  refine ⟨rfl, rfl, fun _ _ => rfl, S.nd, hT.symm, hT.symm, ⟨rfl, hg, TK.seer, TK.tree, ?_⟩, hr.deeper _, hr.deep2 _, takes_of rfl rfl rfl rfl, fun H' h' u => ?_, fun hne => ⟨?_, ?_, ?_⟩, fun f G hG => ?_, fun f hG env ds st => ?_, fun env σ => ?_, by rw [hT]; exact TK.con, TK.blt, ?_, by rw [hT]; exact TK.exm, ?_⟩
  · refine ⟨envOfC qual scope s.heap.objs.size a cd, outer, ?_, S.gen, S.co, rfl, rfl⟩
    show (A.deeper _).frames = _
    have : (A.deeper (envOfC qual scope s.heap.objs.size a cd)).frames = A.frames.map (envOfC qual scope s.heap.objs.size a cd :: ·) := rfl
    rw [this, hf]
    rfl
  · exact (fa.own VO.len).un u fun b hb => by cases hb
  · show V.frames.length = _
    rw [frames_len VO.len, Vw.own_fr]
  · rw [Vw.own_fr]
    have he : ¬ F.lams.isEmpty = true := by simpa using hne
    unfold Vw.own
    rw [if_neg he]
    show (V.fs ++ [_])[V.fr.length]? = _
    have hll := VO.len
    rw [List.getElem?_append_right (by omega), VO.len]
    simp
    exact ⟨rfl, rfl⟩
  · obtain ⟨c, Pt, e, m1, m2, m3⟩ := hl hne
    refine ⟨c, Pt, e, TK.tabs _ m1, ?_, ?_⟩
    · rw [Vw.own_tb, VO.tb]
      exact m2
    · rw [Vw.own_tb, VO.tb]
      exact m3
  · rw [hT] at hG
    obtain ⟨a', fd', ok'⟩ := TK.fns f G hG
    obtain ⟨_, _, _, _, _, FD', _, _⟩ := ok'.ex
    refine ⟨a', fd', ok'.at_, FD'.kp, fun env σ => ?_, fun n => ?_⟩
    · have q := IH.fn _ (vok_at (F := ⟨envOfC qual scope s.heap.objs.size a cd, F.names, F.lams⟩) (env := env) (σ := σ) VO) f G a' fd' hG ok'
      rw [frames_at VO.len] at q
      exact q
    · rcases padded hG ok' k n with z | ⟨pad, zs, ws, b1, b2, b3, b4, b5⟩
      · exact .inl fun env ds st h => z _ ds st h
      · exact .inr ⟨pad, zs, ws, b1, b2, b3, b4, fun env ds st h => b5 _ ds st h⟩
  · rw [hT] at hG
    exact callF_none hG k _ ds st
  · have q := IH.clo _ (vok_at (F := ⟨envOfC qual scope s.heap.objs.size a cd, F.names, F.lams⟩) (env := env) (σ := σ) VO)
    rw [frames_at VO.len] at q
    exact q
  · rw [hT, att_of hT]
    exact TK.cls
  · rw [hT, att_of hT]
    exact TK.xf
theorem good_lam (TK : TabOk P w K mg base T cs tb) (IH : Deep P w K mg base T cs tb k) (VO : VOk V T tb) {F : FrS} {fi : FrI} {scope : Scope} {f c' : Addr} {A : Around} {outer : List PySem.Env} {s : Shared} {H : Hp} {E : XK} (S : LamX.LamS F.env.scope scope) (hr : Room (k + 1) A)
    (hg : A.guards = some []) (hf : A.frames = some outer) (fa : FrsAt V s.heap H) (nd : F.N.Nodup) :
    Good (cfLam T k V.frames (callF T k) (cloF T k)) (lamCt F.N T scope) (fun c d _ H => E c d H) (lamC P w K mg base F A outer s H E scope f c') V := by
  have hT : V.T = T := VO.T
  refine ⟨rfl, rfl, (fun x h => by cases h), nd, hT.symm, hT.symm, ⟨rfl, hg, TK.seer, TK.tree, ?_⟩, hr.deeper _, hr.deep2 _, takes_of (X := lamC P w K mg base F A outer s H E scope f c') (E := E) rfl rfl rfl rfl, fun H' h' u => ?_, fun hne => absurd rfl hne, fun f G hG => ?_, fun f hG env ds st => ?_, fun env σ => ?_, by rw [hT]; exact TK.con, TK.blt, ?_, by rw [hT]; exact TK.exm, ?_⟩
  · refine ⟨envL F scope s.heap.objs.size f c', outer, ?_, S.gen, S.co, rfl, rfl⟩
    show (A.deeper _).frames = _
    have : (A.deeper (envL F scope s.heap.objs.size f c')).frames = A.frames.map (envL F scope s.heap.objs.size f c' :: ·) := rfl
    rw [this, hf]
    rfl
  · exact fa.un u fun b hb => by cases hb
  · rw [hT] at hG
    obtain ⟨a', fd', ok'⟩ := TK.fns f G hG
    obtain ⟨_, _, _, _, _, FD', _, _⟩ := ok'.ex
    refine ⟨a', fd', ok'.at_, FD'.kp, fun env σ => IH.fn _ VO _ G a' fd' hG ok', fun n => ?_⟩
    rcases padded hG ok' k n with z | ⟨pad, zs, ws, b1, b2, b3, b4, b5⟩
    · exact .inl fun env ds st h => z _ ds st h
    · exact .inr ⟨pad, zs, ws, b1, b2, b3, b4, fun env ds st h => b5 _ ds st h⟩
  · rw [hT] at hG
    exact callF_none hG k _ ds st
  · exact IH.clo _ VO
  · rw [hT, att_of hT]
    exact TK.cls
  · rw [hT, att_of hT]
    exact TK.xf
theorem lmF_eq {F : FrS} : lmF V.frames F.lams = if F.lams.isEmpty then none else some V.frames.length := rfl
theorem tab_ok (TK : TabOk P w K mg base T cs tb) : ∀ k : Nat, Deep P w K mg base T cs tb k
  | 0 => ⟨fun V VO x F a fd _ _ => ⟨fun vs H Q E h => h.1, fun A outer s H args us vs Q E _ _ _ _ _ _ ⟨_, ρ, ds, st, _, _, q⟩ => q.elim⟩, fun V VO A outer s H d i f c F params body scope ρ st Q E _ _ _ _ _ _ _ _ _ q => q.elim⟩
  | k + 1 => by
    have IH := tab_ok TK k
    refine ⟨fun V VO x F a fd hx ok => ?_, fun V VO A outer s H d i f c F params body scope ρ st Q E hr hg e0 fa hfs lo hf hc wd q => ?_⟩
    · obtain ⟨qual, params, body, scope, dvs, FD, S, hc, hl⟩ := ok.ex
      refine fnG_of FD S (fun vs H Q E h => h.1) fun A outer s H vs Q E hr hg hf fa ⟨hlen, ρ, ds, st, rd, wd, q⟩ => ?_
      have hd : ds.length = F.ps.length := by rw [rd.length]; exact hlen
      rw [callF_eq hx, pad_full hd, if_pos hd] at q
      have G := good_def (a := a) (E := E) TK IH VO S hr hg hf fa hl
      refine ⟨_, (sndS (n := 200) S.kind).l G (passes_of rfl) rfl rfl deep F.body body hc, ρ, _, st, (env_start rd).mv mv_own2, wd.ownF, ?_⟩
      exact finish_ok (F := ⟨envOfC qual scope s.heap.objs.size a fd.code, F.names, F.lams⟩) (fun _ _ _ _ _ h => h) VO.len (frames_len VO.len) wd wd.len.symm q
    · obtain ⟨hp, hs, e, n, he, hchk⟩ := lo
      have q : Post K mg V (fun c d _ H => E c d H) [] ρ H (Rep K mg V) (match V.frames[d]? with
        | none => .stuck
        | some f => match f.lams[i]? with
          | none => .stuck
          | some e => if ([] : List D).isEmpty then ev (cfLam T k V.frames (callF T k) (cloF T k)) deep e f.env st else .stuck) Q := q
      cases hfr : V.fr[d]? with
      | none =>
        have : V.frames[d]? = none := by
          rw [List.getElem?_eq_none_iff, frames_len VO.len]
          exact List.getElem?_eq_none_iff.mp hfr
        rw [this] at q
        exact q.elim
      | some fi =>
        rw [frames_get hfs hfr] at q
        simp only [he] at q
        have q : Post K mg V (fun c d _ H => E c d H) [] ρ H (Rep K mg V) (ev (cfLam T k V.frames (callF T k) (cloF T k)) deep e fi.menv st) Q := q
        have at_ := fa d F fi hfs hfr
        have S : LamX.LamS F.env.scope scope := lamSB_of hs
        rw [VO.T] at hchk
        refine lamC_call hr e0 at_ S hp hf hc (fun _ => (snd n).e (good_lam (fi := fi) (f := f) (c' := c) (E := E) TK IH VO S hr hg e0.frames fa at_.nd) deep e body hchk) ⟨ρ, fi.menv, st, wd.frs d fi hfr, wd, ?_⟩
        have z : ∀ (σ : L2.St) (r : Res D), Post K mg V (fun c d _ H => E c d H) [] ρ H (Rep K mg V) r Q → Post K mg V (fun c d _ H => E c d H) σ ρ H (Rep K mg V) r Q := fun σ r => by cases r <;> exact fun q => q
        exact z _ _ q
end
end
end Mu

end
section
set_option linter.all false
set_option Elab.async false
/-! The law's end: from the interpreter's answer to what the row says. -/
namespace Mu
open PySem PySem.Spec PyProof.Rows L2

theorem vals_nil {ws : List Value} (h : Vals [] ws) : ws = [] := by cases h; rfl
theorem repL_nil {K : PySem.W.Frag} {mg : Str → Option Value} {V : Vw} {ρ : Rho} {H : Hp} {vs : List L2.V} (h : RepL K mg V ρ H [] vs) : vs = [] := by cases h; rfl
theorem rep_ints {K : PySem.W.Frag} {mg : Str → Option Value} {V : Vw} {ρ : Rho} {H : Hp} : ∀ ns : List Int, RepL K mg V ρ H (ns.map D.int) (ns.map L2.V.int)
  | [] => .nil
  | n :: ns => .cons (.int n) (rep_ints ns)
/-- what H tracks are lists and empty tables -/
def Few (h : Heap) (H : Hp) : Prop := ∀ b o, h.get? b = some o → H b ≠ none → (∃ vs n, o.data = .seq vs n ∧ o.cls = .type "list") ∨ (o.cls = .none ∧ o.data = .fields #[])
section
variable {h : Heap} {H : Hp}
theorem Few.free (f : Few h H) {b : Addr} {o : Obj} (e : h.get? b = some o) (h1 : ∀ vs n, o.data = .seq vs n → o.cls ≠ .type "list") (h2 : o.cls = .none → o.data ≠ .fields #[]) : (hidT h H).get? b = some o := hidT_get e (by
  cases q : H b with
  | none => rfl
  | some u =>
    rcases f b o e (by rw [q]; exact Option.some_ne_none u) with ⟨vs, n, z1, z2⟩ | ⟨z1, z2⟩
    · exact absurd z2 (h1 vs n z1)
    · exact absurd z2 (h2 z1))
theorem Few.ns (f : Few h H) {b : Addr} {m : Str → Option Value} (x : h.Ns b m) : (hidT h H).Ns b m := by
  obtain ⟨o, es, ep, e, d, r⟩ := x
  refine ⟨o, es, ep, f.free e (fun vs n z => ?_) (fun _ z => ?_), d, r⟩
  · rw [d] at z
    cases z
  · rw [d] at z
    cases z
theorem Few.seer (f : Few h H) (x : h.NoSeer) : (hidT h H).NoSeer := by
  refine ⟨?_, ?_, ?_, ?_⟩
  · obtain ⟨mc, h1, h2⟩ := x.statics
    exact ⟨mc, f.ns h1, h2⟩
  · obtain ⟨mc, h1, h2⟩ := x.mods
    exact ⟨mc, f.ns h1, h2⟩
  · obtain ⟨mc, h1, h2⟩ := x.imp
    exact ⟨mc, f.ns h1, h2⟩
  · obtain ⟨mg, bm, ob, h1, h2, h3, h4, h5⟩ := x.main
    refine ⟨mg, bm, ob, f.ns h1, h2, f.free h3 (fun _ _ _ z => ?_) (fun z => ?_), h4, h5⟩
    · rw [h4] at z
      exact absurd (Value.type.inj z) (by decide)
    · rw [h4] at z
      cases z
end
/-- tables and code objects of the top -/
structure Tops (K : PySem.W.Frag) (h : Heap) (cs : List (Addr × Addr)) : Prop where
  code : ∀ p ∈ cs, PySem.W.CodeHd h p.1 p.2
  tab : ∀ p ∈ cs, h.get? p.2 = some { cls := .none, data := .fields #[] }
  out : ∀ p ∈ cs, K.lookup p.2 = none
/-- the law's call, where the top has run -/
theorem law_end {P : Program} {w : World} {K : PySem.W.Frag} {mg mb : Str → Option Value} {V : Vw} {k : Nat} {fa a : Addr} {fd : FuncData} {ps : List Str} {sp : Sp} {s₁ : Shared} {vs : List Value} {ns : List Int} {cs : List (Addr × Addr)}
    (KX : K.In s₁.heap) (hns : s₁.heap.Ns mainGlobals mg) (hb : s₁.heap.Ns builtinsNs mb) (hbb : ∀ x : Str, x ≠ "__name__" → mb x = bootBuiltins x) (hlim : s₁.heap.NoLimit) (hseer : s₁.heap.NoSeer) (hg : s₁.gens = #[]) (TP : Tops K s₁.heap cs)
    (hbm : ∃ (bm : Addr) (ob : Obj), mg "__builtins__" = some (.ref bm) ∧ bm ≠ builtinsNs ∧ s₁.heap.get? bm = some ob ∧ ob.cls = .type "module" ∧ ob.dict = some builtinsNs ∧ ob.data = .plain)
    (ha : s₁.heap.get? a = some { cls := .type "list", data := .seq vs.toArray }) (hi : IntsAre vs ns) (hl : ns.length ≤ sizeLine) (hr : Room k callerA) (hV : V.fs = [])
    (F : ∀ base : Heap, base.NoSeer → (∀ p ∈ cs, LamX.TabB base mg p.1 p.2) → FnG P w K mg base V k fa fd ps sp) (hbind : BindsTo s₁ fd ⟨[.ref a], []⟩ (ps.zip [.ref a]))
    (hsp : ∀ H : Hp, (∀ p ∈ cs, H p.2 = some (.tbl #[])) → (∀ b qs, H b = some (.tbl qs) → ∃ p ∈ cs, p.2 = b) → SqL K H a (ns.map L2.V.int) → sp [.ref a] H (fun v _ => v = .bl true) fun _ _ _ => False) :
    codeAny (model P w) callerA (.call (.ref fa) ⟨[.ref a], []⟩) (fun r s' => r = .ok (.ret (.bool true)) ∧ OldK s₁.heap s'.heap ∧ s'.os = s₁.os ∧ AllBare s'.gens) s₁ := by
  have rv := vals_ints hi
  have tabAt : ∀ {b : Addr}, b ∈ cs.map (·.2) → s₁.heap.get? b = some { cls := .none, data := .fields #[] } := fun {b} m => by
    obtain ⟨p, hp, rfl⟩ := List.mem_map.mp m
    exact TP.tab p hp
  have aNot : a ∉ cs.map (·.2) := fun m => by
    have q := tabAt m
    rw [ha] at q
    have z : Data.seq vs.toArray _ = Data.fields #[] := congrArg Obj.data (Option.some.inj q)
    cases z
  have core : ∀ H : Hp, (∀ p ∈ cs, H p.2 = some (.tbl #[])) → (∀ b u, H b = some u → (b ∈ cs.map (·.2) ∧ u = .tbl #[]) ∨ (b = a ∧ ∃ o xs, u = .frz o (.lst xs))) → SqL K H a (ns.map L2.V.int) → HOk P w H s₁.heap → (H a ≠ none → K.lookup a = none) →
      codeAny (model P w) callerA (.call (.ref fa) ⟨[.ref a], []⟩) (fun r s' => r = .ok (.ret (.bool true)) ∧ OldK s₁.heap s'.heap ∧ s'.os = s₁.os ∧ AllBare s'.gens) s₁ := by
    intro H isTab only seq hok notK
    have few : Few s₁.heap H := fun b o e n => by
      obtain ⟨u, hu⟩ := Option.ne_none_iff_exists'.mp n
      rcases only b u hu with ⟨m, _⟩ | ⟨rfl, _⟩
      · rw [tabAt m] at e
        cases e
        exact .inr ⟨rfl, rfl⟩
      · rw [ha] at e
        cases e
        exact .inl ⟨_, _, rfl, rfl⟩
    have keepK : K.In (hidT s₁.heap H) := fun b o e => hidT_get (KX b o e) (by
      cases q : H b with
      | none => rfl
      | some u =>
        rcases only b u q with ⟨m, _⟩ | ⟨rfl, _⟩
        · obtain ⟨p, hp, rfl⟩ := List.mem_map.mp m
          rw [TP.out p hp] at e
          cases e
        · rw [notK (by rw [q]; exact Option.some_ne_none u)] at e
          cases e)
    obtain ⟨mc, c1, c2⟩ := hlim
    have env0 : Env0 P w K mg (hidT s₁.heap H) callerA [] s₁ H := by
      refine ⟨rfl, ⟨keepK, few.ns hns, ⟨mb, few.ns hb, hbb⟩, ⟨mc, few.ns c1, c2⟩⟩, fun b o e => of_hidT e, Nat.le_of_eq (hidT_size _ _), True.intro, ?_, hok, AllBare.of_eq hg⟩
      intro b hb
      cases hb
    have TB : ∀ p ∈ cs, LamX.TabB (hidT s₁.heap H) mg p.1 p.2 := fun p hp => by
      have atP := TP.tab p hp
      refine ⟨?_, ?_, fun z => ?_⟩
      · obtain ⟨o, us, file, tf, flags, tg, inF, text, tt, e1, r1, r2, r3, rest⟩ := TP.code p hp
        refine ⟨o, us, file, tf, flags, tg, inF, text, tt, few.free e1 (fun vs n z => ?_) (fun _ z => ?_), r1, r2, r3, rest⟩
        · rw [r2] at z
          cases z
        · rw [r2] at z
          cases z
          simp at r3
      · obtain ⟨bm, ob, b1, b2, b3, b4, b5, b6⟩ := hbm
        have n1 : bm ≠ mainGlobals := fun q => by
          obtain ⟨o, es, ep, e, hd, _⟩ := hns
          rw [q, e] at b3
          cases b3
          rw [hd] at b6
          cases b6
        have n2 : bm ≠ p.2 := fun q => by
          rw [q, atP] at b3
          cases b3
          cases b6
        refine ⟨bm, ob, b1, b2, n1, n2, few.free b3 (fun vs n z => ?_) (fun _ z => ?_), b4, b5, b6⟩
        · rw [b6] at z
          cases z
        · rw [b6] at z
          cases z
      · obtain ⟨o, es, ep, e, hd, _⟩ := hns
        rw [z, atP] at e
        cases e
        cases hd
    have fr0 : FrsAt V s₁.heap H := fun d F i e => by rw [hV] at e; simp at e
    have q := (F _ (few.seer hseer) TB).run callerA [] s₁ H ⟨[.ref a], []⟩ [.ref a] [.ref a] _ _ hr rfl env0 fr0 hbind (.cons rfl .nil) (hsp H isTab (fun b qs e => by
      rcases only b _ e with ⟨m, _⟩ | ⟨_, o, xs, z⟩
      · obtain ⟨p, hp, z⟩ := List.mem_map.mp m
        exact ⟨p, hp, z⟩
      · cases z) seq)
    refine codeAny_mono q ?_
    rintro (e | fl) s' z
    · obtain ⟨_, _, _, _, _, _, _, _, _, _, _, _, z⟩ := z
      exact z.elim
    · match fl, z with
      | .ret u, ⟨v, H', os, bare, un, hok', rel, e⟩ =>
        have e : v = .bl true := e
        subst e
        have e : u = Value.bool true := rel
        subst e
        have same : ∀ b o, b ∉ cs.map (·.2) → s₁.heap.get? b = some o → s'.heap.get? b = some o := fun b o nb e => by
          cases q : H b with
          | none => exact un.keep b o e q (fun m => by cases m) (fun m => by cases m)
          | some u =>
            rcases only b u q with ⟨m, _⟩ | ⟨rfl, ob, xs, rfl⟩
            · exact absurd m nb
            · obtain ⟨e1, _⟩ := hok b _ q
              obtain ⟨e2, _⟩ := hok' b _ (un.frzs b ob _ q)
              rw [e] at e1
              cases e1
              exact e2
        have longer : ∀ p ∈ cs, ∃ more : Array Value, s'.heap.get? p.2 = some { cls := .none, data := .fields more } := fun p hp => by
          obtain ⟨more, z⟩ := un.tbls p.2 #[] (isTab p hp)
          exact ⟨_, hok' p.2 _ z⟩
        refine ⟨rfl, ⟨fun b o e => ?_, fun b o e => ?_⟩, os, bare⟩
        · by_cases m : b ∈ cs.map (·.2)
          · obtain ⟨p, hp, rfl⟩ := List.mem_map.mp m
            obtain ⟨more, hm⟩ := longer p hp
            rw [TP.tab p hp] at e
            cases e
            exact .inr (.inl ⟨((TP.code p hp).tab (TP.tab p hp)).isCodeTable, rfl, #[], more, rfl, by rw [Array.empty_append]; exact hm⟩)
          · exact .inl (same b o m e)
        · by_cases m : b ∈ cs.map (·.2)
          · obtain ⟨p, hp, rfl⟩ := List.mem_map.mp m
            obtain ⟨more, hm⟩ := longer p hp
            exact ⟨_, hm⟩
          · exact ⟨o, same b o m e⟩
  have mem2 : ∀ p ∈ cs, p.2 ∈ cs.map (·.2) := fun p hp => List.mem_map.mpr ⟨p, hp, rfl⟩
  cases hk : K.lookup a with
  | some o =>
    have e := KX a o hk
    rw [ha] at e
    cases e
    obtain ⟨G, hG⟩ : ∃ G : Hp, ∀ b, G b = if b ∈ cs.map (·.2) then some (.tbl #[]) else none := ⟨fun b => _, fun b => rfl⟩
    have ga : G a = none := by rw [hG, if_neg aNot]
    have look : ∀ b u, G b = some u → b ∈ cs.map (·.2) ∧ u = .tbl #[] := fun b u z => by
      rw [hG] at z
      by_cases m : b ∈ cs.map (·.2)
      · rw [if_pos m] at z
        cases z
        exact ⟨m, rfl⟩
      · rw [if_neg m] at z
        cases z
    have z : SqL K G a (ns.map L2.V.int) := .inr ⟨_, vs.toArray, _, hk, rfl, rfl, rfl, by rw [List.size_toArray, hi.length]; exact hl, by simpa using rv⟩
    refine core G (fun p hp => by rw [hG, if_pos (mem2 p hp)]) (fun b u z => .inl (look b u z)) z (fun b u z => ?_) fun z => absurd ga z
    obtain ⟨m, rfl⟩ := look b u z
    exact tabAt m
  | none =>
    obtain ⟨G, hG⟩ : ∃ G : Hp, ∀ b, G b = if b = a then some (.frz { cls := .type "list", data := .seq vs.toArray } (.lst (ns.map L2.V.int))) else if b ∈ cs.map (·.2) then some (.tbl #[]) else none := ⟨fun b => _, fun b => rfl⟩
    have ga : G a = some (.frz { cls := .type "list", data := .seq vs.toArray } (.lst (ns.map L2.V.int))) := by rw [hG, if_pos rfl]
    have look : ∀ b u, G b = some u → (b ∈ cs.map (·.2) ∧ u = .tbl #[]) ∨ (b = a ∧ u = .frz { cls := .type "list", data := .seq vs.toArray } (.lst (ns.map L2.V.int))) := fun b u z => by
      rw [hG] at z
      by_cases hb : b = a
      · rw [if_pos hb] at z
        cases z
        exact .inr ⟨hb, rfl⟩
      · rw [if_neg hb] at z
        by_cases m : b ∈ cs.map (·.2)
        · rw [if_pos m] at z
          cases z
          exact .inl ⟨m, rfl⟩
        · rw [if_neg m] at z
          cases z
    refine core G (fun p hp => ?_) (fun b u z => (look b u z).imp id fun ⟨h1, h2⟩ => ⟨h1, _, _, h2⟩) (.inl (.inr ⟨_, ga⟩)) (fun b u z => ?_) fun _ => hk
    · rw [hG, if_neg (fun z => aNot (by rw [← z]; exact mem2 p hp)), if_pos (mem2 p hp)]
    · rcases look b u z with ⟨m, rfl⟩ | ⟨rfl, rfl⟩
      · exact tabAt m
      · exact ⟨ha, by rw [List.length_map]; exact hl, vs, _, rv, ha⟩

/-- the facts of a law's end -/
structure Facts (P : Program) (w : World) (K : PySem.W.Frag) (mg : Str → Option Value) (T : Tab) (i : Nat) (fa : Addr) (ts : List Addr) (cs : List (Addr × Addr)) (tb : List (Addr × Str)) : Prop where
  fn : ∃ (fd : FuncData) (F : Fd), T.fns[i]? = some F ∧ F.ps.length = 1 ∧ FdOk K mg T cs tb F fa fd
  tab : ∀ base : Heap, base.NoSeer → (∀ p ∈ cs, LamX.TabB base mg p.1 p.2) → TabOk P w K mg base T cs tb
  eq : tb.map (·.1) = cs.map (·.2)
  top : ∀ p ∈ cs, PySem.W.codeHdIn K p.1 p.2 = true ∧ p.2 ∈ ts ∧ K.lookup p.2 = none
theorem Facts.tops {P : Program} {w : World} {K : PySem.W.Frag} {mg : Str → Option Value} {T : Tab} {i : Nat} {fa : Addr} {ts : List Addr} {cs : List (Addr × Addr)} {tb : List (Addr × Str)} {h : Heap}
    (f : Facts P w K mg T i fa ts cs tb) (X : K.In h) (ht : ∀ a ∈ ts, h.get? a = some { cls := .none, data := .fields #[] }) : Tops K h cs :=
  ⟨fun p hp => PySem.W.codeHd_of_K X (f.top p hp).1, fun p hp => ht _ (f.top p hp).2.1, fun p hp => (f.top p hp).2.2⟩
theorem walk_mu {l : PySem.W.OpenLaw} {n k i : Nat} {q : Program} {loose : List Str} {XP : (Str → Option Value) → Heap → Prop} {YP : World → Heap → Prop} {d : DefRec} {K : Params → PySem.W.Frag} {T : Tab} {ts : List Addr}
    (hn : l.most = some n) (hn2 : n ≤ sizeLine) (hdf : d.params.defaults = []) (hr : Room k callerA) (hq : importsNone q = true)
    (hY : ∀ (w : World) (h : Heap), YP w h → (K w.params).In h ∧ ∀ a ∈ ts, h.get? a = some { cls := .none, data := .fields #[] })
    (F : ∀ (w : World) (mg : Str → Option Value) (fa : Addr) (h : Heap), (K w.params).In h → h.Ns mainGlobals mg → mg d.name = some (.ref fa) → ∃ cs tb, Facts l.prog w (K w.params) mg T i fa ts cs tb)
    (law : ∀ ns : List Int, ns.length ≤ n → ∃ st, callF T k [] i [.rol (ns.map D.int)] [] = .ok (.bl true) st) :
    PySem.W.WalkO q loose XP YP l.row.toRowW d [] (fun f vs => PySem.call f vs) := by
  refine Att.attach_call hn hdf ?_
  intro w s₀ s₁ mg mb fa o pm cd doc a vs ns G Y ho hd hcd hmg hobj hints hlen hg
  obtain ⟨KX, hts⟩ := hY w _ Y
  obtain ⟨cs, tb, f⟩ := F w mg fa _ KX G.T.g hmg
  obtain ⟨fd, Fd, e1, e2, ok⟩ := f.fn
  obtain ⟨zs, ws, v1, r1, b1⟩ := ok.bind Fd.dft.length (Nat.le_refl _)
  rw [List.drop_length] at r1
  obtain rfl := repL_nil (r1 ⟨⟨[], [], [], []⟩, [], [], []⟩ ⟨[], []⟩ (fun _ => none))
  obtain rfl := vals_nil v1
  have bt := b1 s₁ [.ref a] KX (by rw [e2]; rfl)
  have VO : VOk ⟨T, [], [], tb⟩ T tb := ⟨rfl, rfl, rfl⟩
  refine law_end (V := ⟨T, [], [], tb⟩) KX G.T.g G.T.b G.T.builtins G.T.nolimit (G.T.seer hq) hg (f.tops KX hts) G.T.bmain hobj hints (Nat.le_trans hlen hn2) hr rfl (fun base hs tbs => (tab_ok (f.tab base hs tbs) k).fn _ VO i Fd fa fd e1 ok) bt fun H hH hO seq => ?_
  obtain ⟨st, hlaw⟩ := law ns hlen
  have tb1 : ∀ p ∈ tb, ∃ c ∈ cs, c.2 = p.1 := fun p hp => by
    have : p.1 ∈ cs.map (·.2) := by rw [← f.eq]; exact List.mem_map.mpr ⟨p, hp, rfl⟩
    obtain ⟨c, hc, e⟩ := List.mem_map.mp this
    exact ⟨c, hc, e⟩
  have tbok : TbOk ⟨T, [], [], tb⟩ ⟨[], []⟩ H := by
    refine ⟨fun p hp => ?_, fun p hp => ⟨fun m => (by cases m), fun m => (by cases m)⟩, fun b qs e => ?_⟩
    · obtain ⟨c, hc, e⟩ := tb1 p hp
      exact LamX.TabS.nil (by rw [← e]; exact hH c hc)
    · obtain ⟨c, hc, rfl⟩ := hO b qs e
      have : c.2 ∈ tb.map (·.1) := by rw [f.eq]; exact List.mem_map.mpr ⟨c, hc, rfl⟩
      obtain ⟨p, hp, e⟩ := List.mem_map.mp this
      exact ⟨p, hp, e⟩
  refine ⟨by rw [e2]; rfl, ⟨[], []⟩, [.rol (ns.map D.int)], [], .cons (.rol ?_ (rep_ints ns)) .nil, ⟨rfl, fun i j a h => (by cases h), fun i a o h => (by cases h), fun i h => (by cases h), fun a m => (by cases m), fun d fi h => (by cases h), tbok⟩, ?_⟩
  · rcases seq with (h | ⟨o, h⟩) | h
    · exact .inl ⟨.inl h, fun m => (by cases m), fun m => (by cases m)⟩
    · exact .inl ⟨.inr ⟨o, h⟩, fun m => (by cases m), fun m => (by cases m)⟩
    · exact .inr fun H' => .inr h
  · have e : (⟨T, [], [], tb⟩ : Vw).frames = [] := rfl
    rw [e, hlaw]
    intro v H' ρ' e w r
    cases r
    rfl
end Mu

end
section
set_option linter.all false
set_option Elab.async false
/-! The facts of a law's end: what the top has written. -/
namespace Mu
open PySem PySem.Spec PyProof.Rows L2

/-! ### the check of a def -/
def scB (N P : List Str) (sc : Scope) : Bool :=
  (match sc.kind with | .function => true | _ => false) && !sc.isCoroutine && !sc.isGenerator && decide N.Nodup && decide (N.take P.length = P) &&
    (P.all fun x => match sc.names.lookup x with | some .local => true | some .cell => true | _ => false) && sc.names.all fun y => match y.2 with | .free => false | _ => true
theorem scB_of {N P : List Str} {sc : Scope} (h : scB N P sc = true) : FnScope N P sc := by
  unfold scB at h
  simp only [Bool.and_eq_true, Bool.not_eq_true', decide_eq_true_eq, List.all_eq_true] at h
  obtain ⟨⟨⟨⟨⟨⟨h1, h2⟩, h3⟩, h4⟩, h5⟩, h6⟩, h7⟩ := h
  refine ⟨?_, h2, h3, h4, h5, fun x hx => ?_, fun y hy e => ?_⟩
  · split at h1
    · assumption
    · cases h1
  · have q := h6 x hx
    split at q
    · exact .inl (by assumption)
    · exact .inr (by assumption)
    · cases q
  · have q := h7 y hy
    rw [e] at q
    cases q
def fdB (T : Tab) (F : Fd) (st : Stmt) : Bool :=
  scB F.names F.ps (defScope st) && chkL ⟨F.names, defScope st, fun _ => true, T, F.lams⟩ 200 F.body (defBody st)

/-! ### values that the top has written -/
def ConK (K : PySem.W.Frag) (d : D) (u : Value) : Prop := ∃ v, RelV v u ∧ ∀ mg V ρ H, Rep K mg V ρ H d v
def ConsK (K : PySem.W.Frag) (ds : List D) (us : List Value) : Prop := ∃ vs, Vals vs us ∧ ∀ mg V ρ H, RepL K mg V ρ H ds vs
def ConG (K : PySem.W.Frag) (mg : Str → Option Value) (x : Str) (d : D) : Prop := ∃ v u, mg x = some u ∧ RelV v u ∧ ∀ V ρ H, Rep K mg V ρ H d v
section
variable {K : PySem.W.Frag} {mg : Str → Option Value}
theorem con_int {i : Int} {t : Tok} : ConK K (.int i) (.int i t) := ⟨.int i, ⟨t, rfl⟩, fun _ _ _ _ => .int i⟩
theorem con_str {x : Str} {t : Tok} : ConK K (.str x) (.str x t) := ⟨.str x, ⟨t, rfl⟩, fun _ _ _ _ => .str x⟩
theorem con_non : ConK K .non .none := ⟨.non, rfl, fun _ _ _ _ => .non⟩
theorem con_bl {b : Bool} : ConK K (.bl b) (.bool b) := ⟨.bl b, rfl, fun _ _ _ _ => .bl b⟩
theorem cons_nil : ConsK K [] [] := ⟨[], .nil, fun _ _ _ _ => .nil⟩
theorem cons_cons {d : D} {u : Value} {ds : List D} {us : List Value} (h : ConK K d u) (t : ConsK K ds us) : ConsK K (d :: ds) (u :: us) := by
  obtain ⟨v, r, h⟩ := h
  obtain ⟨vs, rs, t⟩ := t
  exact ⟨v :: vs, .cons r rs, fun mg V ρ H => .cons (h mg V ρ H) (t mg V ρ H)⟩
theorem con_tup {a : Addr} {od : Option Addr} {its : Array Value} {n : Nat} {sl : Array (Option Value)} {ds : List D} (l : K.lookup a = some ⟨.type "tuple", od, .seq its n, sl⟩) (h : its.size ≤ sizeLine) (c : ConsK K ds its.toList) : ConK K (.tup ds) (.ref a) := by
  obtain ⟨vs, rs, t⟩ := c
  exact ⟨.ref a, rfl, fun mg V ρ H => .tup (.inr fun H' => .inr ⟨_, its, n, l, rfl, rfl, h, rs⟩) (t mg V ρ H)⟩
theorem con_of {h : Heap} {x : Str} {d : D} {u : Value} (X : K.In h) (G : h.Ns mainGlobals mg) (a : PySem.W.nsIn K mainGlobals x = some (some u)) (c : ConK K d u) : ConG K mg x d := by
  obtain ⟨v, r, t⟩ := c
  exact ⟨v, u, PySem.W.mg_of X G a, r, t mg⟩
def ConAll (K : PySem.W.Frag) (mg : Str → Option Value) (l : List (Str × D)) : Prop := ∀ p ∈ l, ConG K mg p.1 p.2
theorem con_nil : ConAll K mg [] := fun p h => by cases h
theorem con_cons {x : Str} {d : D} {l : List (Str × D)} (h : ConG K mg x d) (t : ConAll K mg l) : ConAll K mg ((x, d) :: l) := fun p m => by
  rcases List.mem_cons.mp m with e | m
  · subst e
    exact h
  · exact t p m
theorem con_all {l : List (Str × D)} (h : ConAll K mg l) : ∀ (i : Nat) (x : Str) (d : D), l[i]? = some (x, d) → ∃ v u, mg x = some u ∧ RelV v u ∧ ∀ V ρ H, Rep K mg V ρ H d v := fun i x d e => h (x, d) (List.mem_of_getElem? e)
end

/-! ### defs -/
section
variable {T : Tab} {cs : List (Addr × Addr)} {tb : List (Addr × Str)} {F : Fd} {st : Stmt} {K : PySem.W.Frag} {h : Heap} {mg : Str → Option Value} {f : Addr}
theorem fd_ok {oc kV dc pm cd ct : Value} {od an : Option Addr} {sl : Array (Option Value)} (X : K.In h) (G : h.Ns mainGlobals mg) (a : PySem.W.nsIn K mainGlobals F.name = some (some (.ref f)))
    (l : K.lookup f = some ⟨oc, od, .func (PySem.W.fnOf F.name F.name (defArgs st) (defBody st) (defScope st) .none kV dc pm an cd ct), sl⟩) (c : PySem.W.codeIn K cd F.name = true) (k : PySem.W.keepIn K (.ref f) = true)
    (hc : fdB T F st = true) (hd : F.dft = []) (hlm : F.lams ≠ [] → ∃ c Pt, cd = .ref c ∧ (c, Pt) ∈ cs ∧ (Pt, (F.name ++ ".<locals>.") ++ "<lambda>") ∈ tb ∧ ∀ p ∈ tb, p.1 = Pt → p.2 = (F.name ++ ".<locals>.") ++ "<lambda>")
    (hb : ∀ (kV doc pm : Value) (an : Option Addr) (cdv ct : Value) (us : List Value), us.length = F.ps.length → bindArgs (PySem.W.fnOf F.name F.name (defArgs st) (defBody st) (defScope st) .none kV doc pm an cdv ct) ⟨us, []⟩ = pure (F.ps.zip us)) :
    FdOk K mg T cs tb F f (PySem.W.fnOf F.name F.name (defArgs st) (defBody st) (defScope st) .none kV dc pm an cd ct) := by
  unfold fdB at hc
  rw [Bool.and_eq_true] at hc
  have FD : FunD K F.name F.name (defArgs st) (defBody st) (defScope st) [] [] f (PySem.W.fnOf F.name F.name (defArgs st) (defBody st) (defScope st) .none kV dc pm an cd ct) :=
    ⟨⟨oc, od, .none, kV, dc, pm, an, cd, ct, sl, rfl, l, c, .inl ⟨rfl, rfl⟩, .inl rfl⟩, k⟩
  refine ⟨PySem.W.mg_of X G a, by rw [hd]; exact Nat.zero_le _, ⟨_, _, _, _, _, FD, scB_of hc.1, hc.2, hlm⟩, fun j _ => ⟨[], [], .nil, fun V ρ H => ?_, FD.bindsN hb⟩⟩
  rw [hd, List.drop_nil]
  exact .nil
theorem rep_drop {mg : Str → Option Value} {ds : List D} {vs : List L2.V} (h : ∀ mg V ρ H, RepL K mg V ρ H ds vs) (j : Nat) : ∀ V ρ H, RepL K mg V ρ H (ds.drop j) (vs.drop j) := fun V ρ H => (h mg V ρ H).drop j
theorem fd_okD {oc kV dc pm cd ct tc : Value} {od an td : Option Addr} {sl tsl : Array (Option Value)} {t : Addr} {its : Array Value} {tn : Nat} (X : K.In h) (G : h.Ns mainGlobals mg) (a : PySem.W.nsIn K mainGlobals F.name = some (some (.ref f)))
    (l : K.lookup f = some ⟨oc, od, .func (PySem.W.fnOf F.name F.name (defArgs st) (defBody st) (defScope st) (.ref t) kV dc pm an cd ct), sl⟩) (c : PySem.W.codeIn K cd F.name = true) (k : PySem.W.keepIn K (.ref f) = true)
    (hc : fdB T F st = true) (d : K.lookup t = some ⟨tc, td, .seq its tn, tsl⟩) (e : ConsK K F.dft its.toList) (hle : F.dft.length ≤ F.ps.length) (hne : F.dft.isEmpty = false) (hlm : F.lams ≠ [] → ∃ c Pt, cd = .ref c ∧ (c, Pt) ∈ cs ∧ (Pt, (F.name ++ ".<locals>.") ++ "<lambda>") ∈ tb ∧ ∀ p ∈ tb, p.1 = Pt → p.2 = (F.name ++ ".<locals>.") ++ "<lambda>")
    (hb : ∀ j, j ≤ F.dft.length → ∀ (T : Addr) (kV doc pm : Value) (an : Option Addr) (cdv ct : Value) (us its : List Value), us.length = F.ps.length - F.dft.length + j → its.length = F.dft.length →
      ∃ k, bindArgs (PySem.W.fnOf F.name F.name (defArgs st) (defBody st) (defScope st) (.ref T) kV doc pm an cdv ct) ⟨us, []⟩ = seqItems? (.ref T) >>= k ∧ k (some its.toArray) = pure (F.ps.zip (us ++ its.drop j))) :
    FdOk K mg T cs tb F f (PySem.W.fnOf F.name F.name (defArgs st) (defBody st) (defScope st) (.ref t) kV dc pm an cd ct) := by
  unfold fdB at hc
  rw [Bool.and_eq_true] at hc
  obtain ⟨vs, rv, rd⟩ := e
  have lv : vs.length = F.dft.length := ((rd (fun _ => none) ⟨⟨[], [], [], []⟩, [], [], []⟩ ⟨[], []⟩ (fun _ => none)).length).symm
  have hv : vs ≠ [] := by
    rintro rfl
    cases hF : F.dft with
    | nil => rw [hF] at hne; cases hne
    | cons _ _ => rw [hF] at lv; cases lv
  have FD : FunD K F.name F.name (defArgs st) (defBody st) (defScope st) vs [] f (PySem.W.fnOf F.name F.name (defArgs st) (defBody st) (defScope st) (.ref t) kV dc pm an cd ct) :=
    ⟨⟨oc, od, .ref t, kV, dc, pm, an, cd, ct, sl, rfl, l, c, .inr ⟨hv, t, _, its.toList, tn, rfl, d, by simp, rv⟩, .inl rfl⟩, k⟩
  refine ⟨PySem.W.mg_of X G a, hle, ⟨_, _, _, _, _, FD, scB_of hc.1, hc.2, hlm⟩, fun j hj => ?_⟩
  obtain ⟨ws, r1, b1⟩ := FD.binds1 (ps := F.ps) (F.ps.length - F.dft.length + j) j hv (by rw [lv]; omega) fun T kV doc pm an cdv ct us its hu hi => hb j hj T kV doc pm an cdv ct us its hu (hi.trans lv)
  exact ⟨vs.drop j, ws, r1, rep_drop rd j, b1⟩
def FnsOk (K : PySem.W.Frag) (mg : Str → Option Value) (T : Tab) (cs : List (Addr × Addr)) (tb : List (Addr × Str)) (l : List Fd) : Prop := ∀ F ∈ l, ∃ a fd, FdOk K mg T cs tb F a fd
theorem fns_nil : FnsOk K mg T cs tb [] := fun F h => by cases h
theorem fns_cons {fd : FuncData} {l : List Fd} (h : FdOk K mg T cs tb F f fd) (t : FnsOk K mg T cs tb l) : FnsOk K mg T cs tb (F :: l) := fun G m => by
  rcases List.mem_cons.mp m with e | m
  · subst e
    exact ⟨_, _, h⟩
  · exact t G m
theorem fns_all {l : List Fd} (h : FnsOk K mg T cs tb l) : ∀ (i : Nat) (F : Fd), l[i]? = some F → ∃ a fd, FdOk K mg T cs tb F a fd := fun i F e => h F (List.mem_of_getElem? e)
theorem fd_at {fd : FuncData} {a : Addr} (h : FdOk K mg T cs tb F f fd) (e : mg F.name = some (.ref a)) : FdOk K mg T cs tb F a fd := by
  have q := h.at_.symm.trans e
  cases q
  exact h
theorem blts_of (X : K.In h) (G : h.Ns mainGlobals mg) (hb : ∀ x ∈ blts, PySem.W.nsIn K mainGlobals x = some none) : ∀ x ∈ blts, mg x = none := fun x m => PySem.W.mg_none_of X G (hb x m)
def NoN (K : PySem.W.Frag) (l : List Str) : Prop := ∀ x ∈ l, PySem.W.nsIn K mainGlobals x = some none
theorem non_nil : NoN K [] := fun x h => by cases h
theorem non_cons {x : Str} {l : List Str} (h : PySem.W.nsIn K mainGlobals x = some none) (t : NoN K l) : NoN K (x :: l) := fun y m => by
  rcases List.mem_cons.mp m with e | m
  · subst e
    exact h
  · exact t y m
end
end Mu

end
section
set_option linter.all false
set_option Elab.async false
set_option maxRecDepth 100000
/-! The facts of own exception classes. -/
namespace Mu
open PySem PySem.W PySem.Spec PySem.Calls PyProof.Rows L2
/-- a weaker end -/
theorem pe_wk {X : Cx} {e : Expr} {t : TE} (h : PE X e t) : PE X e (fun σ H Q => ∃ Q1, t σ H Q1 ∧ ∀ y H, Q1 y H → Q y H) :=
  ⟨fun pins s σ H Q I ⟨Q1, h1, m⟩ => thn (h.run pins s σ H Q1 I h1) fun u s1 ⟨v, H1, I1, r, q⟩ => ⟨v, H1, I1, r, m _ _ q⟩⟩
section
variable {P : Program} {w : World} {K : Frag} {mg : Str → Option Value} {C : Addr} {att : Nat → Str}
/-- a class whose __init__ keeps its argument -/
theorem raise_ini {f : Nat} {s : Bool} (N : XIni P w K mg C (att f) (cndX K mg s)) : RaiseOk P w K mg att C ⟨some f, s⟩ := by
  intro X k x ea ta p pos hP hw hK hm hc hr hg hgl hmx he hd hs
  subst hP hw hK hm
  refine fun pins s' σ H Q I h => pmk_init N hr hg hgl hmx (pe_wk he) hd hs pins s' σ H Q I ⟨_, h, fun y H1 q => ⟨fun a na => q.1 _ fun b o e => ?_, q.2⟩⟩
  rw [upd_ne (ne_of_none e na)]
  exact e
/-- a class without an own __init__ -/
structure XPl (K : Frag) (C : Addr) : Prop where
  all : ∃ B newId initId bmB, ExcBaseFacts B newId initId bmB ∧ excIn K C bmB newId = true ∧ keepIn K (.ref C) = true ∧ subIn K (.ref C) (.type "BaseException") = some true ∧ typeIn K (.ref C) = some (.type "type")
theorem raise_pl {s : Bool} (N : XPl K C) : RaiseOk P w K mg att C ⟨none, s⟩ := by
  intro X k x ea ta p pos hP hw hK hm hc hr hg hgl hmx he hd hs
  subst hP hw hK hm
  obtain ⟨B, newId, initId, bmB, F, q0, kC, sC, tC⟩ := N.all
  refine fun pins s' σ H Q I h => pmk_ownA F q0 hmx kC (raises_own sC tC) hgl (pa_cons (pe_wk he) pa_nil (star_of hs)) hd (star_of hs) rfl pins s' σ H Q I ⟨_, h, fun y H1 q => ⟨show 1 ≤ sizeLine by decide, q⟩⟩

/-! ### what the classes above say -/
theorem mro_ok {B : String} {bmB : List Value} (SF : StoreFacts B bmB "object.__setattr__" "object") (h : bmB.contains (.type "object") = true) : MroOk (.ref C :: bmB) :=
  ⟨fun self => by rw [refuseLoop_ref]; exact SF.passes self, rfl, by rw [List.contains_cons, h, Bool.or_true]⟩
/-- f'{g!r} is given' -/
theorem msg_show {N : List Str} {qual : Str} {scope : Scope} {f cc : Addr} {cd : Value} {base : Heap} {A : Around} {outer : List PySem.Env} {s0 : Shared} {H : Hp} {g suf : Str} {kk : Nat} {p1 p2 p3 p4 : Pos} (hg : A.guards = some []) (hu : A.units + 300 < cLine)
    (hv : scope.names.lookup g = some .local) (hd : (g == ("__debug__" : Str)) = false) (hc : (g == ("__classdict__" : Str)) = false) :
    PA (ctxI P w K mg base ["self", g] qual scope f cc cd A outer s0 H) [.JoinedStr [.FormattedValue (.Name g p1) 114 none p2, .Constant (.str suf) kk p3] p4]
      (tCons (fun σ H Q => tJs [tFmtD K mg (tVar 1), tC (.str suf)] Str.empty σ H fun out H1 => Q (.str out) H1) tNil) := by
  have var : PE (ctxI P w K mg base ["self", g] qual scope f cc cd A outer s0 H) (.Name g p1) (tVar 1) := pe_var rfl (.inl hv) hd hc
  have gd : (ctxI P w K mg base ["self", g] qual scope f cc cd A outer s0 H).A.guards = some [] := hg
  have un : (ctxI P w K mg base ["self", g] qual scope f cc cd A outer s0 H).A.units + 100 < cLine := by
    show A.units + 3 + 100 < cLine
    omega
  exact pa_cons (pe_joined (.cons (pe_fmtD gd un var) (.cons pe_str .nil))) pa_nil rfl
theorem msg_show_ok {suf : Str} (hs : suf.length ≤ 100) (a : Addr) (v : L2.V) (H : Hp) (Q : List L2.V → Hp → Prop) (c : cndX K mg true v H) (h : ∀ ws, ws.length ≤ sizeLine → Q ws H) :
    tCons (fun σ H Q => tJs [tFmtD K mg (tVar 1), tC (.str suf)] Str.empty σ H fun out H1 => Q (.str out) H1) tNil [some (.ref a), some v] H Q := by
  obtain ⟨V, ρ, d, sh, rd, hr, hl⟩ := c rfl
  have e : (Str.empty ++ sh).length = sh.length := by simp [Str.length_append]; rfl
  refine ⟨v, rfl, V, ρ, d, sh, rd, hr, sh, rfl, by rw [e]; omega, suf, rfl, by rw [Str.length_append, e]; omega, h _ (show 1 ≤ sizeLine by decide)⟩
/-- a constant -/
theorem msg_str {N : List Str} {qual : Str} {scope : Scope} {f cc : Addr} {cd : Value} {base : Heap} {A : Around} {outer : List PySem.Env} {s0 : Shared} {H : Hp} {z : Str} {kk : Nat} {p1 : Pos} : PA (ctxI P w K mg base N qual scope f cc cd A outer s0 H) [.Constant (.str z) kk p1] (tCons (tC (.str z)) tNil) := pa_cons pe_str pa_nil rfl
theorem msg_str_ok {z : Str} (a : Addr) (v : L2.V) (H : Hp) (Q : List L2.V → Hp → Prop) (h : ∀ ws, ws.length ≤ sizeLine → Q ws H) : tCons (tC (.str z)) tNil [some (.ref a), some v] H Q := h _ (show 1 ≤ sizeLine by decide)

theorem xini_show {h : Heap} (X : K.In h) (G : h.Ns mainGlobals mg) {fld : Str} {B newId initId : String} {bmB : List Value} {fI cc cdA Nn : Addr} {nm q qual g file : Str} {bs : List Value} {sn : List Str} {sub : List Value} {ab : Bool} {col : Option Bool} {dd od cdd cld an : Option Addr} {k0 k1 k2 k3 k5 : Option Value} {params : Arguments} {scope : Scope}
    {oc dV kV doc pm ct ccl cl : Value} {osl ccs csl : Array (Option Value)} {vs : Array Value} {tf : Tok} {p0 p1 p2 pos spos p3 p4 p5 posA : Pos} {suf : Str} {kk : Nat} {q1 q2 q3 q4 : Pos}
    (FB : ExcBaseFacts B newId initId bmB) (KF : KxsFacts B initId) (SF : StoreFacts B bmB "object.__setattr__" "object")
    (xL : K.lookup C = some (excClassObj nm q C Nn bs bmB true sn sub ab col dd k0 k1 k2 k3 k5 newId)) (sa : findIn K (.ref C) "__setattr__" = some (some (.builtin "object.__setattr__")))
    (exC : subIn K (.ref C) (.type "BaseException") = some true) (tyC : typeIn K (.ref C) = some (.type "type")) (kC : keepIn K (.ref C) = true) (sB : subIn K (.ref C) (.type B) = some true) (own : mroIn K C (.ref C) = some true) (op : nsIn K cStatics "thirdparty.any" = some none)
    (no : findIn K (.ref C) fld = some none) (a1 : findIn K (.ref C) "__init__" = some (some (.ref fI))) (t1 : typeIn K (.ref fI) = some (.type "function"))
    (l1 : K.lookup fI = some ⟨oc, od, .func (ksFn "__init__" qual params [.Expr (.Call (.Attribute (.Call (.Name "super" p0) [] [] p1) "__init__" p2) [.JoinedStr [.FormattedValue (.Name g q1) 114 none q2, .Constant (.str suf) kk q3] q4] [] pos) spos, .Assign [.Attribute (.Name "self" p3) fld p4] (.Name g p5) posA] scope dV kV doc pm an (.ref cdA) ct cc), osl⟩)
    (c1 : codeIn K (.ref cdA) qual = true) (lc : K.lookup cdA = some ⟨ccl, cdd, .fields vs, ccs⟩) (lcell : K.lookup cc = some ⟨cl, cld, .cell (some (.ref C)), csl⟩) (ns : nsIn K mainGlobals "super" = some none)
    (al : alongIn K "__init__" bmB = some (some (.builtin initId))) (ob : bmB.contains (.type "object") = true) (hvs : vs[2]? = some (.str file tf)) (hfile : ((P.main.file : Str) == file) = true)
    (bind : ∀ u v : Value, bindArgs (ksFn "__init__" qual params [.Expr (.Call (.Attribute (.Call (.Name "super" p0) [] [] p1) "__init__" p2) [.JoinedStr [.FormattedValue (.Name g q1) 114 none q2, .Constant (.str suf) kk q3] q4] [] pos) spos, .Assign [.Attribute (.Name "self" p3) fld p4] (.Name g p5) posA] scope dV kV doc pm an (.ref cdA) ct cc) ⟨[u, v], []⟩ = pure [(("self" : Str), u), (g, v)])
    (head : ∃ ar : Arg, (params.posonlyargs ++ params.args).head? = some ar ∧ ar.arg = "self") (sc : ScI ["self", g] ["self", g] scope) (hks : scope.names.lookup ("super" : Str) = some .globalImplicit) (hkc : scope.names.lookup ("__class__" : Str) = some .free) (htop : (P.main.scope.names.lookup ("super" : Str)).isSome = false)
    (hgd : (g == ("__debug__" : Str)) = false) (hgc : (g == ("__classdict__" : Str)) = false) (hsuf : suf.length ≤ 100)
    (hev : ∀ env : PySem.Env, ∃ pl : Sem Bool, eval (.Call (.Attribute (.Call (.Name "super" p0) [] [] p1) "__init__" p2) [.JoinedStr [.FormattedValue (.Name g q1) 114 none q2, .Constant (.str suf) kk q3] q4] [] pos) env = (do
      let ov ← attributeBase (.Call (.Name "super" p0) [] [] p1) "__init__" env (eval (.Call (.Name "super" p0) [] [] p1) env)
      standAt p2.atName
      let (gf, first) ← holding [ov] (getMethod ov "__init__" pl)
      callWith pos gf first (backTo pos (starEach [.JoinedStr [.FormattedValue (.Name g q1) 114 none q2, .Constant (.str suf) kk q3] q4] env)) [])) : XIni P w K mg C fld (cndX K mg true) :=
  ⟨⟨B, newId, initId, bmB, fI, cc, cdA, qual, params, scope, g, _, .JoinedStr [.FormattedValue (.Name g q1) 114 none q2, .Constant (.str suf) kk q3] q4, _, p0, p1, p2, pos, spos, p3, p4, p5, posA, ⟨FB, KF, ⟨nm, q, Nn, bs, bmB, sn, sub, ab, col, dd, k0, k1, k2, k3, k5, xL, fun _ => rfl, mro_ok SF ob, al⟩, sa, exC, tyC, kC, sB, own, op⟩,
    ⟨⟨oc, od, dV, kV, doc, pm, an, ct, osl, rfl, l1⟩, c1, ⟨ccl, cdd, vs, ccs, file, tf, lc, hvs, hfile⟩, ⟨cl, cld, csl, lcell⟩, bind, head, sc, mg_none_of X G ns, hks, hkc, htop⟩, no, hgd, hgc, rfl, a1, t1, hev,
    fun base A outer s0 H hg hu => msg_show (N := []) hg hu (sc.par g (List.mem_cons_of_mem _ List.mem_cons_self)) hgd hgc, fun a v H Q c h => msg_show_ok hsuf a v H Q c h⟩⟩

theorem xini_str {h : Heap} (X : K.In h) (G : h.Ns mainGlobals mg) {fld : Str} {B newId initId : String} {bmB : List Value} {fI cc cdA Nn : Addr} {nm q qual g file : Str} {bs : List Value} {sn : List Str} {sub : List Value} {ab : Bool} {col : Option Bool} {dd od cdd cld an : Option Addr} {k0 k1 k2 k3 k5 : Option Value} {params : Arguments} {scope : Scope}
    {oc dV kV doc pm ct ccl cl : Value} {osl ccs csl : Array (Option Value)} {vs : Array Value} {tf : Tok} {p0 p1 p2 pos spos p3 p4 p5 posA : Pos} {suf : Str} {kk : Nat} {q1 : Pos}
    (FB : ExcBaseFacts B newId initId bmB) (KF : KxsFacts B initId) (SF : StoreFacts B bmB "object.__setattr__" "object")
    (xL : K.lookup C = some (excClassObj nm q C Nn bs bmB true sn sub ab col dd k0 k1 k2 k3 k5 newId)) (sa : findIn K (.ref C) "__setattr__" = some (some (.builtin "object.__setattr__")))
    (exC : subIn K (.ref C) (.type "BaseException") = some true) (tyC : typeIn K (.ref C) = some (.type "type")) (kC : keepIn K (.ref C) = true) (sB : subIn K (.ref C) (.type B) = some true) (own : mroIn K C (.ref C) = some true) (op : nsIn K cStatics "thirdparty.any" = some none)
    (no : findIn K (.ref C) fld = some none) (a1 : findIn K (.ref C) "__init__" = some (some (.ref fI))) (t1 : typeIn K (.ref fI) = some (.type "function"))
    (l1 : K.lookup fI = some ⟨oc, od, .func (ksFn "__init__" qual params [.Expr (.Call (.Attribute (.Call (.Name "super" p0) [] [] p1) "__init__" p2) [.Constant (.str suf) kk q1] [] pos) spos, .Assign [.Attribute (.Name "self" p3) fld p4] (.Name g p5) posA] scope dV kV doc pm an (.ref cdA) ct cc), osl⟩)
    (c1 : codeIn K (.ref cdA) qual = true) (lc : K.lookup cdA = some ⟨ccl, cdd, .fields vs, ccs⟩) (lcell : K.lookup cc = some ⟨cl, cld, .cell (some (.ref C)), csl⟩) (ns : nsIn K mainGlobals "super" = some none)
    (al : alongIn K "__init__" bmB = some (some (.builtin initId))) (ob : bmB.contains (.type "object") = true) (hvs : vs[2]? = some (.str file tf)) (hfile : ((P.main.file : Str) == file) = true)
    (bind : ∀ u v : Value, bindArgs (ksFn "__init__" qual params [.Expr (.Call (.Attribute (.Call (.Name "super" p0) [] [] p1) "__init__" p2) [.Constant (.str suf) kk q1] [] pos) spos, .Assign [.Attribute (.Name "self" p3) fld p4] (.Name g p5) posA] scope dV kV doc pm an (.ref cdA) ct cc) ⟨[u, v], []⟩ = pure [(("self" : Str), u), (g, v)])
    (head : ∃ ar : Arg, (params.posonlyargs ++ params.args).head? = some ar ∧ ar.arg = "self") (sc : ScI ["self", g] ["self", g] scope) (hks : scope.names.lookup ("super" : Str) = some .globalImplicit) (hkc : scope.names.lookup ("__class__" : Str) = some .free) (htop : (P.main.scope.names.lookup ("super" : Str)).isSome = false)
    (hgd : (g == ("__debug__" : Str)) = false) (hgc : (g == ("__classdict__" : Str)) = false)
    (hev : ∀ env : PySem.Env, ∃ pl : Sem Bool, eval (.Call (.Attribute (.Call (.Name "super" p0) [] [] p1) "__init__" p2) [.Constant (.str suf) kk q1] [] pos) env = (do
      let ov ← attributeBase (.Call (.Name "super" p0) [] [] p1) "__init__" env (eval (.Call (.Name "super" p0) [] [] p1) env)
      standAt p2.atName
      let (gf, first) ← holding [ov] (getMethod ov "__init__" pl)
      callWith pos gf first (backTo pos (starEach [.Constant (.str suf) kk q1] env)) [])) : XIni P w K mg C fld (cndX K mg false) :=
  ⟨⟨B, newId, initId, bmB, fI, cc, cdA, qual, params, scope, g, _, .Constant (.str suf) kk q1, _, p0, p1, p2, pos, spos, p3, p4, p5, posA, ⟨FB, KF, ⟨nm, q, Nn, bs, bmB, sn, sub, ab, col, dd, k0, k1, k2, k3, k5, xL, fun _ => rfl, mro_ok SF ob, al⟩, sa, exC, tyC, kC, sB, own, op⟩,
    ⟨⟨oc, od, dV, kV, doc, pm, an, ct, osl, rfl, l1⟩, c1, ⟨ccl, cdd, vs, ccs, file, tf, lc, hvs, hfile⟩, ⟨cl, cld, csl, lcell⟩, bind, head, sc, mg_none_of X G ns, hks, hkc, htop⟩, no, hgd, hgc, rfl, a1, t1, hev,
    fun base A outer s0 H hg hu => msg_str, fun a v H Q _ h => msg_str_ok a v H Q h⟩⟩
end
/-! ### all classes of a table -/
section
variable {P : Program} {w : World} {K : Frag} {mg : Str → Option Value} {C : Addr} {att : Nat → Str} {h : Heap} {x : Str} {T : Tab}
theorem nm_of (X : K.In h) (G : h.Ns mainGlobals mg) (a : nsIn K mainGlobals x = some (some (.ref C))) : mg x = some (.ref C) := mg_of X G a
theorem raise_plB {s : Bool} {B newId initId : String} {bmB : List Value} (X : K.In h) (F : ExcBaseFacts B newId initId bmB) (n : mg x = some (.ref C)) (q : excIn K C bmB newId = true) (k : keepIn K (.ref C) = true) (s' : subIn K (.ref C) (.type "BaseException") = some true) (t : typeIn K (.ref C) = some (.type "type")) :
    RaiseOk P w K mg att C ⟨none, s⟩ := raise_pl ⟨B, newId, initId, bmB, F, q, k, s', t⟩
theorem raise_iniB {f : Nat} {s : Bool} (n : mg x = some (.ref C)) (N : XIni P w K mg C (att f) (cndX K mg s)) : RaiseOk P w K mg att C ⟨some f, s⟩ := raise_ini N
def scIB (ps : List Str) (sc : Scope) : Bool := decide (sc.kind = .function) && !sc.isCoroutine && !sc.isGenerator && decide ps.Nodup && (ps.all fun x => decide (sc.names.lookup x = some .local)) && sc.names.all fun y => !decide (y.2 = .cell) && (!decide (y.2 = .free) || decide (y.1 = ("__class__" : Str)))
theorem scI_by {ps : List Str} {sc : Scope} (h : scIB ps sc = true) : ScI ps ps sc := by
  unfold scIB at h
  simp only [Bool.and_eq_true, Bool.or_eq_true, Bool.not_eq_true', decide_eq_true_eq, decide_eq_false_iff_not, List.all_eq_true] at h
  obtain ⟨⟨⟨⟨⟨h1, h2⟩, h3⟩, h4⟩, h5⟩, h6⟩ := h
  refine ⟨h1, h2, h3, h4, rfl, h5, fun y hy => (h6 y hy).1, fun y hy => ?_⟩
  rcases (h6 _ (PySem.mem_of_lookup hy)).2 with z | z
  · exact absurd rfl z
  · exact z
def ClsAll (P : Program) (w : World) (K : Frag) (mg : Str → Option Value) (att : Nat → Str) (l : List Cl) : Prop := ∀ k ∈ l, ∃ C, mg k.name = some (.ref C) ∧ ∀ xi, k.exc = some xi → RaiseOk P w K mg att C xi
theorem cls_nil : ClsAll P w K mg att [] := fun k m => by cases m
theorem cls_cons {k : Cl} {l : List Cl} (n : mg k.name = some (.ref C)) (r : ∀ xi, k.exc = some xi → RaiseOk P w K mg att C xi) (t : ClsAll P w K mg att l) : ClsAll P w K mg att (k :: l) := fun y m => by
  rcases List.mem_cons.mp m with e | m
  · subst e
    exact ⟨C, n, r⟩
  · exact t y m
theorem cls_all {l : List Cl} (t : ClsAll P w K mg att l) : ∀ (i : Nat) (k : Cl), l[i]? = some k → ∃ C, mg k.name = some (.ref C) ∧ ∀ xi, k.exc = some xi → RaiseOk P w K mg att C xi := fun i k e => t k (List.mem_of_getElem? e)
def AdrAll (mg : Str → Option Value) : List Cl → List Addr → Prop
  | [], [] => True
  | k :: l, a :: as => mg k.name = some (.ref a) ∧ AdrAll mg l as
  | _, _ => False
theorem adr_nil : AdrAll mg [] [] := True.intro
theorem adr_cons {k : Cl} {l : List Cl} {a : Addr} {as : List Addr} (n : mg k.name = some (.ref a)) (t : AdrAll mg l as) : AdrAll mg (k :: l) (a :: as) := ⟨n, t⟩
theorem adr_at : ∀ {l : List Cl} {as : List Addr}, AdrAll mg l as → ∀ {i : Nat} {k : Cl} {a : Addr}, l[i]? = some k → mg k.name = some (.ref a) → as[i]? = some a
  | [], [], _, i, k, a, h1, _ => by simp at h1
  | _ :: _, [], h, _, _, _, _, _ => h.elim
  | [], _ :: _, h, _, _, _, _, _ => h.elim
  | k :: l, a :: as, ⟨h1, h2⟩, 0, k', a', e, n => by
    cases e
    rw [h1] at n
    cases n
    rfl
  | k :: l, a :: as, ⟨h1, h2⟩, i + 1, k', a', e, n => adr_at h2 (i := i) (by simpa using e) n
def exmB (K : Frag) (T : Tab) (as : List Addr) : Bool := (List.range as.length).all fun i => (List.range as.length).all fun j => match as[i]?, as[j]? with
  | some a, some b => decide (exmOne K (.ref a) (.ref b) = some (T.isSub i j))
  | _, _ => true
theorem exm_all {as : List Addr} (A : AdrAll mg T.cls as) (b : exmB K T as = true) : ∀ (i j : Nat) (k l : Cl) (C D : Addr) (xi : XI), T.cls[i]? = some k → T.cls[j]? = some l → mg k.name = some (.ref C) → mg l.name = some (.ref D) → k.exc = some xi → l.exc ≠ none → exmOne K (.ref C) (.ref D) = some (T.isSub i j) := by
  intro i j k l C D xi h1 h2 h3 h4 _ _
  have e1 := adr_at A h1 h3
  have e2 := adr_at A h2 h4
  have q := List.all_eq_true.mp (List.all_eq_true.mp b i (List.mem_range.mpr (List.getElem?_eq_some_iff.mp e1).1)) j (List.mem_range.mpr (List.getElem?_eq_some_iff.mp e2).1)
  rw [e1, e2] at q
  exact of_decide_eq_true q
def xfAllB (K : Frag) (T : Tab) (as : List Addr) : Bool := (List.range as.length).all fun i => match as[i]?, T.cls[i]? with
  | some a, some k => (match k.exc with
    | some xi => (match xi.fld with
      | some f => xfB K a && decide (findIn K (.ref a) (T.attN f) = some none)
      | none => true)
    | none => true)
  | _, _ => true
theorem xf_all {as : List Addr} (A : AdrAll mg T.cls as) (b : xfAllB K T as = true) : ∀ (i : Nat) (k : Cl) (C : Addr) (xi : XI) (f : Nat), T.cls[i]? = some k → mg k.name = some (.ref C) → k.exc = some xi → xi.fld = some f → XfC K C ∧ findIn K (.ref C) (T.attN f) = some none := by
  intro i k C xi f h1 h2 h3 h4
  have e1 := adr_at A h1 h2
  have q := List.all_eq_true.mp b i (List.mem_range.mpr (List.getElem?_eq_some_iff.mp e1).1)
  rw [e1, h1] at q
  simp only [h3, h4] at q
  rw [Bool.and_eq_true] at q
  exact ⟨xfB_ok q.1, of_decide_eq_true q.2⟩
theorem top_all {cs : List (Addr × Addr)} {ts : List Addr} (b : (cs.all fun p => codeHdIn K p.1 p.2 && ts.contains p.2 && (K.lookup p.2).isNone) = true) : ∀ p ∈ cs, codeHdIn K p.1 p.2 = true ∧ p.2 ∈ ts ∧ K.lookup p.2 = none := fun p hp => by
  have q := List.all_eq_true.mp b p hp
  rw [Bool.and_eq_true, Bool.and_eq_true] at q
  exact ⟨q.1.1, List.contains_iff_mem.mp q.1.2, Option.isNone_iff_eq_none.mp q.2⟩
end
end Mu

end
section
set_option linter.all false
set_option Elab.async false
/-! A run behind other objects of the store, in an environment that holds more: the same answer, moved. -/
namespace Mu
open PySem

mutual
def D.sh (n : Nat) : D → D
  | .tup xs => .tup (D.shs n xs)
  | .lst xs => .lst (D.shs n xs)
  | .rol xs => .rol (D.shs n xs)
  | .dic ks vs => .dic ks (D.shs n vs)
  | .obj c ks vs => .obj c ks (D.shs n vs)
  | .ref i => .ref (n + i)
  | .non => .non
  | .bl b => .bl b
  | .int i => .int i
  | .str x => .str x
  | .ty t => .ty t
  | .fn i => .fn i
  | .cls i => .cls i
  | .clo d i => .clo d i
def D.shs (n : Nat) : List D → List D
  | [] => []
  | x :: xs => D.sh n x :: D.shs n xs
end
def O.sh (n : Nat) : O → O
  | .lst xs => .lst (D.shs n xs)
  | .dic ks vs => .dic ks (D.shs n vs)
  | .ins c ks vs => .ins c ks (D.shs n vs)
  | .gone => .gone
theorem shs_map (n : Nat) : ∀ xs : List D, D.shs n xs = xs.map (D.sh n)
  | [] => rfl
  | x :: xs => by rw [D.shs, shs_map n xs]; rfl
mutual
theorem sh_plain (n : Nat) : ∀ d : D, d.plain = true → d.sh n = d
  | .tup xs, h => by unfold D.sh; rw [shs_plain n xs (by unfold D.plain at h; exact h)]
  | .lst xs, h => by unfold D.sh; rw [shs_plain n xs (by unfold D.plain at h; exact h)]
  | .non, _ => by unfold D.sh; rfl
  | .bl _, _ => by unfold D.sh; rfl
  | .int _, _ => by unfold D.sh; rfl
  | .str _, _ => by unfold D.sh; rfl
  | .rol _, h => by simp [D.plain] at h
  | .dic _ _, h => by simp [D.plain] at h
  | .obj _ _ _, h => by simp [D.plain] at h
  | .ref _, h => by simp [D.plain] at h
  | .ty _, _ => by unfold D.sh; rfl
  | .fn _, _ => by unfold D.sh; rfl
  | .cls _, _ => by unfold D.sh; rfl
  | .clo _ _, _ => by unfold D.sh; rfl
theorem shs_plain (n : Nat) : ∀ ds : List D, D.plains ds = true → D.shs n ds = ds
  | [], _ => rfl
  | d :: ds, h => by
    unfold D.plains at h
    rw [Bool.and_eq_true] at h
    unfold D.shs
    rw [sh_plain n d h.1, shs_plain n ds h.2]
end
mutual
theorem sh_low (n m : Nat) : ∀ d : D, D.low (n + m) (d.sh n) = D.low m d
  | .tup xs => by unfold D.sh D.low; exact shs_low n m xs
  | .lst xs => by unfold D.sh D.low; exact shs_low n m xs
  | .rol xs => by unfold D.sh D.low; exact shs_low n m xs
  | .dic _ xs => by unfold D.sh D.low; exact shs_low n m xs
  | .obj _ _ xs => by unfold D.sh D.low; exact shs_low n m xs
  | .ref i => by unfold D.sh D.low; rw [decide_eq_decide]; omega
  | .non => by unfold D.sh D.low; rfl
  | .bl _ => by unfold D.sh D.low; rfl
  | .int _ => by unfold D.sh D.low; rfl
  | .str _ => by unfold D.sh D.low; rfl
  | .ty _ => by unfold D.sh D.low; rfl
  | .fn _ => by unfold D.sh D.low; rfl
  | .cls _ => by unfold D.sh D.low; rfl
  | .clo _ _ => by unfold D.sh D.low; rfl
theorem shs_low (n m : Nat) : ∀ ds : List D, D.lows (n + m) (D.shs n ds) = D.lows m ds
  | [] => rfl
  | d :: ds => by unfold D.shs D.lows; rw [sh_low n m d, shs_low n m ds]
end
mutual
theorem sh_lowC (n m : Nat) : ∀ d : D, D.lowC m (d.sh n) = D.lowC m d
  | .tup xs => by unfold D.sh D.lowC; exact shs_lowC n m xs
  | .lst xs => by unfold D.sh D.lowC; exact shs_lowC n m xs
  | .rol xs => by unfold D.sh D.lowC; exact shs_lowC n m xs
  | .dic _ xs => by unfold D.sh D.lowC; exact shs_lowC n m xs
  | .obj _ _ xs => by unfold D.sh D.lowC; exact shs_lowC n m xs
  | .ref i => by unfold D.sh D.lowC; rfl
  | .non => by unfold D.sh; rfl
  | .bl _ => by unfold D.sh; rfl
  | .int _ => by unfold D.sh; rfl
  | .str _ => by unfold D.sh; rfl
  | .ty _ => by unfold D.sh; rfl
  | .fn _ => by unfold D.sh; rfl
  | .cls _ => by unfold D.sh; rfl
  | .clo _ _ => by unfold D.sh; rfl
theorem shs_lowC (n m : Nat) : ∀ ds : List D, D.lowsC m (D.shs n ds) = D.lowsC m ds
  | [] => rfl
  | d :: ds => by unfold D.shs D.lowsC; rw [sh_lowC n m d, shs_lowC n m ds]
end
mutual
theorem sh_isplain (n : Nat) : ∀ d : D, (d.sh n).plain = d.plain
  | .tup xs => by unfold D.sh D.plain; exact shs_isplain n xs
  | .lst xs => by unfold D.sh D.plain; exact shs_isplain n xs
  | .rol xs => by unfold D.sh D.plain; rfl
  | .dic _ xs => by unfold D.sh D.plain; rfl
  | .obj _ _ xs => by unfold D.sh D.plain; rfl
  | .ref i => by unfold D.sh D.plain; rfl
  | .non => by unfold D.sh; rfl
  | .bl _ => by unfold D.sh; rfl
  | .int _ => by unfold D.sh; rfl
  | .str _ => by unfold D.sh; rfl
  | .ty _ => by unfold D.sh; rfl
  | .fn _ => by unfold D.sh; rfl
  | .cls _ => by unfold D.sh; rfl
  | .clo _ _ => by unfold D.sh; rfl
theorem shs_isplain (n : Nat) : ∀ ds : List D, D.plains (D.shs n ds) = D.plains ds
  | [] => rfl
  | d :: ds => by unfold D.shs D.plains; rw [sh_isplain n d, shs_isplain n ds]
end
mutual
theorem sh_py (n : Nat) : ∀ d : D, (d.sh n).py = d.py
  | .tup xs => by unfold D.sh D.py; rw [shs_py n xs]
  | .lst xs => by unfold D.sh D.py; rw [shs_py n xs]
  | .rol xs => by unfold D.sh D.py; rfl
  | .dic _ xs => by unfold D.sh D.py; rfl
  | .obj _ _ xs => by unfold D.sh D.py; rfl
  | .ref i => by unfold D.sh D.py; rfl
  | .non => by unfold D.sh; rfl
  | .bl _ => by unfold D.sh; rfl
  | .int _ => by unfold D.sh; rfl
  | .str _ => by unfold D.sh; rfl
  | .ty _ => by unfold D.sh; rfl
  | .fn _ => by unfold D.sh; rfl
  | .cls _ => by unfold D.sh; rfl
  | .clo _ _ => by unfold D.sh; rfl
theorem shs_py (n : Nat) : ∀ ds : List D, D.pys (D.shs n ds) = D.pys ds
  | [] => rfl
  | d :: ds => by unfold D.shs D.pys; rw [sh_py n d, shs_py n ds]
end
theorem shs_len (n : Nat) (ds : List D) : (D.shs n ds).length = ds.length := by rw [shs_map, List.length_map]
theorem shs_app (n : Nat) (a b : List D) : D.shs n (a ++ b) = D.shs n a ++ D.shs n b := by rw [shs_map, shs_map, shs_map, List.map_append]
theorem shs_get (n : Nat) (ds : List D) (i : Nat) : (D.shs n ds)[i]? = (ds[i]?).map (D.sh n) := by rw [shs_map, List.getElem?_map]

/-! ### what is moved -/
/-- the store behind st0 -/
def shS (st0 : Sto) (st : Sto) : Sto := st0 ++ st.map (O.sh st0.length)
/-- st0 speaks of itself alone, holds no lambdas -/
structure Base (st0 : Sto) : Prop where
  low : st0.all (O.low st0.length) = true
  lowC : st0.all (O.lowC 0) = true
section
variable {st0 : Sto}
theorem shS_len (st : Sto) : (shS st0 st).length = st0.length + st.length := by unfold shS; simp
theorem shS_get (st : Sto) (i : Nat) : (shS st0 st)[st0.length + i]? = (st[i]?).map (O.sh st0.length) := by
  unfold shS
  rw [List.getElem?_append_right (by omega), Nat.add_sub_cancel_left, List.getElem?_map]
theorem shS_set (st : Sto) (i : Nat) (o : O) : (shS st0 st).set (st0.length + i) (o.sh st0.length) = shS st0 (st.set i o) := by
  unfold shS
  rw [List.set_append_right _ _ (by omega), Nat.add_sub_cancel_left, List.map_set]
theorem shS_push (st : Sto) (o : O) : shS st0 st ++ [o.sh st0.length] = shS st0 (st ++ [o]) := by
  unfold shS
  rw [List.map_append, List.append_assoc]
  rfl
def RsD (st0 : Sto) : Res D → Res D
  | .ok d st => .ok (d.sh st0.length) (shS st0 st)
  | .exc c v st => .exc c (v.map (D.sh st0.length)) (shS st0 st)
  | .stuck => .stuck
def RsX {α β : Type} (f : α → β) (st0 : Sto) : Res α → Res β
  | .ok d st => .ok (f d) (shS st0 st)
  | .exc c v st => .exc c (v.map (D.sh st0.length)) (shS st0 st)
  | .stuck => .stuck
/-- the run r' is r, moved; where r is stuck nothing is said -/
def Mvd {α β : Type} (f : α → β) (st0 : Sto) (r : Res α) (r' : Res β) : Prop := match r with
  | .stuck => True
  | r => r' = RsX f st0 r
abbrev MvD (st0 : Sto) (r r' : Res D) : Prop := Mvd (D.sh st0.length) st0 r r'
theorem Mvd.bind {α β γ δ : Type} {f : α → β} {g : γ → δ} {r : Res α} {r' : Res β} {k : α → Sto → Res γ} {k' : β → Sto → Res δ} (h : Mvd f st0 r r') (hk : ∀ a st, Mvd g st0 (k a st) (k' (f a) (shS st0 st))) : Mvd g st0 (r.bind k) (r'.bind k') := by
  cases r with
  | ok a st =>
    have h : r' = .ok (f a) (shS st0 st) := h
    rw [h]
    exact hk a st
  | exc c v st =>
    have h : r' = .exc c (v.map (D.sh st0.length)) (shS st0 st) := h
    rw [h]
    rfl
  | stuck => trivial
theorem Mvd.of {α β : Type} {f : α → β} {o : Option α} {o' : Option β} {st : Sto} (h : ∀ a, o = some a → o' = some (f a)) : Mvd f st0 (Res.of o st) (Res.of o' (shS st0 st)) := by
  cases o with
  | none => trivial
  | some a => rw [h a rfl]; rfl
theorem Mvd.stuck {α β : Type} {f : α → β} {r' : Res β} : Mvd f st0 (.stuck : Res α) r' := trivial
theorem Mvd.ok {α β : Type} {f : α → β} {a : α} {st : Sto} : Mvd f st0 (.ok a st) (.ok (f a) (shS st0 st)) := rfl
theorem Mvd.still {α β : Type} {f : α → β} {r : Res α} {r' : Res β} (h : Mvd f st0 r r') : Mvd f st0 r.still r'.still := by
  cases r with
  | ok a st =>
    have h : r' = .ok (f a) (shS st0 st) := h
    rw [h]
    rfl
  | exc c v st => trivial
  | stuck => trivial

/-! ### plain functions -/
theorem items_sh {st : Sto} {d : D} {xs : List D} (h : Sto.items st d = some xs) : Sto.items (shS st0 st) (d.sh st0.length) = some (D.shs st0.length xs) := by
  cases d with
  | lst ys => cases h; unfold D.sh; rfl
  | ref i =>
    have h : (match st[i]? with | some (.lst xs) => some xs | _ => none) = some xs := h
    unfold D.sh
    show (match (shS st0 st)[st0.length + i]? with | some (.lst xs) => some xs | _ => none) = _
    rw [shS_get]
    split at h
    · rename_i e
      cases h
      rw [e]
      rfl
    · cases h
  | _ => cases h
theorem seqD_sh {st : Sto} {d : D} {xs : List D} (h : seqD st d = some xs) : seqD (shS st0 st) (d.sh st0.length) = some (D.shs st0.length xs) := by
  cases d with
  | tup ys => cases h; unfold D.sh; rfl
  | rol ys => cases h; unfold D.sh; rfl
  | lst ys => cases h; unfold D.sh; rfl
  | ref i =>
    have q := items_sh (st0 := st0) (show Sto.items st (.ref i) = some xs from h)
    unfold D.sh at q ⊢
    exact q
  | _ => cases h
theorem see_sh (st : Sto) (d : D) : Sto.see (shS st0 st) (d.sh st0.length) = (Sto.see st d).sh st0.length := by
  cases d with
  | ref i =>
    unfold D.sh
    show (match (shS st0 st)[st0.length + i]? with | some (.lst xs) => D.lst xs | _ => .ref (st0.length + i)) = _
    rw [shS_get]
    unfold Sto.see
    simp only
    cases st[i]? with
    | none => rfl
    | some o => cases o <;> rfl
  | _ => rfl
theorem dataOk_sh (n : Nat) (d : D) : dataOk (d.sh n) = dataOk d := by unfold dataOk; rw [sh_isplain, sh_py]
theorem eqD_other {x y : D} (h : ∀ a b, x = .str a → y = .str b → False) : eqD x y = if dataOk x && dataOk y then some (PyData.eqv x.py y.py) else none := by
  unfold eqD
  split
  · exact (h _ _ rfl rfl).elim
  · rfl
theorem eqD_sh {n : Nat} {x y : D} {b : Bool} (h : eqD x y = some b) : eqD (x.sh n) (y.sh n) = some b := by
  by_cases hs : ∃ a c, x = .str a ∧ y = .str c
  · obtain ⟨a, c, rfl, rfl⟩ := hs
    exact h
  · have e := eqD_other (x := x) (y := y) fun a b h1 h2 => hs ⟨a, b, h1, h2⟩
    have h0 := h
    rw [e] at h
    split at h
    · rename_i z
      rw [Bool.and_eq_true] at z
      unfold dataOk at z
      rw [Bool.and_eq_true, Bool.and_eq_true] at z
      rw [sh_plain n _ z.1.1, sh_plain n _ z.2.1]
      exact h0
    · cases h
theorem flat_sh {n : Nat} {d : D} {v : L2.V} (h : flatD d = some v) : d.sh n = d := by
  cases d <;> first | rfl | cases h
theorem flats_sh {n : Nat} : ∀ {ds : List D} {vs : List L2.V}, flatsD ds = some vs → D.shs n ds = ds
  | [], _, _ => rfl
  | d :: ds, vs, h => by
    unfold flatsD at h
    split at h
    · rename_i v ws h1 h2
      unfold D.shs
      rw [flat_sh h1, flats_sh h2]
    · cases h
theorem repL_sh (n : Nat) (xs : List D) : ∀ k, D.shs n (repL xs k) = repL (D.shs n xs) k
  | 0 => rfl
  | k + 1 => by unfold repL; rw [shs_app, repL_sh n xs k]
theorem binD_sh {n k : Nat} {o : Operator} {x y z : D} (h : binD k o x y = some z) : binD k o (x.sh n) (y.sh n) = some (z.sh n) := by
  have num2 : ∀ {i j : Int}, x = .int i → y = .int j → binD k o (x.sh n) (y.sh n) = some (z.sh n) := fun {i j} e1 e2 => by
    subst e1 e2
    have : z.sh n = z := by
      cases o with
      | Add => cases h; rfl
      | Sub => cases h; rfl
      | Mult =>
        have h : (if mulOk i j then some (D.int (i * j)) else none) = some z := h
        split at h
        · cases h; rfl
        · cases h
      | FloorDiv =>
        have h : (if j = 0 then none else if 40 ≤ k then some (D.int (i.fdiv j)) else none) = some z := h
        split at h
        · cases h
        · split at h
          · cases h; rfl
          · cases h
      | Mod =>
        have h : (if j = 0 then none else some (D.int (i.fmod j))) = some z := h
        split at h
        · cases h
        · cases h; rfl
      | Pow =>
        have h : (if powOk i j then some (D.int (i ^ j.toNat)) else none) = some z := h
        split at h
        · cases h; rfl
        · cases h
      | _ => cases h
    rw [this]
    exact h
  cases x with
  | int i =>
    cases y with
    | int j => exact num2 rfl rfl
    | _ => cases o <;> cases h
  | str a =>
    cases y with
    | str b =>
      cases o <;> first | cases h | skip
      have h : (if a.length + b.length ≤ sizeLine then some (D.str (a ++ b)) else none) = some z := h
      have q := h
      split at h
      · cases h
        exact q
      · cases h
    | _ => cases o <;> cases h
  | tup xs =>
    cases y with
    | tup ys =>
      cases o <;> first | cases h | skip
      have h : (if xs.length + ys.length ≤ sizeLine then some (D.tup (xs ++ ys)) else none) = some z := h
      split at h
      · rename_i hl
        cases h
        show (if (D.shs n xs).length + (D.shs n ys).length ≤ sizeLine then some (D.tup (D.shs n xs ++ D.shs n ys)) else none) = some (.tup (D.shs n (xs ++ ys)))
        rw [shs_len, shs_len, if_pos hl, shs_app]
      · cases h
    | int j =>
      cases o <;> first | cases h | skip
      have h : (if (j.natAbs ≤ 1000 && decide (xs.length ≤ 1000)) = true then some (D.tup (repL xs j.toNat)) else none) = some z := h
      split at h
      · rename_i hl
        cases h
        show (if (j.natAbs ≤ 1000 && decide ((D.shs n xs).length ≤ 1000)) = true then some (D.tup (repL (D.shs n xs) j.toNat)) else none) = some (.tup (D.shs n (repL xs j.toNat)))
        rw [shs_len, if_pos hl, repL_sh]
      · cases h
    | _ => cases o <;> cases h
  | lst xs =>
    cases y with
    | lst ys =>
      cases o <;> first | cases h | skip
      have h : (if xs.length + ys.length ≤ sizeLine then some (D.lst (xs ++ ys)) else none) = some z := h
      split at h
      · rename_i hl
        cases h
        show (if (D.shs n xs).length + (D.shs n ys).length ≤ sizeLine then some (D.lst (D.shs n xs ++ D.shs n ys)) else none) = some (.lst (D.shs n (xs ++ ys)))
        rw [shs_len, shs_len, if_pos hl, shs_app]
      · cases h
    | int j =>
      cases o <;> first | cases h | skip
      have h : (if (j.natAbs ≤ 1000 && decide (xs.length ≤ 1000)) = true then some (D.lst (repL xs j.toNat)) else none) = some z := h
      split at h
      · rename_i hl
        cases h
        show (if (j.natAbs ≤ 1000 && decide ((D.shs n xs).length ≤ 1000)) = true then some (D.lst (repL (D.shs n xs) j.toNat)) else none) = some (.lst (D.shs n (repL xs j.toNat)))
        rw [shs_len, if_pos hl, repL_sh]
      · cases h
    | _ => cases o <;> cases h
  | _ => cases o <;> first | cases h | (cases y <;> cases h)
theorem isNon_sh (n : Nat) (d : D) : isNon (d.sh n) = isNon d := by cases d <;> rfl
theorem inSeq_sh {n : Nat} {x : D} {ys : List D} {b : Bool} (h : inSeq x ys = some b) : inSeq (x.sh n) (D.shs n ys) = some b := by
  have q := h
  unfold inSeq at h
  split at h
  · rename_i v vs h1 h2
    rw [flat_sh h1, flats_sh h2]
    exact q
  · cases h
theorem inD_sh {n : Nat} {x y : D} {b : Bool} (h : inD x y = some b) : inD (x.sh n) (y.sh n) = some b := by
  cases y with
  | str c => cases x <;> first | exact h | cases h
  | tup ys => exact inSeq_sh (x := x) (ys := ys) h
  | lst ys => exact inSeq_sh (x := x) (ys := ys) h
  | _ => cases h
theorem cmpD_sh {n : Nat} {o : CmpOp} {x y : D} {b : Bool} (h : cmpD o x y = some b) : cmpD o (x.sh n) (y.sh n) = some b := by
  cases o with
  | Eq => exact eqD_sh (x := x) (y := y) h
  | NotEq =>
    have h : (eqD x y).map (!·) = some b := h
    obtain ⟨c, hc, rfl⟩ := Option.map_eq_some_iff.mp h
    show (eqD (x.sh n) (y.sh n)).map (!·) = _
    rw [eqD_sh hc]
    rfl
  | In => exact inD_sh (x := x) (y := y) h
  | NotIn =>
    have h : (inD x y).map (!·) = some b := h
    obtain ⟨c, hc, rfl⟩ := Option.map_eq_some_iff.mp h
    show (inD (x.sh n) (y.sh n)).map (!·) = _
    rw [inD_sh hc]
    rfl
  | Is => cases y <;> first | (show some (isNon (x.sh n)) = _; rw [isNon_sh]; exact h) | cases h | (cases x <;> first | exact h | cases h)
  | IsNot => cases y <;> first | (show some (!isNon (x.sh n)) = _; rw [isNon_sh]; exact h) | cases h | (cases x <;> first | exact h | cases h)
  | _ => cases x <;> first | cases h | (cases y <;> first | exact h | cases h)
theorem isEmpty_sh (n : Nat) (xs : List D) : (D.shs n xs).isEmpty = xs.isEmpty := by cases xs <;> rfl
theorem truth_sh {st : Sto} {d : D} {b : Bool} (h : truth st d = some b) : truth (shS st0 st) (d.sh st0.length) = some b := by
  cases d with
  | tup xs =>
    have h : some (!xs.isEmpty) = some b := h
    show some (!(D.shs st0.length xs).isEmpty) = some b
    rw [isEmpty_sh]
    exact h
  | lst xs =>
    have h : some (!xs.isEmpty) = some b := h
    show some (!(D.shs st0.length xs).isEmpty) = some b
    rw [isEmpty_sh]
    exact h
  | ref i =>
    have h : (Sto.items st (.ref i)).map (fun xs => !xs.isEmpty) = some b := h
    obtain ⟨xs, hx, rfl⟩ := Option.map_eq_some_iff.mp h
    have q := items_sh (st0 := st0) hx
    show (Sto.items (shS st0 st) (.ref (st0.length + i))).map (fun xs => !xs.isEmpty) = _
    have q : Sto.items (shS st0 st) (.ref (st0.length + i)) = some (D.shs st0.length xs) := q
    rw [q]
    show some (!(D.shs st0.length xs).isEmpty) = _
    rw [isEmpty_sh]
  | _ => first | exact h | cases h
theorem atD_sh (n : Nat) (xs : List D) (i : Int) : atD (D.shs n xs) i = (atD xs i).map (D.sh n) := by
  unfold atD
  rw [shs_len, shs_get, shs_get]
  split
  · rfl
  · split
    · rfl
    · rfl
theorem idxD_sh {st : Sto} {x i z : D} (h : idxD st x i = some z) : idxD (shS st0 st) (x.sh st0.length) (i.sh st0.length) = some (z.sh st0.length) := by
  cases i with
  | int i =>
    by_cases hs : ∃ y, x = .str y
    · obtain ⟨y, rfl⟩ := hs
      have h : (if y.length ≤ sizeLine then (atD y.cps.toList i).map fun c => D.str ⟨#[c]⟩ else none) = some z := h
      have q := h
      split at h
      · obtain ⟨c, _, rfl⟩ := Option.map_eq_some_iff.mp h
        exact q
      · cases h
    · have e : ∀ st (x : D), (∀ y, x ≠ .str y) → idxD st x (.int i) = (seqD st x).bind fun xs => atD xs i := fun st x hx => by
        cases x <;> first | rfl | exact absurd rfl (hx _)
      rw [e st x fun y hy => hs ⟨y, hy⟩] at h
      obtain ⟨xs, hx, ha⟩ := Option.bind_eq_some_iff.mp h
      show idxD (shS st0 st) (x.sh st0.length) (.int i) = _
      rw [e _ _ fun y hy => ?_, seqD_sh hx]
      · show atD (D.shs st0.length xs) i = _
        rw [atD_sh, ha]
        rfl
      · cases x <;> first | exact hs ⟨_, rfl⟩ | cases hy
  | _ => cases h
theorem cutD_sh (n : Nat) (xs : List D) (lo hi : Option Int) : D.shs n (cutD xs lo hi) = cutD (D.shs n xs) lo hi := by
  unfold cutD
  rw [shs_len, shs_map, shs_map, List.map_take, List.map_drop]
theorem tyD_sh {st : Sto} {d : D} {t : Tn} (h : tyD st d = some t) : tyD (shS st0 st) (d.sh st0.length) = some t := by
  cases d with
  | ref i =>
    have h : (match st[i]? with | some (.lst _) => some Tn.list | some (.dic _ _) => some .dict | _ => none) = some t := h
    show (match (shS st0 st)[st0.length + i]? with | some (.lst _) => some Tn.list | some (.dic _ _) => some .dict | _ => none) = some t
    rw [shS_get]
    cases e : st[i]? with
    | none => rw [e] at h; cases h
    | some o =>
      rw [e] at h
      cases o <;> first | exact h | cases h
  | _ => first | exact h | cases h
theorem allB_sh (n : Nat) : ∀ {xs : List D} {b : Bool}, allB xs = some b → D.shs n xs = xs
  | [], _, _ => rfl
  | d :: ds, b, h => by
    cases d <;> first | cases h | skip
    obtain ⟨c, hc, _⟩ := Option.map_eq_some_iff.mp h
    show _ :: D.shs n ds = _
    rw [allB_sh n hc]
    rfl
theorem anyB_sh (n : Nat) : ∀ {xs : List D} {b : Bool}, anyB xs = some b → D.shs n xs = xs
  | [], _, _ => rfl
  | d :: ds, b, h => by
    cases d <;> first | cases h | skip
    obtain ⟨c, hc, _⟩ := Option.map_eq_some_iff.mp h
    show _ :: D.shs n ds = _
    rw [anyB_sh n hc]
    rfl
theorem reprD_sh {n : Nat} {d : D} {s : Str} (h : reprD d = some s) : reprD (d.sh n) = some s := by
  have : d.sh n = d := by
    unfold reprD at h
    split at h
    · rename_i z
      simp only [Bool.and_eq_true] at z
      have hp := z.1.1.1
      by_cases hd : ∃ ks vs, d = .dic ks vs
      · obtain ⟨ks, vs, rfl⟩ := hd
        have hp : (decide (ks.length = vs.length) && vs.all D.flat) = true := hp
        rw [Bool.and_eq_true] at hp
        show D.dic ks (D.shs n vs) = _
        have e : ∀ vs : List D, vs.all D.flat = true → D.shs n vs = vs := fun vs => by
          induction vs with
          | nil => intro _; rfl
          | cons v vs ih =>
            intro h
            rw [List.all_cons, Bool.and_eq_true] at h
            unfold D.shs
            rw [ih h.2]
            cases v <;> first | rfl | cases h.1
        rw [e vs hp.2]
      · have e1 : d.plainT = d.plain := by cases d <;> first | rfl | exact absurd ⟨_, _, rfl⟩ hd
        rw [e1] at hp
        exact sh_plain n d hp
    · cases h
  rw [this]
  exact h
theorem bltD_sh {f : Blt} {ds : List D} {st : Sto} {z : D} (h : bltD f ds st = some z) : bltD f (D.shs st0.length ds) (shS st0 st) = some (z.sh st0.length) := by
  have one : ∀ d : D, D.shs st0.length [d] = [d.sh st0.length] := fun _ => rfl
  cases f with
  | len =>
    match ds, h with
    | [d], h =>
      by_cases hs : ∃ y, d = .str y
      · obtain ⟨y, rfl⟩ := hs
        have h : (if y.length ≤ sizeLine then some (D.int y.length) else none) = some z := h
        have q := h
        split at h
        · cases h
          exact q
        · cases h
      · have e : ∀ st (x : D), (∀ y, x ≠ .str y) → bltD .len [x] st = (seqD st x).map fun ys => .int ys.length := fun st x hx => by
          cases x <;> first | rfl | exact absurd rfl (hx _)
        rw [e st d fun y hy => hs ⟨y, hy⟩] at h
        obtain ⟨xs, hx, rfl⟩ := Option.map_eq_some_iff.mp h
        rw [one, e _ _ fun y hy => ?_, seqD_sh hx]
        · show some (D.int (D.shs st0.length xs).length) = _
          rw [shs_len]
          rfl
        · cases d <;> first | exact hs ⟨_, rfl⟩ | cases hy
    | [], h => cases h
    | a :: _ :: _, h => cases a <;> cases h
  | abs =>
    match ds, h with
    | [.int i], h => cases h; rfl
  | min =>
    match ds, h with
    | [.int i, .int j], h => cases h; rfl
  | max =>
    match ds, h with
    | [.int i, .int j], h => cases h; rfl
  | int =>
    match ds, h with
    | [.int i], h => cases h; rfl
    | [.bl i], h => cases h; rfl
  | tuple =>
    match ds, h with
    | [d], h =>
      by_cases hs : ∃ y, d = .tup y
      · obtain ⟨y, rfl⟩ := hs
        cases h
        rfl
      · have e : ∀ st (x : D), (∀ y, x ≠ .tup y) → bltD .tuple [x] st = (Sto.items st x).map .tup := fun st x hx => by
          cases x <;> first | rfl | exact absurd rfl (hx _)
        rw [e st d fun y hy => hs ⟨y, hy⟩] at h
        obtain ⟨xs, hx, rfl⟩ := Option.map_eq_some_iff.mp h
        rw [one, e _ _ fun y hy => ?_, items_sh hx]
        · rfl
        · cases d <;> first | exact hs ⟨_, rfl⟩ | cases hy
    | [], h => cases h
    | a :: _ :: _, h => cases a <;> cases h
  | list =>
    match ds, h with
    | [d], h =>
      obtain ⟨xs, hx, rfl⟩ := Option.map_eq_some_iff.mp (show (seqD st d).map D.lst = some z from h)
      rw [one]
      show (seqD (shS st0 st) (d.sh st0.length)).map D.lst = _
      rw [seqD_sh hx]
      rfl
  | all =>
    match ds, h with
    | [d], h =>
      obtain ⟨b, hb, rfl⟩ := Option.map_eq_some_iff.mp (show ((Sto.items st d).bind allB).map D.bl = some z from h)
      obtain ⟨xs, hx, ha⟩ := Option.bind_eq_some_iff.mp hb
      rw [one]
      show ((Sto.items (shS st0 st) (d.sh st0.length)).bind allB).map D.bl = _
      rw [items_sh hx, Option.bind_some, allB_sh _ ha, ha]
      rfl
  | any =>
    match ds, h with
    | [d], h =>
      obtain ⟨b, hb, rfl⟩ := Option.map_eq_some_iff.mp (show ((Sto.items st d).bind anyB).map D.bl = some z from h)
      obtain ⟨xs, hx, ha⟩ := Option.bind_eq_some_iff.mp hb
      rw [one]
      show ((Sto.items (shS st0 st) (d.sh st0.length)).bind anyB).map D.bl = _
      rw [items_sh hx, Option.bind_some, anyB_sh _ ha, ha]
      rfl
  | isinstance =>
    match ds, h with
    | [d, .ty t], h =>
      obtain ⟨a, ha, rfl⟩ := Option.map_eq_some_iff.mp (show (tyD st d).map (fun a => D.bl (subTy a t)) = some z from h)
      show (tyD (shS st0 st) (d.sh st0.length)).map (fun a => D.bl (subTy a t)) = _
      rw [tyD_sh ha]
      rfl
  | repr =>
    match ds, h with
    | [d], h =>
      obtain ⟨s, hs, rfl⟩ := Option.map_eq_some_iff.mp (show (reprD d).map D.str = some z from h)
      show (reprD (d.sh st0.length)).map D.str = _
      rw [reprD_sh hs]
      rfl
  | str => cases h
  | sum => cases h
theorem bmD_sh {m : Bm} {x z : D} {ds : List D} {st st' : Sto} (h : bmD m x ds st = some (z, st')) : bmD m (x.sh st0.length) (D.shs st0.length ds) (shS st0 st) = some (z.sh st0.length, shS st0 st') := by
  have lst_at : ∀ {i : Nat} {xs : List D}, st[i]? = some (.lst xs) → (shS st0 st)[st0.length + i]? = some (.lst (D.shs st0.length xs)) := fun e => by rw [shS_get, e]; rfl
  cases m with
  | append =>
    match x, ds, h with
    | .ref i, [d], h =>
      have h : (match st[i]? with
        | some (.lst xs) => if xs.length < sizeLine then some (D.non, st.set i (.lst (xs ++ [d]))) else none
        | _ => none) = some (z, st') := h
      split at h
      · rename_i xs e
        split at h
        · rename_i hl
          cases h
          show (match (shS st0 st)[st0.length + i]? with
            | some (.lst xs) => if xs.length < sizeLine then some (D.non, (shS st0 st).set (st0.length + i) (.lst (xs ++ [d.sh st0.length]))) else none
            | _ => none) = _
          rw [lst_at e]
          simp only [shs_len, if_pos hl]
          have e2 : (O.lst (xs ++ [d])).sh st0.length = .lst (D.shs st0.length xs ++ [d.sh st0.length]) := by
            show O.lst (D.shs st0.length (xs ++ [d])) = _
            rw [shs_app]
            rfl
          rw [← e2, shS_set]
          rfl
        · cases h
      · cases h
  | extend =>
    match x, ds, h with
    | .ref i, [.lst ys], h =>
      have h : (match st[i]? with
        | some (.lst xs) => if xs.length + ys.length ≤ sizeLine then some (D.non, st.set i (.lst (xs ++ ys))) else none
        | _ => none) = some (z, st') := h
      split at h
      · rename_i xs e
        split at h
        · rename_i hl
          cases h
          show (match (shS st0 st)[st0.length + i]? with
            | some (.lst xs) => if xs.length + (D.shs st0.length ys).length ≤ sizeLine then some (D.non, (shS st0 st).set (st0.length + i) (.lst (xs ++ D.shs st0.length ys))) else none
            | _ => none) = _
          rw [lst_at e]
          simp only [shs_len, if_pos hl]
          have e2 : (O.lst (xs ++ ys)).sh st0.length = .lst (D.shs st0.length xs ++ D.shs st0.length ys) := by
            show O.lst (D.shs st0.length (xs ++ ys)) = _
            rw [shs_app]
          rw [← e2, shS_set]
          rfl
        · cases h
      · cases h
  | _ => cases x <;> cases h
theorem bmOk_sh {x : D} {st : Sto} (h : bmOk x st = true) : bmOk (x.sh st0.length) (shS st0 st) = true := by
  cases x with
  | ref i =>
    have h : (match st[i]? with | some (.lst _) => true | _ => false) = true := h
    show (match (shS st0 st)[st0.length + i]? with | some (.lst _) => true | _ => false) = true
    rw [shS_get]
    cases e : st[i]? with
    | none => rw [e] at h; cases h
    | some o => rw [e] at h; cases o <;> first | rfl | cases h
  | _ => cases h
theorem frzD_sh (d : D) (st : Sto) : MvD st0 (frzD d st) (frzD (d.sh st0.length) (shS st0 st)) := by
  cases d with
  | ref i =>
    show Mvd _ st0 (match st[i]? with | some (.lst xs) => Res.ok (D.lst xs) (st.set i .gone) | _ => .stuck) (match (shS st0 st)[st0.length + i]? with | some (.lst xs) => Res.ok (D.lst xs) ((shS st0 st).set (st0.length + i) .gone) | _ => .stuck)
    rw [shS_get]
    cases st[i]? with
    | none => trivial
    | some o =>
      cases o with
      | lst xs =>
        show Res.ok (D.lst (D.shs st0.length xs)) ((shS st0 st).set (st0.length + i) .gone) = _
        have q := shS_set (st0 := st0) st i .gone
        unfold O.sh at q
        rw [q]
        rfl
      | _ => trivial
  | _ => rfl
end
end Mu

end
section
set_option linter.all false
set_option Elab.async false
/-! The interpreter's runs, moved. -/
namespace Mu
open PySem
mutual
theorem sh_low0 (n : Nat) : ∀ d : D, d.low 0 = true → d.sh n = d
  | .tup xs, h => by unfold D.sh; rw [shs_low0 n xs (by unfold D.low at h; exact h)]
  | .lst xs, h => by unfold D.sh; rw [shs_low0 n xs (by unfold D.low at h; exact h)]
  | .rol xs, h => by unfold D.sh; rw [shs_low0 n xs (by unfold D.low at h; exact h)]
  | .dic ks xs, h => by unfold D.sh; rw [shs_low0 n xs (by unfold D.low at h; exact h)]
  | .obj c ks xs, h => by unfold D.sh; rw [shs_low0 n xs (by unfold D.low at h; exact h)]
  | .ref i, h => by
    unfold D.low at h
    exact absurd (of_decide_eq_true h) (by omega)
  | .non, _ => by unfold D.sh; rfl
  | .bl _, _ => by unfold D.sh; rfl
  | .int _, _ => by unfold D.sh; rfl
  | .str _, _ => by unfold D.sh; rfl
  | .ty _, _ => by unfold D.sh; rfl
  | .fn _, _ => by unfold D.sh; rfl
  | .cls _, _ => by unfold D.sh; rfl
  | .clo _ _, _ => by unfold D.sh; rfl
theorem shs_low0 (n : Nat) : ∀ ds : List D, D.lows 0 ds = true → D.shs n ds = ds
  | [], _ => rfl
  | d :: ds, h => by
    unfold D.lows at h
    rw [Bool.and_eq_true] at h
    unfold D.shs
    rw [sh_low0 n d h.1, shs_low0 n ds h.2]
end
/-- what e holds, moved, over b -/
def over (n : Nat) (b e : Env) : Env := e.mapIdx fun i c => match c with
  | some d => some (d.sh n)
  | none => match b[i]? with
    | some o => o
    | none => none
theorem over_get (n : Nat) (b e : Env) (i : Nat) : (over n b e)[i]? = (e[i]?).map fun c => match c with
  | some d => some (d.sh n)
  | none => match b[i]? with
    | some o => o
    | none => none := by
  unfold over
  rw [List.getElem?_mapIdx]
theorem over_len (n : Nat) (b e : Env) : (over n b e).length = e.length := by unfold over; rw [List.length_mapIdx]
theorem over_at {n : Nat} {b e : Env} {i : Nat} {d : D} (h : e.at i = some d) : (over n b e).at i = some (d.sh n) := by
  have : e[i]? = some (some d) := by
    unfold Env.at at h
    split at h
    · rename_i q
      cases h
      exact q
    · cases h
  unfold Env.at
  rw [over_get, this]
  rfl
theorem over_set (n : Nat) (b e : Env) (i : Nat) (d : D) : (over n b e).set i (some (d.sh n)) = over n b (e.set i (some d)) := by
  refine List.ext_getElem? fun j => ?_
  by_cases hij : i = j
  · subst hij
    by_cases hl : i < e.length
    · rw [List.getElem?_set_self (by rw [over_len]; exact hl), over_get, List.getElem?_set_self hl]
      rfl
    · rw [List.getElem?_eq_none (by rw [List.length_set, over_len]; omega), List.getElem?_eq_none (by rw [over_len, List.length_set]; omega)]
  · rw [List.getElem?_set_ne hij, over_get, over_get, List.getElem?_set_ne hij]
theorem wipeE_len : ∀ (vs : List Nat) (e : Env), (wipeE e vs).length = e.length
  | [], _ => rfl
  | v :: vs, e => by unfold wipeE; rw [List.length_set, wipeE_len vs e]
theorem wipeE_get : ∀ (vs : List Nat) (e : Env) (j : Nat), (wipeE e vs)[j]? = if j ∈ vs then (e[j]?).map (fun _ => none) else e[j]?
  | [], _, _ => by simp [wipeE]
  | v :: vs, e, j => by
    unfold wipeE
    by_cases hv : v = j
    · subst hv
      simp only [List.mem_cons, true_or, if_true]
      by_cases hl : v < e.length
      · rw [List.getElem?_set_self (by rw [wipeE_len]; exact hl)]
        simp [hl]
      · rw [List.getElem?_eq_none (by rw [List.length_set, wipeE_len]; omega), List.getElem?_eq_none (by omega)]
        rfl
    · rw [List.getElem?_set_ne hv, wipeE_get vs e j]
      have : (j ∈ v :: vs) = (j ∈ vs) := by simp [List.mem_cons, Ne.symm hv]
      simp only [this]
theorem over_wipe (n : Nat) (b e : Env) (vs : List Nat) : wipeE (over n b e) vs = over n (wipeE b vs) (wipeE e vs) := by
  refine List.ext_getElem? fun j => ?_
  rw [wipeE_get, over_get, over_get, wipeE_get, wipeE_get]
  by_cases h : j ∈ vs
  · simp only [h, if_true, Option.map_map]
    cases e[j]? with
    | none => rfl
    | some c => cases b[j]? <;> rfl
  · simp only [h, if_false]
/-- nothing more is held -/
theorem over_self {n : Nat} {b e : Env} (hl : e.length = b.length) (h : ∀ (i : Nat) (d : D), e[i]? = some (some d) → b[i]? = some (some (d.sh n))) : over n b e = b := by
  refine List.ext_getElem? fun j => ?_
  rw [over_get]
  cases hj : e[j]? with
  | none =>
    rw [List.getElem?_eq_none_iff] at hj
    rw [List.getElem?_eq_none (by omega)]
    rfl
  | some c =>
    cases c with
    | some d => rw [h j d hj]; rfl
    | none =>
      have : j < b.length := by rw [← hl]; exact (List.getElem?_eq_some_iff.mp hj).1
      simp [this]

section
variable {st0 : Sto}
theorem binD_mono {k k' : Nat} {o : Operator} {x y z : D} (hk : k ≤ k') (h : binD k o x y = some z) : binD k' o x y = some z := by
  cases o with
  | FloorDiv =>
    cases x with
    | int i =>
      cases y with
      | int j =>
        have h : (if j = 0 then none else if 40 ≤ k then some (D.int (i.fdiv j)) else none) = some z := h
        show (if j = 0 then none else if 40 ≤ k' then some (D.int (i.fdiv j)) else none) = some z
        split at h
        · cases h
        · rename_i hj
          rw [if_neg hj]
          split at h
          · rw [if_pos (by omega)]
            exact h
          · cases h
      | _ => cases h
    | _ => cases h
  | _ => exact h
/-- two contexts that answer alike -/
structure CfR (st0 : Sto) (C C' : Cf) : Prop where
  k : C.k ≤ C'.k
  T : C'.T = C.T
  dep : C'.dep = C.dep
  con : ∀ p ∈ C.T.con, p.2.low 0 = true
  call : ∀ (b e : Env) (f : Nat) (ds : List D) (st : Sto), MvD st0 (C.call e f ds st) (C'.call (over st0.length b e) f (D.shs st0.length ds) (shS st0 st))
  clo : ∀ (b e : Env) (d i : Nat) (ds : List D) (st : Sto), MvD st0 (C.clo e d i ds st) (C'.clo (over st0.length b e) d i (D.shs st0.length ds) (shS st0 st))
theorem CfR.blk {C C' : Cf} (h : CfR st0 C C') (b e : Env) : CfR st0 (C.blk e) (C'.blk (over st0.length b e)) :=
  ⟨h.k, h.T, h.dep, h.con, fun _ _ f ds st => h.call b e f ds st, fun _ _ d i ds st => h.clo b e d i ds st⟩
abbrev MvL (st0 : Sto) (r r' : Res (List D)) : Prop := Mvd (D.shs st0.length) st0 r r'
theorem evL_sh {f f' : E → Sto → Res D} (h : ∀ E st, MvD st0 (f E st) (f' E (shS st0 st))) : ∀ (es : List E) (st : Sto), MvL st0 (evL f es st) (evL f' es (shS st0 st))
  | [], st => rfl
  | e :: es, st => (h e st).bind fun d st => (evL_sh h es st).bind fun ds st => rfl
theorem evLS_sh {f f' : E → Sto → Res D} (h : ∀ E st, MvD st0 (f E st) (f' E (shS st0 st))) : ∀ (es : List (Bool × E)) (st : Sto), MvL st0 (evLS f es st) (evLS f' es (shS st0 st))
  | [], st => rfl
  | (b, e) :: es, st => (h e st).bind fun d st => by
    cases b with
    | false => exact (evLS_sh h es st).bind fun ds st => rfl
    | true =>
      cases d with
      | tup xs => exact (evLS_sh h es st).bind fun ds st => by show Res.ok (D.shs _ xs ++ D.shs _ ds) _ = Res.ok (D.shs _ (xs ++ ds)) _; rw [shs_app]
      | lst xs => exact (evLS_sh h es st).bind fun ds st => by show Res.ok (D.shs _ xs ++ D.shs _ ds) _ = Res.ok (D.shs _ (xs ++ ds)) _; rw [shs_app]
      | _ => trivial
theorem evO_sh {f f' : E → Sto → Res D} (h : ∀ E st, MvD st0 (f E st) (f' E (shS st0 st))) (e : Option E) (st : Sto) : Mvd id st0 (evO f e st) (evO f' e (shS st0 st)) := by
  cases e with
  | none => rfl
  | some e =>
    exact (h e st).bind fun d st => by cases d <;> first | rfl | trivial
theorem intsD_sh (n : Nat) : ∀ (k : Nat) (lo : Int), D.shs n (intsD lo k) = intsD lo k
  | 0, _ => rfl
  | k + 1, lo => by
    unfold intsD D.shs
    rw [intsD_sh n k]
    rfl
theorem rngD_sh {ds xs : List D} {n : Nat} (h : rngD ds = some xs) : rngD (D.shs n ds) = some (D.shs n xs) := by
  match ds, h with
  | [.int j], h =>
    have q := h
    have h : (if j.natAbs ≤ 4611686018427387903 then some (intsD 0 j.toNat) else none) = some xs := h
    split at h
    · cases h
      rw [intsD_sh]
      exact q
    · cases h
  | [.int i, .int j], h =>
    have q := h
    have h : (if i.natAbs ≤ 4611686018427387903 then if j.natAbs ≤ 4611686018427387903 then some (intsD i (j - i).toNat) else none else none) = some xs := h
    split at h
    · split at h
      · cases h
        rw [intsD_sh]
        exact q
      · cases h
    · cases h
theorem pairs_sh (n : Nat) : ∀ xs ys : List D, D.shs n (pairs xs ys) = pairs (D.shs n xs) (D.shs n ys)
  | [], _ => by simp [pairs, D.shs]
  | _ :: _, [] => by simp [pairs, D.shs]
  | x :: xs, y :: ys => by
    show _ :: D.shs n (pairs xs ys) = _ :: pairs (D.shs n xs) (D.shs n ys)
    rw [pairs_sh n xs ys]
    rfl
theorem enumD_sh (n : Nat) : ∀ (xs : List D) (i : Int), D.shs n (enumD i xs) = enumD i (D.shs n xs)
  | [], _ => rfl
  | x :: xs, i => by
    show _ :: D.shs n (enumD (i + 1) xs) = _ :: enumD (i + 1) (D.shs n xs)
    rw [enumD_sh n xs]
    rfl
theorem signsD_sh (n : Nat) (x : Str) : D.shs n (signsD x) = signsD x := by
  unfold signsD
  rw [shs_map, List.map_map]
  rfl
theorem itD_sh {f f' : E → Sto → Res D} (h : ∀ E st, MvD st0 (f E st) (f' E (shS st0 st))) (it : Iz) (st : Sto) : MvL st0 (itD f it st) (itD f' it (shS st0 st)) := by
  cases it with
  | seq e =>
    exact (h e st).bind fun d st => by
      cases d with
      | tup xs => rfl
      | lst xs => rfl
      | rol xs => rfl
      | str x => show Res.ok (signsD x) _ = Res.ok (D.shs _ (signsD x)) _; rw [signsD_sh]
      | _ => trivial
  | rng es =>
    have e : ∀ (f : E → Sto → Res D) st, itD f (.rng es) st = (evL f es st).bind fun ds st => .of (rngD ds) st := fun f st => by cases es <;> rfl
    rw [e, e]
    exact (evL_sh h es st).bind fun ds st => Mvd.of fun xs hx => rngD_sh hx
  | zip a b =>
    exact (h a st).bind fun x st => (h b st).bind fun y st => by
      cases x with
      | tup xs => cases y with
        | tup ys => show Res.ok _ _ = Res.ok (D.shs _ (pairs xs ys)) _; rw [pairs_sh]
        | lst ys => show Res.ok _ _ = Res.ok (D.shs _ (pairs xs ys)) _; rw [pairs_sh]
        | _ => trivial
      | lst xs => cases y with
        | tup ys => show Res.ok _ _ = Res.ok (D.shs _ (pairs xs ys)) _; rw [pairs_sh]
        | lst ys => show Res.ok _ _ = Res.ok (D.shs _ (pairs xs ys)) _; rw [pairs_sh]
        | _ => trivial
      | _ => trivial
  | enum a =>
    exact (h a st).bind fun x st => by
      cases x with
      | tup xs => show Res.ok _ _ = Res.ok (D.shs _ (enumD 0 xs)) _; rw [enumD_sh]
      | lst xs => show Res.ok _ _ = Res.ok (D.shs _ (enumD 0 xs)) _; rw [enumD_sh]
      | _ => trivial
  | zip3 _ _ _ => trivial
abbrev MvE (st0 : Sto) (b : Env) (r r' : Res Env) : Prop := Mvd (over st0.length b) st0 r r'
mutual
theorem tgD_sh {f f' : E → Env → Sto → Res D} {b : Env} (h : ∀ E e st, MvD st0 (f E e st) (f' E (over st0.length b e) (shS st0 st))) : ∀ (t : Tg) (d : D) (e : Env) (st : Sto), MvE st0 b (tgD f t d e st) (tgD f' t (d.sh st0.length) (over st0.length b e) (shS st0 st))
  | .name i, d, e, st => by
    unfold tgD
    show Res.ok _ _ = Res.ok _ _
    rw [over_set]
  | .tup ts, d, e, st => by
    cases d with
    | tup xs =>
      unfold tgD
      show Mvd _ st0 (if xs.length = ts.length then tgsD f ts xs e st else .stuck) (if (D.shs st0.length xs).length = ts.length then tgsD f' ts (D.shs st0.length xs) (over st0.length b e) (shS st0 st) else .stuck)
      rw [shs_len]
      by_cases hl : xs.length = ts.length
      · rw [if_pos hl, if_pos hl]
        exact tgsD_sh h ts xs e st
      · rw [if_neg hl]
        trivial
    | lst xs =>
      unfold tgD
      show Mvd _ st0 (if xs.length = ts.length then tgsD f ts xs e st else .stuck) (if (D.shs st0.length xs).length = ts.length then tgsD f' ts (D.shs st0.length xs) (over st0.length b e) (shS st0 st) else .stuck)
      rw [shs_len]
      by_cases hl : xs.length = ts.length
      · rw [if_pos hl, if_pos hl]
        exact tgsD_sh h ts xs e st
      · rw [if_neg hl]
        trivial
    | _ => unfold tgD; trivial
  | .sub a i, d, e, st => by
    unfold tgD
    refine (h a e st).bind fun x st => (h i e st).bind fun j st => ?_
    cases x with
    | ref r =>
      cases j with
      | int j =>
        show Mvd _ st0 (match st[r]? with
          | some (.lst xs) => if 0 ≤ j ∧ j < xs.length then Res.ok e (st.set r (.lst (xs.set j.toNat d))) else .stuck
          | _ => .stuck) (match (shS st0 st)[st0.length + r]? with
          | some (.lst xs) => if 0 ≤ j ∧ j < xs.length then Res.ok (over st0.length b e) ((shS st0 st).set (st0.length + r) (.lst (xs.set j.toNat (d.sh st0.length)))) else .stuck
          | _ => .stuck)
        rw [shS_get]
        cases st[r]? with
        | none => trivial
        | some o =>
          cases o with
          | lst xs =>
            show Mvd _ st0 (if 0 ≤ j ∧ j < xs.length then Res.ok e (st.set r (.lst (xs.set j.toNat d))) else .stuck) (if 0 ≤ j ∧ j < ((D.shs st0.length xs).length : Int) then Res.ok (over st0.length b e) ((shS st0 st).set (st0.length + r) (.lst ((D.shs st0.length xs).set j.toNat (d.sh st0.length)))) else .stuck)
            rw [shs_len]
            by_cases hj : 0 ≤ j ∧ j < (xs.length : Int)
            · rw [if_pos hj, if_pos hj]
              have e2 : (O.lst (xs.set j.toNat d)).sh st0.length = .lst ((D.shs st0.length xs).set j.toNat (d.sh st0.length)) := by
                show O.lst (D.shs st0.length (xs.set j.toNat d)) = _
                rw [shs_map, shs_map, List.map_set]
              rw [← e2, shS_set]
              rfl
            · rw [if_neg hj]
              trivial
          | _ => trivial
      | _ => trivial
    | _ => cases j <;> trivial
  | .att _ _, d, e, st => by unfold tgD; trivial
theorem tgsD_sh {f f' : E → Env → Sto → Res D} {b : Env} (h : ∀ E e st, MvD st0 (f E e st) (f' E (over st0.length b e) (shS st0 st))) : ∀ (ts : List Tg) (ds : List D) (e : Env) (st : Sto), MvE st0 b (tgsD f ts ds e st) (tgsD f' ts (D.shs st0.length ds) (over st0.length b e) (shS st0 st))
  | [], [], e, st => by unfold tgsD; rfl
  | [], _ :: _, e, st => by unfold tgsD; trivial
  | _ :: _, [], e, st => by unfold tgsD; trivial
  | t :: ts, d :: ds, e, st => by
    unfold tgsD
    show Mvd _ st0 _ ((tgD f' t (d.sh st0.length) (over st0.length b e) (shS st0 st)).bind fun env st => tgsD f' ts (D.shs st0.length ds) env st)
    exact (tgD_sh h t d e st).bind fun e st => tgsD_sh h ts ds e st
end
theorem compL_sh {f f' : D → Sto → Res (Option D)} (h : ∀ x st, Mvd (Option.map (D.sh st0.length)) st0 (f x st) (f' (x.sh st0.length) (shS st0 st))) : ∀ (xs acc : List D) (st : Sto), MvL st0 (compL f xs acc st) (compL f' (D.shs st0.length xs) (D.shs st0.length acc) (shS st0 st))
  | [], acc, st => rfl
  | x :: xs, acc, st => (h x st).bind fun o st => by
    cases o with
    | none => exact compL_sh h xs acc st
    | some d =>
      show Mvd _ st0 (if acc.length < sizeLine then compL f xs (acc ++ [d]) st else .stuck) (if (D.shs st0.length acc).length < sizeLine then compL f' (D.shs st0.length xs) (D.shs st0.length acc ++ [d.sh st0.length]) (shS st0 st) else .stuck)
      rw [shs_len]
      by_cases hl : acc.length < sizeLine
      · rw [if_pos hl, if_pos hl]
        have q := compL_sh h xs (acc ++ [d]) st
        rw [shs_app] at q
        exact q
      · rw [if_neg hl]
        trivial
theorem compR_sh {gi gi' : Env → Sto → Res (List D)} {gt gt' : Env → D → Env → Sto → Res Env} {ft ft' : Env → Env → Sto → Res Bool} {fe fe' : Env → Env → Sto → Res D} {vs : List Nat} {rr : Bool} {b e : Env} {st : Sto}
    (hi : ∀ st, MvL st0 (gi e st) (gi' (over st0.length b e) (shS st0 st))) (hg : ∀ (b2 e2 : Env) (d : D) (st : Sto), MvE st0 b2 (gt e d e2 st) (gt' (over st0.length b e) (d.sh st0.length) (over st0.length b2 e2) (shS st0 st)))
    (ht : ∀ (b2 e2 : Env) (st : Sto), Mvd id st0 (ft e e2 st) (ft' (over st0.length b e) (over st0.length b2 e2) (shS st0 st))) (he : ∀ (b2 e2 : Env) (st : Sto), MvD st0 (fe e e2 st) (fe' (over st0.length b e) (over st0.length b2 e2) (shS st0 st))) :
    MvD st0 (compR gi gt ft fe vs rr e st) (compR gi' gt' ft' fe' vs rr (over st0.length b e) (shS st0 st)) := by
  rw [compR_eq, compR_eq]
  refine (hi st).bind fun xs st => ?_
  have turn : ∀ x st, Mvd (Option.map (D.sh st0.length)) st0 (turnC (gt e) (ft e) (fe e) vs e x st) (turnC (gt' (over st0.length b e)) (ft' (over st0.length b e)) (fe' (over st0.length b e)) vs (over st0.length b e) (x.sh st0.length) (shS st0 st)) := fun x st => by
    unfold turnC
    rw [over_wipe]
    refine Mvd.still ((hg (wipeE b vs) (wipeE e vs) x st).bind fun e2 st => (ht (wipeE b vs) e2 st).bind fun c st => ?_)
    cases c with
    | false => rfl
    | true => exact (he (wipeE b vs) e2 st).bind fun d st => rfl
  refine (compL_sh turn xs [] st).bind fun ds st => ?_
  cases rr with
  | false => rfl
  | true =>
    show Res.ok (D.ref (shS st0 st).length) (shS st0 st ++ [O.lst (D.shs st0.length ds)]) = Res.ok (D.ref (st0.length + st.length)) (shS st0 (st ++ [O.lst ds]))
    rw [shS_len, ← shS_push]
    rfl
theorem keysD_sh {f f' : D → Sto → Res D} (h : ∀ x st, MvD st0 (f x st) (f' (x.sh st0.length) (shS st0 st))) : ∀ (xs : List D) (st : Sto), Mvd id st0 (keysD f xs st) (keysD f' (D.shs st0.length xs) (shS st0 st))
  | [], st => rfl
  | x :: xs, st => (h x st).still.bind fun d st => by
    cases d with
    | int n => exact (keysD_sh h xs st).bind fun ns st => rfl
    | _ => trivial
theorem insK_map {α β : Type} (g : α → β) (n : Int) (d : α) : ∀ l : List (Int × α), (insK n d l).map (fun p => (p.1, g p.2)) = insK n (g d) (l.map fun p => (p.1, g p.2))
  | [] => rfl
  | (m, e) :: r => by
    show (if n ≤ m then (n, d) :: (m, e) :: r else (m, e) :: insK n d r).map _ = if n ≤ m then (n, g d) :: (m, g e) :: r.map _ else (m, g e) :: insK n (g d) (r.map _)
    split
    · rfl
    · rw [List.map_cons, insK_map g n d r]
theorem sortK_map {α β : Type} (g : α → β) : ∀ (ns : List Int) (xs : List α), (sortK ns xs).map (fun p => (p.1, g p.2)) = sortK ns (xs.map g)
  | [], _ => rfl
  | _ :: _, [] => rfl
  | n :: ns, x :: xs => by
    show (insK n x (sortK ns xs)).map _ = insK n (g x) (sortK ns (xs.map g))
    rw [insK_map, sortK_map g ns xs]
theorem upK_map {α β : Type} (g : α → β) : ∀ l : List (Int × α), upK (l.map fun p => (p.1, g p.2)) = upK l
  | [] => rfl
  | [(n, d)] => rfl
  | (n, d) :: (m, e) :: r => by
    have q := upK_map g ((m, e) :: r)
    show (decide (n < m) && upK (((m, e) :: r).map fun p => (p.1, g p.2))) = (decide (n < m) && upK ((m, e) :: r))
    rw [q]
theorem srtD_sh {f f' : D → Sto → Res D} (h : ∀ x st, MvD st0 (f x st) (f' (x.sh st0.length) (shS st0 st))) (d : D) (st : Sto) : MvD st0 (srtD f d st) (srtD f' (d.sh st0.length) (shS st0 st)) := by
  unfold srtD
  cases hx : Sto.items st d with
  | none => trivial
  | some xs =>
    rw [items_sh hx]
    refine (keysD_sh h xs st).bind fun ns st => ?_
    show MvD st0 (if upK (sortK ns xs) then .ok (.lst ((sortK ns xs).map Prod.snd)) st else .stuck) (if upK (sortK ns (D.shs st0.length xs)) then .ok (.lst ((sortK ns (D.shs st0.length xs)).map Prod.snd)) (shS st0 st) else .stuck)
    rw [shs_map, ← sortK_map, upK_map]
    split
    · show Res.ok _ _ = Res.ok (D.lst (D.shs _ _)) _
      rw [shs_map, List.map_map, List.map_map]
      rfl
    · trivial
theorem asBool_sh {r r' : Res D} (h : MvD st0 r r') : Mvd id st0 (asBool r) (asBool r') := h.bind fun d st => by cases d <;> first | rfl | trivial
structure Sim (st0 : Sto) (m : Nat) : Prop where
  e : ∀ {C C' : Cf} (_ : CfR st0 C C') (x : E) (b e : Env) (st : Sto), MvD st0 (ev C m x e st) (ev C' m x (over st0.length b e) (shS st0 st))
  t : ∀ {C C' : Cf} (_ : CfR st0 C C') (x : E) (b e : Env) (st : Sto), Mvd id st0 (evT C m x e st) (evT C' m x (over st0.length b e) (shS st0 st))
theorem sim_e {m : Nat} (S : Sim st0 m) {C C' : Cf} (R : CfR st0 C C') (x : E) (b e : Env) (st : Sto) : MvD st0 (ev C (m + 1) x e st) (ev C' (m + 1) x (over st0.length b e) (shS st0 st)) := by
  have L := fun es st => evL_sh (f := fun x st => ev C m x e st) (f' := fun x st => ev C' m x (over st0.length b e) st) (fun x st => S.e R x b e st) es st
  have LS := fun es st => evLS_sh (f := fun x st => ev C m x e st) (f' := fun x st => ev C' m x (over st0.length b e) st) (fun x st => S.e R x b e st) es st
  have LO := fun es st => evO_sh (f := fun x st => ev C m x e st) (f' := fun x st => ev C' m x (over st0.length b e) st) (fun x st => S.e R x b e st) es st
  cases x with
  | var i => exact Mvd.of fun d hd => over_at hd
  | lit d =>
    show Mvd _ st0 (if d.low 0 then Res.ok d st else .stuck) (if d.low 0 then Res.ok d (shS st0 st) else .stuck)
    by_cases hd : d.low 0 = true
    · rw [if_pos hd, if_pos hd]
      show Res.ok d _ = Res.ok (d.sh _) _
      rw [sh_low0 _ d hd]
    · rw [if_neg hd]
      trivial
  | con i =>
    refine Mvd.of fun d hd => ?_
    rw [R.T, hd, sh_low0]
    obtain ⟨p, hp, rfl⟩ := Option.map_eq_some_iff.mp hd
    exact R.con p (List.mem_of_getElem? hp)
  | bty t => rfl
  | gfn i => rfl
  | bin o x y =>
    refine (S.e R x b e st).bind fun v st => (S.e R y b e st).bind fun u st => ?_
    rw [see_sh, see_sh]
    exact Mvd.of fun z hz => binD_sh (binD_mono R.k hz)
  | catR x y =>
    refine (S.e R x b e st).bind fun v st => (S.e R y b e st).bind fun u st => ?_
    rw [see_sh, see_sh]
    cases h : binD C.k .Add (st.see v) (st.see u) with
    | none => trivial
    | some z =>
      rw [binD_sh (binD_mono R.k h)]
      cases z with
      | lst ds =>
        show Res.ok (D.ref (shS st0 st).length) (shS st0 st ++ [O.lst (D.shs st0.length ds)]) = Res.ok (D.ref (st0.length + st.length)) (shS st0 (st ++ [O.lst ds]))
        rw [shS_len, ← shS_push]
        rfl
      | _ => trivial
  | neg x => exact (S.e R x b e st).bind fun v st => by cases v <;> first | rfl | trivial
  | cmp o x y =>
    refine (S.e R x b e st).bind fun v st => (S.e R y b e st).bind fun u st => ?_
    rw [see_sh, see_sh]
    refine Mvd.of fun z hz => ?_
    obtain ⟨c, hc, rfl⟩ := Option.map_eq_some_iff.mp hz
    rw [cmpD_sh hc]
    rfl
  | cmp2 o p x y z =>
    refine (S.e R x b e st).bind fun v st => (S.e R y b e st).bind fun u st => ?_
    cases h : cmpD o v u with
    | none => trivial
    | some c =>
      rw [cmpD_sh h]
      cases c with
      | false => rfl
      | true =>
        refine (S.e R z b e st).bind fun t st => Mvd.of fun d hd => ?_
        obtain ⟨c, hc, rfl⟩ := Option.map_eq_some_iff.mp hd
        rw [cmpD_sh hc]
        rfl
  | not x =>
    refine (S.e R x b e st).bind fun v st => Mvd.of fun d hd => ?_
    obtain ⟨c, hc, rfl⟩ := Option.map_eq_some_iff.mp hd
    rw [truth_sh hc]
    rfl
  | and x y =>
    refine (S.e R x b e st).bind fun v st => ?_
    cases h : truth st v with
    | none => trivial
    | some c =>
      rw [truth_sh h]
      cases c with
      | true => exact S.e R y b e st
      | false => rfl
  | or x y =>
    refine (S.e R x b e st).bind fun v st => ?_
    cases h : truth st v with
    | none => trivial
    | some c =>
      rw [truth_sh h]
      cases c with
      | true => rfl
      | false => exact S.e R y b e st
  | ite t x y =>
    refine (S.t R t b e st).bind fun c st => ?_
    cases c with
    | true => exact S.e R x b e st
    | false => exact S.e R y b e st
  | tup es =>
    refine (L es st).bind fun ds st => ?_
    show Mvd _ st0 (if ds.length ≤ sizeLine then Res.ok (D.tup ds) st else .stuck) (if (D.shs st0.length ds).length ≤ sizeLine then Res.ok (D.tup (D.shs st0.length ds)) (shS st0 st) else .stuck)
    rw [shs_len]
    split
    · rfl
    · trivial
  | lst es =>
    refine (L es st).bind fun ds st => ?_
    show Mvd _ st0 (if ds.length ≤ sizeLine then Res.ok (D.lst ds) st else .stuck) (if (D.shs st0.length ds).length ≤ sizeLine then Res.ok (D.lst (D.shs st0.length ds)) (shS st0 st) else .stuck)
    rw [shs_len]
    split
    · rfl
    · trivial
  | lstR es =>
    refine (L es st).bind fun ds st => ?_
    show Mvd _ st0 (if ds.length ≤ sizeLine then Res.ok (D.ref st.length) (st ++ [O.lst ds]) else .stuck) (if (D.shs st0.length ds).length ≤ sizeLine then Res.ok (D.ref (shS st0 st).length) (shS st0 st ++ [O.lst (D.shs st0.length ds)]) else .stuck)
    rw [shs_len]
    split
    · show Res.ok (D.ref (shS st0 st).length) (shS st0 st ++ [O.lst (D.shs st0.length ds)]) = Res.ok (D.ref (st0.length + st.length)) (shS st0 (st ++ [O.lst ds]))
      rw [shS_len, ← shS_push]
      rfl
    · trivial
  | tupS es =>
    refine (LS es st).bind fun ds st => ?_
    show Mvd _ st0 (if ds.length ≤ sizeLine then Res.ok (D.tup ds) st else .stuck) (if (D.shs st0.length ds).length ≤ sizeLine then Res.ok (D.tup (D.shs st0.length ds)) (shS st0 st) else .stuck)
    rw [shs_len]
    split
    · rfl
    · trivial
  | lstS es =>
    refine (LS es st).bind fun ds st => ?_
    show Mvd _ st0 (if ds.length ≤ sizeLine then Res.ok (D.lst ds) st else .stuck) (if (D.shs st0.length ds).length ≤ sizeLine then Res.ok (D.lst (D.shs st0.length ds)) (shS st0 st) else .stuck)
    rw [shs_len]
    split
    · rfl
    · trivial
  | call f es => exact (L es st).bind fun ds st => R.call b e f ds st
  | callv i es =>
    show Mvd _ st0 (match e.at i with
      | some (.fn f) => (evL (fun x st => ev C m x e st) es st).bind fun xs st => C.call e f xs st
      | some (.clo d j) => if es.isEmpty then C.clo e d j [] st else .stuck
      | _ => .stuck) (match (over st0.length b e).at i with
      | some (.fn f) => (evL (fun x st => ev C' m x (over st0.length b e) st) es (shS st0 st)).bind fun xs st => C'.call (over st0.length b e) f xs st
      | some (.clo d j) => if es.isEmpty then C'.clo (over st0.length b e) d j [] (shS st0 st) else .stuck
      | _ => .stuck)
    cases h : e.at i with
    | none => trivial
    | some d =>
      rw [over_at h]
      cases d with
      | fn f => exact (L es st).bind fun ds st => R.call b e f ds st
      | clo d j =>
        show Mvd _ st0 (if es.isEmpty then C.clo e d j [] st else .stuck) (if es.isEmpty then C'.clo (over st0.length b e) d j [] (shS st0 st) else .stuck)
        split
        · exact R.clo b e d j [] st
        · trivial
      | _ => trivial
  | blt f es => exact (L es st).bind fun ds st => Mvd.of fun z hz => bltD_sh hz
  | bm a mth es =>
    refine (S.e R a b e st).bind fun v st => ?_
    by_cases hb : bmOk v st = true
    · rw [if_pos hb, if_pos (bmOk_sh hb)]
      refine (L es st).bind fun ds st => ?_
      cases h : bmD mth v ds st with
      | none => trivial
      | some p =>
        obtain ⟨z, st'⟩ := p
        rw [bmD_sh h]
        rfl
    · rw [if_neg hb]
      trivial
  | idx x y => exact (S.e R x b e st).bind fun v st => (S.e R y b e st).bind fun u st => Mvd.of fun z hz => idxD_sh hz
  | slc a lo hi =>
    refine (S.e R a b e st).bind fun v st => (LO lo st).bind fun l st => (LO hi st).bind fun h st => ?_
    cases v with
    | tup xs => show Res.ok _ _ = Res.ok (D.tup (D.shs _ (cutD xs l h))) _; rw [cutD_sh]; rfl
    | lst xs => show Res.ok _ _ = Res.ok (D.lst (D.shs _ (cutD xs l h))) _; rw [cutD_sh]; rfl
    | _ => trivial
  | srt a f =>
    cases f with
    | none => trivial
    | some f => exact (S.e R a b e st).bind fun d st => srtD_sh (fun x st => R.call b e f [x] st) d st
  | rev a =>
    refine (S.e R a b e st).bind fun v st => ?_
    cases v with
    | lst xs => show Res.ok _ _ = Res.ok (D.lst (D.shs _ xs.reverse)) _; rw [shs_map, shs_map, List.map_reverse]
    | _ => trivial
  | comp r el tg it c own =>
    refine compR_sh (gi := fun env st => itD (fun e st => ev C m e env st) it st) (gi' := fun env st => itD (fun e st => ev C' m e env st) it st) (gt := fun e0 x env st => tgD (fun e env st => ev (C.blk e0) m e env st) tg x env st) (gt' := fun e0 x env st => tgD (fun e env st => ev (C'.blk e0) m e env st) tg x env st)
      (ft := fun e0 => condT (fun c env st => evT (C.blk e0) m c env st) c) (ft' := fun e0 => condT (fun c env st => evT (C'.blk e0) m c env st) c) (fe := fun e0 env st => ev (C.blk e0) m el env st) (fe' := fun e0 env st => ev (C'.blk e0) m el env st) (b := b) (e := e)
      (fun st => itD_sh (fun x st => S.e R x b e st) it st) (fun b2 e2 d st => tgD_sh (fun x e3 st => S.e (R.blk b e) x b2 e3 st) tg d e2 st) (fun b2 e2 st => ?_) (fun b2 e2 st => S.e (R.blk b e) el b2 e2 st)
    cases c with
    | none => rfl
    | some c => exact S.t (R.blk b e) c b2 e2 st
  | lam i => show Res.ok (D.clo C'.dep i) _ = Res.ok (D.clo C.dep i) _; rw [R.dep]
  | frz a => exact (S.e R a b e st).bind fun v st => frzD_sh v st
  | _ => trivial
theorem sim_t {m : Nat} (S : Sim st0 m) {C C' : Cf} (R : CfR st0 C C') (x : E) (b e : Env) (st : Sto) : Mvd id st0 (evT C (m + 1) x e st) (evT C' (m + 1) x (over st0.length b e) (shS st0 st)) := by
  have els : Mvd id st0 ((ev C m x e st).bind fun d st => Res.of (truth st d) st) ((ev C' m x (over st0.length b e) (shS st0 st)).bind fun d st => Res.of (truth st d) st) :=
    (S.e R x b e st).bind fun d st => Mvd.of fun c hc => truth_sh hc
  cases x with
  | not a => exact (S.t R a b e st).bind fun c st => rfl
  | and x y => exact (S.t R x b e st).bind fun c st => by cases c with
    | true => exact S.t R y b e st
    | false => rfl
  | or x y => exact (S.t R x b e st).bind fun c st => by cases c with
    | true => rfl
    | false => exact S.t R y b e st
  | cmp o x y => exact asBool_sh (S.e R _ b e st)
  | cmp2 o p x y z => exact asBool_sh (S.e R _ b e st)
  | ite _ _ _ => trivial
  | _ => exact els
theorem sim : ∀ m, Sim st0 m
  | 0 => ⟨fun _ _ _ _ _ => trivial, fun _ _ _ _ _ => trivial⟩
  | m + 1 => ⟨fun R x b e st => sim_e (sim m) R x b e st, fun R x b e st => sim_t (sim m) R x b e st⟩
end
end Mu

end
section
set_option linter.all false
set_option Elab.async false
/-! Statements and calls, moved. -/
namespace Mu
open PySem
section
variable {st0 : Sto} {b : Env}
def SvX (st0 : Sto) (b : Env) : SR → SR
  | .next e st => .next (over st0.length b e) (shS st0 st)
  | .ret d st => .ret (d.sh st0.length) (shS st0 st)
  | .brk e st => .brk (over st0.length b e) (shS st0 st)
  | .cont e st => .cont (over st0.length b e) (shS st0 st)
  | .exc c v e st => .exc c (v.map (D.sh st0.length)) (over st0.length b e) (shS st0 st)
  | .stuck => .stuck
def Sv (st0 : Sto) (b : Env) (r r' : SR) : Prop := match r with
  | .stuck => True
  | r => r' = SvX st0 b r
theorem Sv.run {α β : Type} {f : α → β} {r : Res α} {r' : Res β} {e : Env} {k : α → Sto → SR} {k' : β → Sto → SR} (h : Mvd f st0 r r') (hk : ∀ a st, Sv st0 b (k a st) (k' (f a) (shS st0 st))) : Sv st0 b (r.run e k) (r'.run (over st0.length b e) k') := by
  cases r with
  | ok a st =>
    have h : r' = .ok (f a) (shS st0 st) := h
    rw [h]
    exact hk a st
  | exc c v st =>
    have h : r' = .exc c (v.map (D.sh st0.length)) (shS st0 st) := h
    rw [h]
    rfl
  | stuck => trivial
theorem Sv.andThen {r r' : SR} {k k' : Env → Sto → SR} (h : Sv st0 b r r') (hk : ∀ e st, Sv st0 b (k e st) (k' (over st0.length b e) (shS st0 st))) : Sv st0 b (r.then k) (r'.then k') := by
  cases r with
  | next e st =>
    have h : r' = .next (over st0.length b e) (shS st0 st) := h
    rw [h]
    exact hk e st
  | stuck => trivial
  | ret d st => have h : r' = SvX st0 b (.ret d st) := h; rw [h]; rfl
  | brk e st => have h : r' = SvX st0 b (.brk e st) := h; rw [h]; rfl
  | cont e st => have h : r' = SvX st0 b (.cont e st) := h; rw [h]; rfl
  | exc c v e st => have h : r' = SvX st0 b (.exc c v e st) := h; rw [h]; rfl
theorem exL_sh {f f' : S → Env → Sto → SR} (h : ∀ s e st, Sv st0 b (f s e st) (f' s (over st0.length b e) (shS st0 st))) : ∀ (ss : List S) (e : Env) (st : Sto), Sv st0 b (exL f ss e st) (exL f' ss (over st0.length b e) (shS st0 st))
  | [], _, _ => rfl
  | s :: ss, e, st => (h s e st).andThen fun e st => exL_sh h ss e st
/-- behind a loop's turn -/
def loopK (k : Env → Sto → SR) (r : SR) : SR := match r with
  | .next env st => k env st
  | .cont env st => k env st
  | .brk env st => .next env st
  | r => r
theorem Sv.loop {r r' : SR} {k k' : Env → Sto → SR} (h : Sv st0 b r r') (hk : ∀ e st, Sv st0 b (k e st) (k' (over st0.length b e) (shS st0 st))) : Sv st0 b (loopK k r) (loopK k' r') := by
  cases r with
  | next e st =>
    have h : r' = .next (over st0.length b e) (shS st0 st) := h
    rw [h]
    exact hk e st
  | cont e st =>
    have h : r' = .cont (over st0.length b e) (shS st0 st) := h
    rw [h]
    exact hk e st
  | stuck => trivial
  | ret d st => have h : r' = SvX st0 b (.ret d st) := h; rw [h]; rfl
  | brk e st => have h : r' = SvX st0 b (.brk e st) := h; rw [h]; rfl
  | exc c v e st => have h : r' = SvX st0 b (.exc c v e st) := h; rw [h]; rfl
theorem forL_sh {f f' : D → Env → Sto → SR} (h : ∀ x e st, Sv st0 b (f x e st) (f' (x.sh st0.length) (over st0.length b e) (shS st0 st))) : ∀ (xs : List D) (e : Env) (st : Sto), Sv st0 b (forL f xs e st) (forL f' (D.shs st0.length xs) (over st0.length b e) (shS st0 st))
  | [], _, _ => rfl
  | x :: xs, e, st => by
    have e1 : ∀ (f : D → Env → Sto → SR) x xs e st, forL f (x :: xs) e st = loopK (fun e st => forL f xs e st) (f x e st) := fun f x xs e st => by
      show (match f x e st with
        | .next env st => forL f xs env st
        | .cont env st => forL f xs env st
        | .brk env st => .next env st
        | r => r) = _
      cases f x e st <;> rfl
    show Sv st0 b (forL f (x :: xs) e st) (forL f' (x.sh st0.length :: D.shs st0.length xs) (over st0.length b e) (shS st0 st))
    rw [e1, e1]
    exact (h x e st).loop fun e st => forL_sh h xs e st
theorem whlN_sh {t t' : Env → Sto → Res Bool} {f f' : Env → Sto → SR} (ht : ∀ e st, Mvd id st0 (t e st) (t' (over st0.length b e) (shS st0 st))) (h : ∀ e st, Sv st0 b (f e st) (f' (over st0.length b e) (shS st0 st))) : ∀ (n : Nat) (e : Env) (st : Sto), Sv st0 b (whlN t f n e st) (whlN t' f' n (over st0.length b e) (shS st0 st))
  | 0, _, _ => trivial
  | n + 1, e, st => Sv.run (ht e st) fun c st => by
    cases c with
    | false => rfl
    | true =>
      have e1 : ∀ (t : Env → Sto → Res Bool) (f : Env → Sto → SR) e st, (match f e st with
        | .next env st => whlN t f n env st
        | .cont env st => whlN t f n env st
        | .brk env st => .next env st
        | r => r) = loopK (fun e st => whlN t f n e st) (f e st) := fun t f e st => by cases f e st <;> rfl
      show Sv st0 b (match f e st with
        | .next env st => whlN t f n env st
        | .cont env st => whlN t f n env st
        | .brk env st => .next env st
        | r => r) (match f' (over st0.length b e) (shS st0 st) with
        | .next env st => whlN t' f' n env st
        | .cont env st => whlN t' f' n env st
        | .brk env st => .next env st
        | r => r)
      rw [e1, e1]
      exact (h e st).loop fun e st => whlN_sh ht h n e st
theorem setAll_sh (n : Nat) (b : Env) : ∀ (is : List Nat) (ds : List D) (e : Env), setAll is (D.shs n ds) (over n b e) = over n b (setAll is ds e)
  | [], ds, e => by cases ds <;> rfl
  | i :: is, [], e => rfl
  | i :: is, d :: ds, e => by
    show setAll is (D.shs n ds) ((over n b e).set i (some (d.sh n))) = over n b (setAll is ds (e.set i (some d)))
    rw [over_set, setAll_sh n b is ds]
theorem cbD_sh {n : Nat} {xi : Option XI} {cb : Cb} {v : Option D} {d : D} (h : cbD xi cb v = some d) : cbD xi cb (v.map (D.sh n)) = some (d.sh n) := by
  cases cb with
  | ret dv =>
    have h : (if dv.low 0 then some dv else none) = some d := h
    show (if dv.low 0 then some dv else none) = _
    split at h
    · rename_i hl
      cases h
      rw [if_pos hl, sh_low0 n _ hl]
    · cases h
  | retR pre m =>
    cases xi with
    | none => cases h
    | some x =>
      by_cases hf : x.fld = some m
      · have e : ∀ v : Option D, cbD (some x) (.retR pre m) v = match v with
          | some d => match reprD d with
            | some s => if pre.length + s.length ≤ sizeLine then some (.str (pre ++ s)) else none
            | none => none
          | none => none := fun v => by
          show (match (if x.fld = some m then v else none : Option D) with
            | some d => match reprD d with
              | some s => if pre.length + s.length ≤ sizeLine then some (D.str (pre ++ s)) else none
              | none => none
            | none => none) = _
          rw [if_pos hf]
        rw [e] at h ⊢
        cases v with
        | none => cases h
        | some dv =>
          simp only [Option.map_some] at h ⊢
          cases hr : reprD dv with
          | none => rw [hr] at h; cases h
          | some s =>
            rw [hr] at h
            rw [reprD_sh hr]
            simp only at h ⊢
            split at h
            · rename_i hl
              cases h
              rw [if_pos hl]
              rfl
            · cases h
      · have e : cbD (some x) (.retR pre m) v = none := by
          show (match (if x.fld = some m then v else none : Option D) with
            | some d => match reprD d with
              | some s => if pre.length + s.length ≤ sizeLine then some (D.str (pre ++ s)) else none
              | none => none
            | none => none) = _
          rw [if_neg hf]
        rw [e] at h
        cases h
theorem catchD_sh (T : Tab) (c : Nat) (v : Option D) (e : Env) (st : Sto) : ∀ zs : List Cz, Sv st0 b (catchD T c v e st zs) (catchD T c (v.map (D.sh st0.length)) (over st0.length b e) (shS st0 st) zs)
  | [] => rfl
  | z :: zs => by
    show Sv st0 b (if T.isSub c z.cls then if nmOk z.nm e then match cbD (T.xi c) z.bd v with
      | some d => .ret d st
      | none => .stuck
      else .stuck else catchD T c v e st zs) (if T.isSub c z.cls then if nmOk z.nm (over st0.length b e) then match cbD (T.xi c) z.bd (v.map (D.sh st0.length)) with
      | some d => .ret d (shS st0 st)
      | none => .stuck
      else .stuck else catchD T c (v.map (D.sh st0.length)) (over st0.length b e) (shS st0 st) zs)
    have hn : nmOk z.nm (over st0.length b e) = nmOk z.nm e := by
      unfold nmOk
      cases z.nm with
      | none => rfl
      | some i => simp only [over_len]
    rw [hn]
    by_cases h1 : T.isSub c z.cls = true
    · rw [if_pos h1, if_pos h1]
      by_cases h2 : nmOk z.nm e = true
      · rw [if_pos h2, if_pos h2]
        cases h3 : cbD (T.xi c) z.bd v with
        | none => trivial
        | some d => rw [cbD_sh h3]; rfl
      · rw [if_neg h2]
        trivial
    · rw [if_neg h1, if_neg h1]
      exact catchD_sh T c v e st zs
theorem Sv.catch {r r' : SR} {T : Tab} {cs : List Cz} (h : Sv st0 b r r') : Sv st0 b (r.catch T cs) (r'.catch T cs) := by
  cases r with
  | exc c v e st =>
    have h : r' = SvX st0 b (.exc c v e st) := h
    rw [h]
    exact catchD_sh T c v e st cs
  | stuck => trivial
  | next e st => have h : r' = SvX st0 b (.next e st) := h; rw [h]; rfl
  | ret d st => have h : r' = SvX st0 b (.ret d st) := h; rw [h]; rfl
  | brk e st => have h : r' = SvX st0 b (.brk e st) := h; rw [h]; rfl
  | cont e st => have h : r' = SvX st0 b (.cont e st) := h; rw [h]; rfl
theorem raiseD_sh {n : Nat} {xi : Option XI} {d : D} {v : Option D} (h : raiseD xi d = some v) : raiseD xi (d.sh n) = some (v.map (D.sh n)) := by
  cases xi with
  | none => cases h
  | some x =>
    cases hf : x.fld with
    | none =>
      have e : ∀ d, raiseD (some x) d = some none := fun d => by
        show (match x.fld with | none => some none | some _ => if x.shw && !showOk d then none else some (some d) : Option (Option D)) = _
        rw [hf]
      rw [e] at h ⊢
      cases h
      rfl
    | some f =>
      have e : ∀ d, raiseD (some x) d = if x.shw && !showOk d then none else some (some d) := fun d => by
        show (match x.fld with | none => some none | some _ => if x.shw && !showOk d then none else some (some d) : Option (Option D)) = _
        rw [hf]
      rw [e] at h ⊢
      have ok : (x.shw && !showOk d) = false → (x.shw && !showOk (d.sh n)) = false := fun z => by
        cases hs : x.shw with
        | false => rfl
        | true =>
          rw [hs, Bool.true_and] at z
          have z : showOk d = true := by simpa using z
          have : showOk (d.sh n) = true := by
            unfold showOk at z ⊢
            cases hr : reprD d with
            | none => rw [hr] at z; cases z
            | some s => rw [hr] at z; rw [reprD_sh hr]; exact z
          rw [this]
          rfl
      by_cases hs : (x.shw && !showOk d) = true
      · rw [if_pos hs] at h
        cases h
      · have hs : (x.shw && !showOk d) = false := by simpa using hs
        rw [hs] at h
        rw [ok hs]
        simp only [Bool.false_eq_true, if_false] at h ⊢
        cases h
        rfl
theorem ex_sh {C C' : Cf} (R : CfR st0 C C') : ∀ (m : Nat) (s : S) (e : Env) (st : Sto), Sv st0 b (ex C m s e st) (ex C' m s (over st0.length b e) (shS st0 st))
  | 0, _, _, _ => trivial
  | m + 1, s, e, st => by
    have Se := fun (x : E) e st => (sim (st0 := st0) m).e R x b e st
    have St := fun (x : E) e st => (sim (st0 := st0) m).t R x b e st
    have ih := fun ss e st => exL_sh (fun s e st => ex_sh R m s e st) ss e st
    cases s with
    | expr x => exact Sv.run (Se x e st) fun d st => rfl
    | asg t x => exact Sv.run (Se x e st) fun d st => Sv.run (tgD_sh (fun x e st => Se x e st) t d e st).still fun e st => rfl
    | par is es =>
      refine Sv.run (evL_sh (fun x st => Se x e st) es st) fun ds st => ?_
      show SR.next _ _ = SR.next _ _
      rw [setAll_sh]
    | aug _ _ _ => trivial
    | ret x => exact Sv.run (Se x e st) fun d st => rfl
    | retN => rfl
    | ite t x y =>
      refine Sv.run (St t e st) fun c st => ?_
      cases c with
      | true => exact ih x e st
      | false => exact ih y e st
    | whl t x => exact whlN_sh (fun e st => St t e st) (fun e st => ih x e st) wmax e st
    | for_ t it x => exact Sv.run (itD_sh (fun x st => Se x e st) it st) fun xs st => forL_sh (fun d e st => Sv.run (tgD_sh (fun x e st => Se x e st) t d e st).still fun e st => ih x e st) xs e st
    | raise c x =>
      show Sv st0 b (if 30 ≤ C.k then raiseS (C.T.xi c) c (fun env st => ev C m x env st) e st else .stuck) (if 30 ≤ C'.k then raiseS (C'.T.xi c) c (fun env st => ev C' m x env st) (over st0.length b e) (shS st0 st) else .stuck)
      rw [R.T]
      have hk := R.k
      split
      · rw [if_pos (by omega)]
        refine Sv.run (Se x e st) fun d st => ?_
        cases h : raiseD (C.T.xi c) d with
        | none => trivial
        | some v => rw [raiseD_sh h]; rfl
      · trivial
    | try_ x cs =>
      show Sv st0 b ((exL (ex C m) x e st).catch C.T cs) ((exL (ex C' m) x (over st0.length b e) (shS st0 st)).catch C'.T cs)
      rw [R.T]
      exact (ih x e st).catch
    | pass => rfl
    | brk => rfl
    | cont => rfl
    | never => trivial

/-! ### calls -/
theorem low_mono {m k : Nat} (h : m ≤ k) : (∀ d : D, d.low m = true → d.low k = true) ∧ ∀ ds : List D, D.lows m ds = true → D.lows k ds = true := by
  have key : ∀ (n : Nat), (∀ d : D, sizeOf d ≤ n → d.low m = true → d.low k = true) ∧ ∀ ds : List D, sizeOf ds ≤ n → D.lows m ds = true → D.lows k ds = true := by
    intro n
    induction n with
    | zero =>
      refine ⟨fun d hs => absurd hs (by cases d <;> simp), fun ds hs => absurd hs (by cases ds <;> simp)⟩
    | succ n ih =>
      refine ⟨fun d hs q => ?_, fun ds hs q => ?_⟩
      · cases d <;> unfold D.low at q ⊢ <;> first | rfl | (exact ih.2 _ (by simp at hs; omega) q) | (rw [decide_eq_true_eq] at q ⊢; omega)
      · cases ds with
        | nil => rfl
        | cons d ds =>
          unfold D.lows at q ⊢
          rw [Bool.and_eq_true] at q ⊢
          simp at hs
          exact ⟨ih.1 d (by omega) q.1, ih.2 ds (by omega) q.2⟩
  exact ⟨fun d => (key _).1 d (Nat.le_refl _), fun ds => (key _).2 ds (Nat.le_refl _)⟩
theorem lowC_mono {m k : Nat} (h : m ≤ k) : (∀ d : D, d.lowC m = true → d.lowC k = true) ∧ ∀ ds : List D, D.lowsC m ds = true → D.lowsC k ds = true := by
  have key : ∀ (n : Nat), (∀ d : D, sizeOf d ≤ n → d.lowC m = true → d.lowC k = true) ∧ ∀ ds : List D, sizeOf ds ≤ n → D.lowsC m ds = true → D.lowsC k ds = true := by
    intro n
    induction n with
    | zero =>
      refine ⟨fun d hs => absurd hs (by cases d <;> simp), fun ds hs => absurd hs (by cases ds <;> simp)⟩
    | succ n ih =>
      refine ⟨fun d hs q => ?_, fun ds hs q => ?_⟩
      · cases d <;> unfold D.lowC at q ⊢ <;> first | rfl | (exact ih.2 _ (by simp at hs; omega) q) | (rw [decide_eq_true_eq] at q ⊢; omega)
      · cases ds with
        | nil => rfl
        | cons d ds =>
          unfold D.lowsC at q ⊢
          rw [Bool.and_eq_true] at q ⊢
          simp at hs
          exact ⟨ih.1 d (by omega) q.1, ih.2 ds (by omega) q.2⟩
  exact ⟨fun d => (key _).1 d (Nat.le_refl _), fun ds => (key _).2 ds (Nat.le_refl _)⟩
theorem O.low_mono {m k : Nat} (h : m ≤ k) (o : O) (q : o.low m = true) : o.low k = true := by
  cases o <;> first | exact (Mu.low_mono h).2 _ q | rfl
theorem O.lowC_mono {m k : Nat} (h : m ≤ k) (o : O) (q : o.lowC m = true) : o.lowC k = true := by
  cases o <;> first | exact (Mu.lowC_mono h).2 _ q | rfl
theorem O.sh_low (n m : Nat) (o : O) : (o.sh n).low (n + m) = o.low m := by cases o <;> first | exact shs_low n m _ | rfl
theorem O.sh_lowC (n m : Nat) (o : O) : (o.sh n).lowC m = o.lowC m := by cases o <;> first | exact shs_lowC n m _ | rfl
theorem shS_take (st : Sto) (m : Nat) : (shS st0 st).take (st0.length + m) = shS st0 (st.take m) := by
  unfold shS
  rw [List.take_append, List.take_of_length_le (by omega), Nat.add_sub_cancel_left, List.map_take]
theorem shS_low (B : Base st0) (st : Sto) (m : Nat) : (shS st0 st).all (O.low (st0.length + m)) = st.all (O.low m) := by
  unfold shS
  rw [List.all_append, List.all_map]
  have h1 : st0.all (O.low (st0.length + m)) = true := List.all_eq_true.mpr fun o ho => O.low_mono (by omega) o (List.all_eq_true.mp B.low o ho)
  rw [h1, Bool.true_and]
  congr 1
  funext o
  exact O.sh_low _ _ o
theorem shS_lowC (B : Base st0) (st : Sto) (m : Nat) : (shS st0 st).all (O.lowC m) = st.all (O.lowC m) := by
  unfold shS
  rw [List.all_append, List.all_map]
  have h1 : st0.all (O.lowC m) = true := List.all_eq_true.mpr fun o ho => O.lowC_mono (by omega) o (List.all_eq_true.mp B.lowC o ho)
  rw [h1, Bool.true_and]
  congr 1
  funext o
  exact O.sh_lowC _ _ o
theorem trim_sh (B : Base st0) (m : Nat) (d : D) (st : Sto) : MvD st0 (trim m d st) (trim (st0.length + m) (d.sh st0.length) (shS st0 st)) := by
  unfold trim
  rw [sh_low, shS_take, shS_low B]
  split
  · rfl
  · rfl
theorem okC_sh (B : Base st0) (lm : Option Nat) (d : D) (st : Sto) : okC lm (d.sh st0.length) (shS st0 st) = okC lm d st := by
  cases lm with
  | none => rfl
  | some k =>
    show (_ && _) = (_ && _)
    rw [sh_lowC, shS_lowC B]
theorem finish_sh (B : Base st0) {lm : Option Nat} {m : Nat} {r r' : SR} (h : Sv st0 b r r') : MvD st0 (finish lm m r) (finish lm (st0.length + m) r') := by
  cases r with
  | next e st =>
    have h : r' = SvX st0 b (.next e st) := h
    rw [h]
    show MvD st0 (if okC lm .non st then trim m .non st else .stuck) (if okC lm .non (shS st0 st) then trim (st0.length + m) .non (shS st0 st) else .stuck)
    have e1 := okC_sh B lm .non st
    have e1 : okC lm .non (shS st0 st) = okC lm .non st := e1
    rw [e1]
    split
    · exact trim_sh B m .non st
    · trivial
  | ret d st =>
    have h : r' = SvX st0 b (.ret d st) := h
    rw [h]
    show MvD st0 (if okC lm d st then trim m d st else .stuck) (if okC lm (d.sh st0.length) (shS st0 st) then trim (st0.length + m) (d.sh st0.length) (shS st0 st) else .stuck)
    rw [okC_sh B]
    split
    · exact trim_sh B m d st
    · trivial
  | exc c v e st =>
    have h : r' = SvX st0 b (.exc c v e st) := h
    rw [h]
    show MvD st0 (if okC lm (v.getD .non) st then .exc c v st else .stuck) (if okC lm ((v.map (D.sh st0.length)).getD .non) (shS st0 st) then .exc c (v.map (D.sh st0.length)) (shS st0 st) else .stuck)
    have e1 : (v.map (D.sh st0.length)).getD .non = (v.getD .non).sh st0.length := by cases v <;> rfl
    rw [e1, okC_sh B]
    split
    · rfl
    · trivial
  | brk e st => trivial
  | cont e st => trivial
  | stuck => trivial
/-- the table's own values speak of no store -/
structure TabP (T : Tab) : Prop where
  con : ∀ p ∈ T.con, p.2.low 0 = true
  dft : ∀ F ∈ T.fns, D.lows 0 F.dft = true
/-- frames that hold more -/
structure FrR (n : Nat) (fr fr' : List Frm) : Prop where
  len : fr'.length = fr.length
  at_ : ∀ (j : Nat) (f : Frm), fr[j]? = some f → ∃ b, fr'[j]? = some ⟨f.lams, over n b f.env⟩
theorem FrR.push {n : Nat} {fr fr' : List Frm} (h : FrR n fr fr') (lams : List E) (b e : Env) : FrR n (pushF fr lams e) (pushF fr' lams (over n b e)) := by
  unfold pushF
  split
  · exact h
  · refine ⟨by simp [h.len], fun j f hj => ?_⟩
    by_cases hl : j < fr.length
    · rw [List.getElem?_append_left hl] at hj
      rw [List.getElem?_append_left (by rw [h.len]; exact hl)]
      exact h.at_ j f hj
    · rw [List.getElem?_append_right (by omega)] at hj
      rw [List.getElem?_append_right (by rw [h.len]; omega), h.len]
      have e0 : j - fr.length = 0 := by
        have := (List.getElem?_eq_some_iff.mp hj).1
        simp at this
        omega
      rw [e0] at hj ⊢
      cases hj
      exact ⟨b, rfl⟩
theorem lows_drop {n : Nat} : ∀ (ds : List D) (k : Nat), D.lows n ds = true → D.lows n (ds.drop k) = true
  | [], k, h => by simpa using h
  | d :: ds, 0, h => h
  | d :: ds, k + 1, h => by
    unfold D.lows at h
    rw [Bool.and_eq_true] at h
    exact lows_drop ds k h.2
theorem pad_sh {F : Fd} (h : D.lows 0 F.dft = true) (n : Nat) (ds : List D) : F.pad (D.shs n ds) = D.shs n (F.pad ds) := by
  unfold Fd.pad
  rw [shs_app, shs_len, shs_low0 n (F.dft.drop (ds.length + F.dft.length - F.ps.length)) (lows_drop _ _ h)]
theorem start_sh {F : Fd} (ds : List D) : (D.shs st0.length (F.pad ds)).map some ++ List.replicate (F.names.length - (F.pad ds).length) none = over st0.length [] ((F.pad ds).map some ++ List.replicate (F.names.length - (F.pad ds).length) none) := by
  refine List.ext_getElem? fun j => ?_
  rw [over_get]
  by_cases hj : j < (F.pad ds).length
  · rw [List.getElem?_append_left (by simpa [shs_len] using hj), List.getElem?_append_left (by simpa using hj), List.getElem?_map, List.getElem?_map, shs_get]
    cases (F.pad ds)[j]? <;> rfl
  · rw [List.getElem?_append_right (by simpa [shs_len] using hj), List.getElem?_append_right (by simpa using hj)]
    simp only [List.length_map, shs_len, List.getElem?_replicate]
    split <;> rfl
theorem call_sh {T : Tab} (P : TabP T) (B : Base st0) : ∀ k : Nat, (∀ {fr fr' : List Frm} (_ : FrR st0.length fr fr') (x : Nat) (ds : List D) (st : Sto), MvD st0 (callF T k fr x ds st) (callF T k fr' x (D.shs st0.length ds) (shS st0 st))) ∧
    ∀ {fr fr' : List Frm} (_ : FrR st0.length fr fr') (d i : Nat) (ds : List D) (st : Sto), MvD st0 (cloF T k fr d i ds st) (cloF T k fr' d i (D.shs st0.length ds) (shS st0 st))
  | 0 => ⟨fun _ _ _ _ => trivial, fun _ _ _ _ _ => trivial⟩
  | k + 1 => by
    obtain ⟨ih1, ih2⟩ := call_sh P B k
    have cf : ∀ {fr fr' : List Frm} (lams : List E), FrR st0.length fr fr' → CfR st0 (cfOf T k fr lams (callF T k) (cloF T k)) (cfOf T k fr' lams (callF T k) (cloF T k)) := fun lams h =>
      ⟨Nat.le_refl _, rfl, h.len, P.con, fun b e f ds st => ih1 (h.push lams b e) f ds st, fun b e d i ds st => ih2 (h.push lams b e) d i ds st⟩
    refine ⟨fun {fr fr'} h x ds st => ?_, fun {fr fr'} h d i ds st => ?_⟩
    · show Mvd _ st0 (match T.fns[x]? with
        | none => Res.stuck
        | some F => if (F.pad ds).length = F.ps.length then
            finish (lmF fr F.lams) st.length (exL (ex (cfOf T k fr F.lams (callF T k) (cloF T k)) deep) F.body ((F.pad ds).map some ++ List.replicate (F.names.length - (F.pad ds).length) none) st) else .stuck) (match T.fns[x]? with
        | none => Res.stuck
        | some F => if (F.pad (D.shs st0.length ds)).length = F.ps.length then
            finish (lmF fr' F.lams) (shS st0 st).length (exL (ex (cfOf T k fr' F.lams (callF T k) (cloF T k)) deep) F.body ((F.pad (D.shs st0.length ds)).map some ++ List.replicate (F.names.length - (F.pad (D.shs st0.length ds)).length) none) (shS st0 st)) else .stuck)
      cases hx : T.fns[x]? with
      | none => trivial
      | some F =>
        have hd := P.dft F (List.mem_of_getElem? hx)
        simp only
        rw [pad_sh hd, shs_len]
        by_cases hl : (F.pad ds).length = F.ps.length
        · rw [if_pos hl, if_pos hl]
          have e1 : lmF fr' F.lams = lmF fr F.lams := by unfold lmF; rw [h.len]
          have e2 := start_sh (st0 := st0) (F := F) ds
          rw [e1, e2, shS_len]
          exact finish_sh B (exL_sh (fun s e st => ex_sh (cf F.lams h) deep s e st) F.body _ st)
        · rw [if_neg hl]
          trivial
    · show Mvd _ st0 (match fr[d]? with
        | none => Res.stuck
        | some f => match f.lams[i]? with
          | none => .stuck
          | some e => if ds.isEmpty then ev (cfLam T k fr (callF T k) (cloF T k)) deep e f.env st else .stuck) (match fr'[d]? with
        | none => Res.stuck
        | some f => match f.lams[i]? with
          | none => .stuck
          | some e => if (D.shs st0.length ds).isEmpty then ev (cfLam T k fr' (callF T k) (cloF T k)) deep e f.env (shS st0 st) else .stuck)
      cases hf : fr[d]? with
      | none => trivial
      | some f =>
        obtain ⟨b, hb⟩ := h.at_ d f hf
        rw [hb]
        simp only
        cases hi : f.lams[i]? with
        | none => trivial
        | some e =>
          simp only
          rw [isEmpty_sh]
          split
          · have R : CfR st0 (cfLam T k fr (callF T k) (cloF T k)) (cfLam T k fr' (callF T k) (cloF T k)) := ⟨Nat.le_refl _, rfl, rfl, P.con, fun b e f ds st => ih1 h f ds st, fun b e d i ds st => ih2 h d i ds st⟩
            exact (sim deep).e R e b f.env st
          · trivial
end
end Mu

end
section
set_option linter.all false
set_option Elab.async false
/-! The laws' dice: any script's dice give some item of a menu. -/
namespace Mu
open PySem
/-! ### equations -/
section
variable {C : Cf} {n : Nat} {env : Env} {st : Sto}
@[simp] theorem q_var (i : Nat) : ev C (n + 1) (.var i) env st = .of (env.at i) st := rfl
@[simp] theorem q_int (i : Int) : ev C (n + 1) (.lit (.int i)) env st = .ok (.int i) st := rfl
@[simp] theorem q_bin (o : Operator) (a b : E) : ev C (n + 1) (.bin o a b) env st = (ev C n a env st).bind fun x st => (ev C n b env st).bind fun y st => .of (binD C.k o (st.see x) (st.see y)) st := rfl
@[simp] theorem q_cmp (o : CmpOp) (a b : E) : ev C (n + 1) (.cmp o a b) env st = (ev C n a env st).bind fun x st => (ev C n b env st).bind fun y st => .of ((cmpD o (st.see x) (st.see y)).map .bl) st := rfl
@[simp] theorem q_ite (t a b : E) : ev C (n + 1) (.ite t a b) env st = (evT C n t env st).bind fun c st => if c then ev C n a env st else ev C n b env st := rfl
@[simp] theorem q_blt (f : Blt) (es : List E) : ev C (n + 1) (.blt f es) env st = (evL (fun e st => ev C n e env st) es st).bind fun xs st => .of (bltD f xs st) st := rfl
@[simp] theorem q_call (f : Nat) (es : List E) : ev C (n + 1) (.call f es) env st = (evL (fun e st => ev C n e env st) es st).bind fun xs st => C.call env f xs st := rfl
@[simp] theorem q_idx (a i : E) : ev C (n + 1) (.idx a i) env st = (ev C n a env st).bind fun x st => (ev C n i env st).bind fun j st => .of (idxD st x j) st := rfl
@[simp] theorem q_lstR (es : List E) : ev C (n + 1) (.lstR es) env st = (evL (fun e st => ev C n e env st) es st).bind fun ds st => if ds.length ≤ sizeLine then .ok (.ref st.length) (st ++ [.lst ds]) else .stuck := rfl
@[simp] theorem qT_cmp (o : CmpOp) (a b : E) : evT C (n + 1) (.cmp o a b) env st = asBool (ev C n (.cmp o a b) env st) := rfl
@[simp] theorem q_asB (c : Bool) : asBool (.ok (.bl c) st) = .ok c st := rfl
@[simp] theorem qL_nil (f : E → Sto → Res D) : evL f [] st = .ok [] st := rfl
@[simp] theorem qL_cons (f : E → Sto → Res D) (e : E) (es : List E) : evL f (e :: es) st = (f e st).bind fun d st => (evL f es st).bind fun ds st => .ok (d :: ds) st := rfl
@[simp] theorem qt_name (f : E → Env → Sto → Res D) (i : Nat) (d : D) : tgD f (.name i) d env st = .ok (env.set i (some d)) st := by unfold tgD; rfl
def subQ (d x j : D) (env : Env) (st : Sto) : Res Env := match x, j with
    | .ref r, .int j => match st[r]? with
      | some (.lst xs) => if 0 ≤ j ∧ j < xs.length then .ok env (st.set r (.lst (xs.set j.toNat d))) else .stuck
      | _ => .stuck
    | _, _ => .stuck
@[simp] theorem qt_sub (f : E → Env → Sto → Res D) (a i : E) (d : D) : tgD f (.sub a i) d env st = (f a env st).bind fun x st => (f i env st).bind fun j st => subQ d x j env st := by
  unfold tgD
  rfl
@[simp] theorem x_asg (t : Tg) (e : E) : ex C (n + 1) (.asg t e) env st = (ev C n e env st).run env fun d st => (tgD (fun e env st => ev C n e env st) t d env st).still.run env fun env st => .next env st := rfl
@[simp] theorem x_ret (e : E) : ex C (n + 1) (.ret e) env st = (ev C n e env st).run env fun d st => .ret d st := rfl
@[simp] theorem x_ite (t : E) (a b : List S) : ex C (n + 1) (.ite t a b) env st = (evT C n t env st).run env fun c st => if c then exL (ex C n) a env st else exL (ex C n) b env st := rfl
@[simp] theorem xL_nil (f : S → Env → Sto → SR) : exL f [] env st = .next env st := rfl
@[simp] theorem xL_cons (f : S → Env → Sto → SR) (s : S) (ss : List S) : exL f (s :: ss) env st = (f s env st).then fun env st => exL f ss env st := rfl
@[simp] theorem q_at0 (d : D) (r : Env) : Env.at (some d :: r) 0 = some d := rfl
@[simp] theorem q_atS (o : Option D) (r : Env) (i : Nat) : Env.at (o :: r) (i + 1) = Env.at r i := by
  unfold Env.at
  rfl
@[simp] theorem q_deep : deep = 60 := rfl
@[simp] theorem see_int (i : Int) : Sto.see st (.int i) = .int i := rfl
end
section
variable {st : Sto} {k : Nat} {xs : List D}
@[simp] theorem c_lt (i j : Int) : cmpD .Lt (.int i) (.int j) = some (decide (i < j)) := rfl
@[simp] theorem c_gt (i j : Int) : cmpD .Gt (.int i) (.int j) = some (decide (j < i)) := rfl
@[simp] theorem n_add (i j : Int) : binD k .Add (.int i) (.int j) = some (.int (i + j)) := rfl
@[simp] theorem n_sub (i j : Int) : binD k .Sub (.int i) (.int j) = some (.int (i - j)) := rfl
@[simp] theorem n_mul (i j : Int) : binD k .Mult (.int i) (.int j) = if mulOk i j then some (.int (i * j)) else none := rfl
@[simp] theorem n_mod (i j : Int) : binD k .Mod (.int i) (.int j) = if j = 0 then none else some (.int (i.fmod j)) := rfl
@[simp] theorem n_div (i j : Int) : binD k .FloorDiv (.int i) (.int j) = if j = 0 then none else if 40 ≤ k then some (.int (i.fdiv j)) else none := rfl
@[simp] theorem n_pow (i j : Int) : binD k .Pow (.int i) (.int j) = if powOk i j then some (.int (i ^ j.toNat)) else none := rfl
@[simp] theorem bq_len : bltD .len xs st = lenD xs st := rfl
@[simp] theorem bq_abs : bltD .abs xs st = absD xs st := rfl
@[simp] theorem bq_max : bltD .max xs st = maxD xs st := rfl
@[simp] theorem bq_int : bltD .int xs st = intD xs st := rfl
@[simp] theorem lq_lst (ys : List D) : lenD [.lst ys] st = some (.int ys.length) := rfl
@[simp] theorem lq_rol (ys : List D) : lenD [.rol ys] st = some (.int ys.length) := rfl
@[simp] theorem aq_int (i : Int) : absD [.int i] st = some (.int i.natAbs) := by
  show some (D.int (if i < 0 then -i else i)) = _
  congr 2
  split <;> omega
@[simp] theorem iq_int (i : Int) : intD [.int i] st = some (.int i) := rfl
@[simp] theorem iq_bl (b : Bool) : intD [.bl b] st = some (.int (if b then 1 else 0)) := rfl
theorem mulOk_of {i j : Int} {p q : Nat} (hi : i.natAbs < 2 ^ p) (hj : j.natAbs < 2 ^ q) (h : p + q < 100000000) : mulOk i j = true := by
  have lg : ∀ {m r : Nat}, m < 2 ^ r → m.log2 ≤ r := fun {m r} h => by
    by_cases h0 : m = 0
    · subst h0
      simp
    · exact Nat.le_of_lt ((Nat.log2_lt h0).mpr h)
  have h1 := lg hi
  have h2 := lg hj
  unfold mulOk
  rw [decide_eq_true_eq]
  omega
end
theorem finish_same {n : Nat} {st : Sto} (h : st.length = n) (d : D) : finish none n (.ret d st) = .ok d st := by
  subst h
  show trim st.length d st = _
  unfold trim
  rw [List.take_length]
  split <;> rfl
theorem fmod_lt {a m : Int} (h : 0 < m) : 0 ≤ a.fmod m ∧ a.fmod m < m := by
  rw [Int.fmod_eq_emod_of_nonneg _ (by omega)]
  exact ⟨Int.emod_nonneg _ (by omega), Int.emod_lt_of_pos _ h⟩
theorem abs_of {x : Int} {m : Int} {n : Nat} (h0 : 0 ≤ x) (h1 : x < m) (h : m ≤ 2 ^ n) : x.natAbs < 2 ^ n := by
  have : (x.natAbs : Int) < ((2 ^ n : Nat) : Int) := by
    rw [Int.natCast_pow]
    have e : ((2 : Nat) : Int) = 2 := rfl
    rw [e]
    omega
  omega
theorem pow_ok {k : Nat} (i j : Int) (h : powOk i j = true) : binD k .Pow (.int i) (.int j) = some (.int (i ^ j.toNat)) := if_pos h
/-! ### dice -/
/-- dice lie at i, thrown at most B times by their seed -/
def Dice (i B : Nat) (st : Sto) : Prop := ∃ a b c : Int, st[i]? = some (O.lst [.int a, .int b, .int c]) ∧ 0 ≤ c ∧ c ≤ B
theorem Dice.mono {i B B' : Nat} {st : Sto} (h : Dice i B st) (hb : B ≤ B') : Dice i B' st := by
  obtain ⟨a, b, c, e, h0, h1⟩ := h
  exact ⟨a, b, c, e, h0, by omega⟩
def bDice : List S := [.asg (.name 2) (.ite (.cmp .Lt (.var 1) (.blt .len [.var 0])) (.blt .int [.idx (.var 0) (.var 1)]) (.bin .Add (.bin .Mult (.lit (.int 131)) (.var 1)) (.lit (.int 37)))),
  .asg (.name 3) (.bin .Mod (.blt .int [.blt .abs [.var 2]]) (.bin .Pow (.bin .Pow (.lit (.int 10)) (.lit (.int 53))) (.lit (.int 6)))),
  .asg (.name 4) (.bin .Add (.bin .Add (.bin .Add (.bin .Mult (.bin .Mod (.var 3) (.lit (.int 2305843009213693907))) (.lit (.int 73))) (.bin .Mult (.lit (.int 619)) (.var 1))) (.bin .Mult (.lit (.int 41)) (.blt .int [.cmp .Lt (.var 2) (.lit (.int 0))]))) (.lit (.int 17))),
  .ret (.lstR [.blt .max [.lit (.int 0), .bin .Sub (.var 3) (.bin .Pow (.lit (.int 10)) (.lit (.int 16)))], .var 4, .lit (.int 0)])]
def bRoll : List S := [.ite (.cmp .Gt (.idx (.var 0) (.lit (.int 0))) (.lit (.int 0))) [.asg (.name 2) (.bin .Mod (.idx (.var 0) (.lit (.int 0))) (.var 1)),
    .asg (.sub (.var 0) (.lit (.int 0))) (.bin .FloorDiv (.idx (.var 0) (.lit (.int 0))) (.var 1)), .ret (.blt .int [.var 2])] [],
  .asg (.sub (.var 0) (.lit (.int 2))) (.bin .Add (.idx (.var 0) (.lit (.int 2))) (.lit (.int 1))),
  .asg (.name 3) (.bin .Mod (.bin .Add (.idx (.var 0) (.lit (.int 1))) (.bin .Mult (.lit (.int 49979687)) (.idx (.var 0) (.lit (.int 2))))) (.lit (.int 2305843009213693951))),
  .asg (.name 4) (.bin .Add (.bin .Mult (.bin .Mod (.bin .Add (.bin .Mult (.var 3) (.var 3)) (.bin .Mult (.lit (.int 131)) (.idx (.var 0) (.lit (.int 2))))) (.lit (.int 2305843009213693921))) (.lit (.int 32452843))) (.var 3)),
  .ret (.bin .Mod (.blt .int [.bin .FloorDiv (.var 4) (.lit (.int 65587))]) (.var 1))]
def bPick (r : Nat) : List S := [.ret (.idx (.var 1) (.call r [.var 0, .blt .len [.var 1]]))]
/-- the i-th def of the table has this body, p parameters, n names -/
structure IsB (T : Tab) (i : Nat) (b : List S) (p n : Nat) : Prop where
  ex : ∃ F, T.fns[i]? = some F ∧ F.body = b ∧ F.ps.length = p ∧ F.names.length = n ∧ F.lams = []
section
variable {T : Tab} {st : Sto} {k i id ir ip : Nat} {fr : List Frm}
theorem run_b {b : List S} {p n : Nat} (h : IsB T i b p n) {ds : List D} (hd : ds.length = p) : callF T (k + 1) fr i ds st = finish none st.length (exL (ex (cfOf T k fr [] (callF T k) (cloF T k)) deep) b (ds.map some ++ List.replicate (n - ds.length) none) st) := by
  obtain ⟨F, h1, h2, h3, h4, h5⟩ := h.ex
  have hp : F.pad ds = ds := by
    unfold Fd.pad
    rw [List.drop_eq_nil_of_le (by omega), List.append_nil]
  show (match T.fns[i]? with
    | none => Res.stuck
    | some F => if (F.pad ds).length = F.ps.length then
        finish (lmF fr F.lams) st.length (exL (ex (cfOf T k fr F.lams (callF T k) (cloF T k)) deep) F.body ((F.pad ds).map some ++ List.replicate (F.names.length - (F.pad ds).length) none) st) else .stuck) = _
  rw [h1]
  simp only
  rw [hp, if_pos (by omega), h2, h4, h5]
  rfl
theorem idx_ref {j : Nat} {xs : List D} {z : Int} (h : st[j]? = some (.lst xs)) : idxD st (.ref j) (.int z) = atD xs z := by
  show (seqD st (.ref j)).bind (fun xs => atD xs z) = _
  have e : seqD st (.ref j) = some xs := by
    show Sto.items st (.ref j) = _
    unfold Sto.items
    simp only [h]
  rw [e]
  rfl
theorem sub_ref {j : Nat} {xs : List D} {d : D} {z : Int} {env : Env} (h : st[j]? = some (.lst xs)) (h0 : 0 ≤ z) (h1 : z < xs.length) : subQ d (.ref j) (.int z) env st = .ok env (st.set j (.lst (xs.set z.toNat d))) := by
  unfold subQ
  simp only [h]
  rw [if_pos ⟨h0, h1⟩]
theorem at_0 (a b c : D) : atD [a, b, c] 0 = some a := rfl
theorem at_1 (a b c : D) : atD [a, b, c] 1 = some b := rfl
theorem at_2 (a b c : D) : atD [a, b, c] 2 = some c := rfl
theorem roll_ok (h : IsB T ir bRoll 2 5) {j B : Nat} {m : Int} (hk : 41 ≤ k) (hd : Dice j B st) (hB : B ≤ 1000000) (hm : 0 < m) :
    ∃ v st' o, callF T k fr ir [.ref j, .int m] st = .ok (.int v) st' ∧ 0 ≤ v ∧ v < m ∧ Dice j (B + 1) st' ∧ st' = st.set j o := by
  obtain ⟨k, rfl⟩ : ∃ l, k = l + 1 := ⟨k - 1, by omega⟩
  have hk1 : 40 ≤ k := by omega
  obtain ⟨a, b, c, e, hc0, hc1⟩ := hd
  have hl : j < st.length := (List.getElem?_eq_some_iff.mp e).1
  rw [run_b h rfl]
  have m0 : ¬ m = 0 := by omega
  by_cases ha : 0 < a
  · have e1 : (st.set j (O.lst [.int (a.fdiv m), .int b, .int c]))[j]? = some (O.lst [.int (a.fdiv m), .int b, .int c]) := List.getElem?_set_self hl
    refine ⟨a.fmod m, st.set j (.lst [.int (a.fdiv m), .int b, .int c]), _, ?_, (fmod_lt hm).1, (fmod_lt hm).2, ⟨_, _, _, e1, hc0, by omega⟩, rfl⟩
    simp [bRoll, idx_ref e, at_0, at_1, at_2, ha, m0, sub_ref e, hk1, cfOf]
    rw [finish_same (by simp)]
  · have e1 : (st.set j (O.lst [.int a, .int b, .int (c + 1)]))[j]? = some (O.lst [.int a, .int b, .int (c + 1)]) := List.getElem?_set_self hl
    obtain ⟨x, hx⟩ : ∃ x, x = (b + 49979687 * (c + 1)).fmod 2305843009213693951 := ⟨_, rfl⟩
    obtain ⟨y, hy⟩ : ∃ y, y = (x * x + 131 * (c + 1)).fmod 2305843009213693921 := ⟨_, rfl⟩
    have bx : 0 ≤ x ∧ x < 2305843009213693951 := by rw [hx]; exact fmod_lt (by decide)
    have by' : 0 ≤ y ∧ y < 2305843009213693921 := by rw [hy]; exact fmod_lt (by decide)
    have ax : x.natAbs < 2 ^ 62 := abs_of bx.1 bx.2 (by decide)
    have ay : y.natAbs < 2 ^ 62 := abs_of by'.1 by'.2 (by decide)
    have ac : (c + 1).natAbs < 2 ^ 62 := abs_of (m := 1000002) (by omega) (by omega) (by decide)
    have m1 : mulOk 49979687 (c + 1) = true := mulOk_of (p := 62) (by decide) ac (by omega)
    have m2 : mulOk x x = true := mulOk_of ax ax (by omega)
    have m3 : mulOk 131 (c + 1) = true := mulOk_of (p := 62) (by decide) ac (by omega)
    have m4 : mulOk y 32452843 = true := mulOk_of (q := 62) ay (by decide) (by omega)
    refine ⟨((y * 32452843 + x).fdiv 65587).fmod m, st.set j (.lst [.int a, .int b, .int (c + 1)]), _, ?_, (fmod_lt hm).1, (fmod_lt hm).2, ⟨_, _, _, e1, by omega, by omega⟩, rfl⟩
    simp [bRoll, idx_ref e, at_0, at_1, at_2, ha, m0, sub_ref e, hk1, idx_ref e1, m1, ← hx, m2, m3, ← hy, m4, cfOf]
    rw [finish_same (by simp)]
theorem pick_ok (h : IsB T ir bRoll 2 5) (hp : IsB T ip (bPick ir) 2 2) {j B : Nat} {xs : List D} (hk : 42 ≤ k) (hd : Dice j B st) (hB : B ≤ 1000000) (hx : 0 < xs.length) :
    ∃ (v : Nat) (st' : Sto) (o : O), ∃ hj : v < xs.length, callF T k fr ip [.ref j, .lst xs] st = .ok xs[v] st' ∧ Dice j (B + 1) st' ∧ st' = st.set j o := by
  obtain ⟨k, rfl⟩ : ∃ l, k = l + 1 := ⟨k - 1, by omega⟩
  obtain ⟨v, st', o, e, h0, h1, d, l⟩ := roll_ok (k := k) (fr := fr) h (m := xs.length) (by omega) hd hB (by omega)
  refine ⟨v.toNat, st', o, by omega, ?_, d, l⟩
  rw [run_b hp rfl]
  have ix : idxD st' (.lst xs) (.int v) = some xs[v.toNat] := by
    show atD xs v = _
    unfold atD
    rw [if_pos h0]
    exact List.getElem?_eq_getElem (by omega)
  have e2 : (cfOf T k fr [] (callF T k) (cloF T k)).call = fun env x ds st => callF T k fr x ds st := rfl
  simp [bPick, e2, e, ix]
  rw [finish_same (by rw [l]; simp)]
theorem dice_ok (h : IsB T id bDice 2 5) {ns : List Int} {s : Int} (hk : 1 ≤ k) (h0 : 0 ≤ s) (h1 : s < 1000) :
    ∃ a b : Int, callF T k fr id [.rol (ns.map D.int), .int s] st = .ok (.ref st.length) (st ++ [.lst [.int a, .int b, .int 0]]) := by
  obtain ⟨k, rfl⟩ : ∃ l, k = l + 1 := ⟨k - 1, by omega⟩
  rw [run_b h rfl]
  obtain ⟨c, hc⟩ : ∃ c : Int, c = (if s < (ns.length : Int) then ns.getD s.toNat 0 else 131 * s + 37) := ⟨_, rfl⟩
  obtain ⟨g, hg⟩ : ∃ g : Int, g = (c.natAbs : Int).fmod ((10 ^ 53) ^ 6) := ⟨_, rfl⟩
  obtain ⟨p, hp⟩ : ∃ p : Int, p = g.fmod 2305843009213693907 := ⟨_, rfl⟩
  have bp : 0 ≤ p ∧ p < 2305843009213693907 := by rw [hp]; exact fmod_lt (by decide)
  have m1 : mulOk 131 s = true := mulOk_of (p := 8) (q := 10) (by decide) (abs_of h0 h1 (by decide)) (by omega)
  have m2 : mulOk p 73 = true := mulOk_of (p := 62) (q := 8) (abs_of bp.1 bp.2 (by decide)) (by decide) (by omega)
  have m3 : mulOk 619 s = true := mulOk_of (p := 10) (q := 10) (by decide) (abs_of h0 h1 (by decide)) (by omega)
  have m4 : mulOk 41 (if c < 0 then 1 else 0) = true := by split <;> decide
  have p1 : powOk 10 53 = true := by decide +kernel
  have p2 : powOk (10 ^ 53) 6 = true := by decide +kernel
  have p3 : powOk 10 16 = true := by decide +kernel
  have cell : ∀ C : Cf, ev C 59 (.ite (.cmp .Lt (.var 1) (.blt .len [.var 0])) (.blt .int [.idx (.var 0) (.var 1)]) (.bin .Add (.bin .Mult (.lit (.int 131)) (.var 1)) (.lit (.int 37)))) [some (.rol (ns.map D.int)), some (.int s), none, none, none] st = .ok (.int c) st := by
    intro C
    by_cases hlt : s < (ns.length : Int)
    · have ix : idxD st (.rol (ns.map D.int)) (.int s) = some (.int c) := by
        show atD (ns.map D.int) s = _
        unfold atD
        rw [if_pos h0, List.getElem?_map, hc, if_pos hlt, List.getElem?_eq_getElem (by omega), List.getD_eq_getElem?_getD, List.getElem?_eq_getElem (by omega)]
        rfl
      simp [hlt, ix]
    · rw [hc, if_neg hlt]
      simp [hlt, m1]
  refine ⟨if g - 10 ^ 16 > 0 then g - 10 ^ 16 else 0, p * 73 + 619 * s + 41 * (if c < 0 then 1 else 0) + 17, ?_⟩
  have e0 : ([D.rol (ns.map D.int), .int s].map some ++ List.replicate (5 - [D.rol (ns.map D.int), .int s].length) none : Env) = [some (.rol (ns.map D.int)), some (.int s), none, none, none] := rfl
  rw [e0]
  have mx : ∀ i j : Int, maxD [.int i, .int j] st = some (.int (if j > i then j else i)) := fun _ _ => rfl
  have fin : ∀ (d : D) (x : O), D.low st.length d = false → finish none st.length (.ret d (st ++ [x])) = .ok d (st ++ [x]) := fun d x hd => by
    show trim _ _ _ = _
    unfold trim
    rw [hd]
    rfl
  have great : ∀ C : Cf, ev C 59 (.bin .Mod (.blt .int [.blt .abs [.var 2]]) (.bin .Pow (.bin .Pow (.lit (.int 10)) (.lit (.int 53))) (.lit (.int 6)))) [some (.rol (ns.map D.int)), some (.int s), some (.int c), none, none] st = .ok (.int g) st := by
    intro C
    rw [hg]
    have e1 : binD C.k .Pow (.int 10) (.int 53) = some (.int (10 ^ 53)) := pow_ok 10 53 p1
    have e2 : binD C.k .Pow (.int (10 ^ 53)) (.int 6) = some (.int ((10 ^ 53) ^ 6)) := pow_ok (10 ^ 53) 6 p2
    have e3 : ∀ i j : Int, j ≠ 0 → binD C.k .Mod (.int i) (.int j) = some (.int (i.fmod j)) := fun i j h => if_neg h
    simp only [q_bin, q_blt, q_int, q_var, qL_cons, qL_nil, q_at0, q_atS, Res.of_some, Res.bind_ok, bq_abs, bq_int, aq_int, iq_int, see_int, e1, e2, e3 _ _ (show ((10 : Int) ^ 53) ^ 6 ≠ 0 by decide)]
  have seed : ∀ C : Cf, ev C 59 (.bin .Add (.bin .Add (.bin .Add (.bin .Mult (.bin .Mod (.var 3) (.lit (.int 2305843009213693907))) (.lit (.int 73))) (.bin .Mult (.lit (.int 619)) (.var 1))) (.bin .Mult (.lit (.int 41)) (.blt .int [.cmp .Lt (.var 2) (.lit (.int 0))]))) (.lit (.int 17)))
      [some (.rol (ns.map D.int)), some (.int s), some (.int c), some (.int g), none] st = .ok (.int (p * 73 + 619 * s + 41 * (if c < 0 then 1 else 0) + 17)) st := by
    intro C
    simp [← hp, m2, m3, m4]
  simp only [bDice, xL_cons, xL_nil, q_deep, x_asg, x_ret, cell, great, seed, Res.run_ok, qt_name, Res.still_ok, SR.then_next, List.set_cons_zero, List.set_cons_succ]
  have s3 : 3 ≤ sizeLine := by decide
  simp [p3, mx, s3]
  rw [fin _ _ (by simp [D.low])]
end
end Mu

end
section
set_option linter.all false
set_option Elab.async false
/-! The laws' loops over spots and turns. -/
namespace Mu
open PySem
theorem base_nil : Base [] := ⟨rfl, rfl⟩
theorem low_lst (n : Nat) (a b c : Int) : O.low n (.lst [.int a, .int b, .int c]) = true := by
  show D.lows n _ = true
  simp [D.lows, D.low]
theorem lowC_lst (n : Nat) (a b c : Int) : O.lowC n (.lst [.int a, .int b, .int c]) = true := by
  show D.lowsC n _ = true
  simp [D.lowsC, D.lowC]
theorem Base.set {st : Sto} (B : Base st) (j : Nat) (a b c : Int) : Base (st.set j (.lst [.int a, .int b, .int c])) := by
  refine ⟨?_, ?_⟩
  · rw [List.length_set, List.all_eq_true]
    intro o ho
    rcases List.mem_or_eq_of_mem_set ho with h | h
    · exact List.all_eq_true.mp B.low o h
    · rw [h]; exact low_lst _ _ _ _
  · rw [List.all_eq_true]
    intro o ho
    rcases List.mem_or_eq_of_mem_set ho with h | h
    · exact List.all_eq_true.mp B.lowC o h
    · rw [h]; exact lowC_lst _ _ _ _
theorem Base.add {st : Sto} (B : Base st) (a b c : Int) : Base (st ++ [.lst [.int a, .int b, .int c]]) := by
  refine ⟨?_, ?_⟩
  · rw [List.all_append, Bool.and_eq_true]
    refine ⟨List.all_eq_true.mpr fun o ho => O.low_mono (by simp) o (List.all_eq_true.mp B.low o ho), ?_⟩
    show (_ && true) = true
    rw [Bool.and_true]
    exact low_lst _ _ _ _
  · rw [List.all_append, Bool.and_eq_true]
    refine ⟨B.lowC, ?_⟩
    show (_ && true) = true
    rw [Bool.and_true]
    exact lowC_lst _ _ _ _
section
variable {st0 : Sto}
theorem shS_nil : shS st0 [] = st0 := by unfold shS; simp
theorem cfR_of {T : Tab} (P : TabP T) (B : Base st0) {k : Nat} {fr fr' : List Frm} (lams : List E) (h : FrR st0.length fr fr') : CfR st0 (cfOf T k fr lams (callF T k) (cloF T k)) (cfOf T k fr' lams (callF T k) (cloF T k)) := by
  obtain ⟨ih1, ih2⟩ := call_sh P B k
  exact ⟨Nat.le_refl _, rfl, h.len, P.con, fun b e f ds st => ih1 (h.push lams b e) f ds st, fun b e d i ds st => ih2 (h.push lams b e) d i ds st⟩
theorem frR_nil {n : Nat} : FrR n [] [] := ⟨rfl, fun j f h => by simp at h⟩
theorem over_none (n : Nat) (b : Env) : over n b (List.replicate b.length none) = b := over_self (by simp) fun i d h => by
  rw [List.getElem?_replicate] at h
  split at h
  · cases h
  · cases h
theorem frR_one {n : Nat} {lams : List E} {b : Env} {m : Nat} (hm : m = b.length) : FrR n [⟨lams, List.replicate m none⟩] [⟨lams, b⟩] := by
  subst hm
  refine ⟨rfl, fun j f h => ?_⟩
  cases j with
  | zero => cases h; exact ⟨b, by simp [over_none]⟩
  | succ j => simp at h
/-- a piece of a body, moved -/
theorem lift_exL {T : Tab} (P : TabP T) (B : Base st0) {k : Nat} {fr fr' : List Frm} {lams : List E} (h : FrR st0.length fr fr') {m : Nat} {ss : List S} {e b : Env} (hl : e.length = b.length) (he : ∀ (i : Nat) (d : D), e[i]? = some (some d) → b[i]? = some (some (d.sh st0.length))) :
    Sv st0 b (exL (ex (cfOf T k fr lams (callF T k) (cloF T k)) m) ss e []) (exL (ex (cfOf T k fr' lams (callF T k) (cloF T k)) m) ss b st0) := by
  have q := exL_sh (st0 := st0) (b := b) (fun s e st => ex_sh (cfR_of P B (k := k) lams h) m s e st) ss e []
  rw [over_self hl he, shS_nil] at q
  exact q
end
/-- what a turn does: it answers true, and the dice at j have been thrown -/
def Turns (T : Tab) (k iR q : Nat) (lams : List E) (n : Nat) : Prop := ∀ (st : Sto) (j B : Nat) (E : Env), E.length = n → Base st → Dice j B st → B ≤ 500000 →
  ∃ a b c : Int, callF T k (pushF [] lams E) iR [.ref j] st = .ok (.bl true) (st.set j (.lst [.int a, .int b, .int c])) ∧ Dice j (B + q) (st.set j (.lst [.int a, .int b, .int c]))
section
variable {C : Cf} {n : Nat} {env : Env} {st : Sto}
@[simp] theorem q_not (a : E) : evT C (n + 1) (.not a) env st = (evT C n a env st).bind fun c st => .ok (!c) st := rfl
@[simp] theorem qT_call (f : Nat) (es : List E) : evT C (n + 1) (.call f es) env st = (ev C n (.call f es) env st).bind fun d st => .of (truth st d) st := rfl
@[simp] theorem q_truth (b : Bool) : truth st (.bl b) = some b := rfl
@[simp] theorem q_bl (b : Bool) : ev C (n + 1) (.lit (.bl b)) env st = .ok (.bl b) st := rfl
@[simp] theorem x_for (t : Tg) (it : Iz) (b : List S) : ex C (n + 1) (.for_ t it b) env st = (itD (fun e st => ev C n e env st) it st).run env fun xs st =>
        forL (fun x env st => (tgD (fun e env st => ev C n e env st) t x env st).still.run env fun env st => exL (ex C n) b env st) xs env st := rfl
theorem q_rng (f : E → Sto → Res D) (es : List E) : itD f (.rng es) st = (evL f es st).bind fun ds st => .of (rngD ds) st := by cases es <;> rfl
theorem forL_next {f : D → Env → Sto → SR} {x : D} {xs : List D} {env env' : Env} {st st' : Sto} (h : f x env st = .next env' st') : forL f (x :: xs) env st = forL f xs env' st' := by
  show (match f x env st with
    | .next env st => forL f xs env st
    | .cont env st => forL f xs env st
    | .brk env st => .next env st
    | r => r) = _
  rw [h]
end
/-- the loop over turns -/
theorem turns_ok {T : Tab} {k iR q n : Nat} {lams : List E} (hR : Turns T k iR q lams n) {fr0 : List Frm} (C : Cf) (hC : C = cfOf T k [] lams (callF T k) (cloF T k)) {m1 : Nat} {o0 o1 : Option D} {j : Nat} (rest : Env) (hn : n = rest.length + 4) : ∀ (xs : List D) (B : Nat) (o3 : Option D) (st : Sto), Base st → Dice j B st → B + q * xs.length ≤ 500000 →
    ∃ (o3' : Option D) (st' : Sto), forL (fun x env st => (tgD (fun e env st => ev C (m1 + 8) e env st) (.name 3) x env st).still.run env fun env st => exL (ex C (m1 + 8)) [.ite (.not (.call iR [.var 2])) [.ret (.lit (.bl false))] []] env st) xs (o0 :: o1 :: some (.ref j) :: o3 :: rest) st
      = .next (o0 :: o1 :: some (.ref j) :: o3' :: rest) st' ∧ Base st' ∧ st'.length = st.length
  | [], B, o3, st, hb, hd, _ => ⟨o3, st, rfl, hb, rfl⟩
  | x :: xs, B, o3, st, hb, hd, hB => by
    have hB2 : B + q + q * xs.length ≤ 500000 := by
      simp only [List.length_cons, Nat.mul_add, Nat.mul_one] at hB
      omega
    obtain ⟨a, b, c, e, hd2⟩ := hR st j B (o0 :: o1 :: some (.ref j) :: some x :: rest) (by simp [hn]) hb hd (by omega)
    have hb2 := hb.set j a b c
    obtain ⟨o3', st', e2, hb3, hl⟩ := turns_ok hR (fr0 := fr0) C hC (m1 := m1) (o0 := o0) (o1 := o1) rest hn xs (B + q) (some x) _ hb2 hd2 hB2
    refine ⟨o3', st', ?_, hb3, by rw [hl, List.length_set]⟩
    have call : C.call (o0 :: o1 :: some (.ref j) :: some x :: rest) iR [.ref j] st = .ok (.bl true) (st.set j (.lst [.int a, .int b, .int c])) := by
      rw [hC]
      exact e
    have hstep : (fun x env st => (tgD (fun e env st => ev C (m1 + 8) e env st) (.name 3) x env st).still.run env fun env st => exL (ex C (m1 + 8)) [.ite (.not (.call iR [.var 2])) [.ret (.lit (.bl false))] []] env st) x (o0 :: o1 :: some (.ref j) :: o3 :: rest) st
        = .next (o0 :: o1 :: some (.ref j) :: some x :: rest) (st.set j (.lst [.int a, .int b, .int c])) := by
      simp only [qt_name, Res.still_ok, Res.run_ok, List.set_cons_succ, List.set_cons_zero, xL_cons, xL_nil, x_ite, q_not, qT_call, q_call, qL_cons, qL_nil, q_var, q_atS, q_at0, Res.of_some, Res.bind_ok, call, q_truth, Bool.not_true, Bool.false_eq_true, if_false, SR.then_next]
    rw [forL_next hstep]
    exact e2
/-- the loop over spots -/
theorem spots_ok {T : Tab} {k iR q n id : Nat} {lams : List E} {M : Nat} (hR : Turns T k iR q lams n) (hD : IsB T id bDice 2 5) (hk : 1 ≤ k) (hM : q * M ≤ 500000) (hM2 : M ≤ 1000) (C : Cf) (hC : C = cfOf T k [] lams (callF T k) (cloF T k)) {ns : List Int} (rest : Env) (hn : n = rest.length + 4) : ∀ (m : Nat) (s : Int) (o1 o2 o3 : Option D) (st : Sto), 0 ≤ s → s + m ≤ 1000 → Base st →
    ∃ (o1' o2' o3' : Option D) (st' : Sto), forL (fun x env st => (tgD (fun e env st => ev C 59 e env st) (.name 1) x env st).still.run env fun env st => exL (ex C 59) [.asg (.name 2) (.call id [.var 0, .var 1]), .for_ (.name 3) (.rng [.lit (.int M)]) [.ite (.not (.call iR [.var 2])) [.ret (.lit (.bl false))] []]] env st) (intsD s m) (some (.rol (ns.map D.int)) :: o1 :: o2 :: o3 :: rest) st
      = .next (some (.rol (ns.map D.int)) :: o1' :: o2' :: o3' :: rest) st' ∧ Base st'
  | 0, s, o1, o2, o3, st, _, _, hb => ⟨o1, o2, o3, st, rfl, hb⟩
  | m + 1, s, o1, o2, o3, st, h0, h1, hb => by
    obtain ⟨a, b, e⟩ := dice_ok (k := k) (st := st) (fr := pushF [] lams (some (.rol (ns.map D.int)) :: some (.int s) :: o2 :: o3 :: rest)) hD (ns := ns) hk h0 (by omega)
    have hb2 := hb.add a b 0
    have hd : Dice st.length 0 (st ++ [.lst [.int a, .int b, .int 0]]) := ⟨a, b, 0, by simp, by omega, by omega⟩
    have lenI : (intsD 0 M).length = M := by
      have : ∀ (k : Nat) (lo : Int), (intsD lo k).length = k := fun k => by
        induction k with
        | zero => intro lo; rfl
        | succ k ih => intro lo; unfold intsD; simp [ih]
      exact this M 0
    obtain ⟨o3', st2, e2, hb3, hl⟩ := turns_ok hR (fr0 := []) C hC (m1 := 50) (o0 := some (.rol (ns.map D.int))) (o1 := some (.int s)) (j := st.length) rest hn (intsD 0 M) 0 o3 _ hb2 hd (by rw [lenI]; omega)
    obtain ⟨p1, p2, p3, st3, e3, hb4⟩ := spots_ok hR hD hk hM hM2 C hC (ns := ns) rest hn m (s + 1) (some (.int s)) (some (.ref st.length)) o3' st2 (by omega) (by omega) hb3
    refine ⟨p1, p2, p3, st3, ?_, hb4⟩
    have call : C.call (some (.rol (ns.map D.int)) :: some (.int s) :: o2 :: o3 :: rest) id [.rol (ns.map D.int), .int s] st = .ok (.ref st.length) (st ++ [.lst [.int a, .int b, .int 0]]) := by
      rw [hC]
      exact e
    have inner : ex C 59 (.for_ (.name 3) (.rng [.lit (.int M)]) [.ite (.not (.call iR [.var 2])) [.ret (.lit (.bl false))] []]) (some (.rol (ns.map D.int)) :: some (.int s) :: some (.ref st.length) :: o3 :: rest) (st ++ [.lst [.int a, .int b, .int 0]])
        = .next (some (.rol (ns.map D.int)) :: some (.int s) :: some (.ref st.length) :: o3' :: rest) st2 := by
      rw [x_for, q_rng]
      simp only [qL_cons, qL_nil, q_int, Res.bind_ok]
      have r : rngD [.int (M : Int)] = some (intsD 0 M) := by
        show (if (M : Int).natAbs ≤ 4611686018427387903 then some (intsD 0 (M : Int).toNat) else none) = _
        rw [if_pos (by omega)]
        rfl
      rw [r]
      exact e2
    have hstep : (fun x env st => (tgD (fun e env st => ev C 59 e env st) (.name 1) x env st).still.run env fun env st => exL (ex C 59) [.asg (.name 2) (.call id [.var 0, .var 1]), .for_ (.name 3) (.rng [.lit (.int M)]) [.ite (.not (.call iR [.var 2])) [.ret (.lit (.bl false))] []]] env st) (.int s) (some (.rol (ns.map D.int)) :: o1 :: o2 :: o3 :: rest) st
        = .next (some (.rol (ns.map D.int)) :: some (.int s) :: some (.ref st.length) :: o3' :: rest) st2 := by
      simp only [qt_name, Res.still_ok, Res.run_ok, List.set_cons_succ, List.set_cons_zero, xL_cons, xL_nil, x_asg, q_call, qL_cons, qL_nil, q_var, q_atS, q_at0, Res.of_some, Res.bind_ok, call, SR.then_next, inner]
    show forL _ (.int s :: intsD (s + 1) m) _ _ = _
    rw [forL_next hstep]
    exact e3
end Mu

end
section
set_option linter.all false
set_option Elab.async false
/-! A law of turns that each answer true, and an end that answers true. -/
namespace Mu
open PySem
section
variable {C : Cf} {n : Nat} {env : Env} {st : Sto}
theorem exL_app (f : S → Env → Sto → SR) : ∀ (a b : List S) (env : Env) (st : Sto), exL f (a ++ b) env st = (exL f a env st).then fun env st => exL f b env st
  | [], _, _, _ => rfl
  | s :: a, b, env, st => by
    show (f s env st).then (fun env st => exL f (a ++ b) env st) = ((f s env st).then fun env st => exL f a env st).then _
    cases f s env st with
    | next e s => exact exL_app f a b e s
    | _ => rfl
@[simp] theorem q_tup (es : List E) : ev C (n + 1) (.tup es) env st = (evL (fun e st => ev C n e env st) es st).bind fun ds st => if ds.length ≤ sizeLine then .ok (.tup ds) st else .stuck := rfl
@[simp] theorem qt_tup (f : E → Env → Sto → Res D) (ts : List Tg) (xs : List D) : tgD f (.tup ts) (.tup xs) env st = if xs.length = ts.length then tgsD f ts xs env st else .stuck := by conv => lhs; unfold tgD
@[simp] theorem qts_nil (f : E → Env → Sto → Res D) : tgsD f [] [] env st = .ok env st := by unfold tgsD; rfl
@[simp] theorem qts_cons (f : E → Env → Sto → Res D) (t : Tg) (ts : List Tg) (d : D) (ds : List D) : tgsD f (t :: ts) (d :: ds) env st = (tgD f t d env st).bind fun env st => tgsD f ts ds env st := by conv => lhs; unfold tgsD
end
theorem set_shape {st : Sto} {j B : Nat} {o : O} (h : Dice j B (st.set j o)) : ∃ a b c : Int, st.set j o = st.set j (.lst [.int a, .int b, .int c]) := by
  obtain ⟨a, b, c, e, _, _⟩ := h
  refine ⟨a, b, c, ?_⟩
  have hl : j < st.length := by
    have := (List.getElem?_eq_some_iff.mp e).1
    simpa using this
  rw [List.getElem?_set_self hl] at e
  rw [Option.some.inj e]
theorem set_set {st : Sto} {j : Nat} {o p : O} : (st.set j o).set j p = st.set j p := by simp
/-- a def without defaults -/
theorem run_l {T : Tab} {i k : Nat} {fr : List Frm} {F : Fd} (h : T.fns[i]? = some F) {ds : List D} {st : Sto} (hl : ds.length = F.ps.length) : callF T (k + 1) fr i ds st =
    finish (lmF fr F.lams) st.length (exL (ex (cfOf T k fr F.lams (callF T k) (cloF T k)) deep) F.body (ds.map some ++ List.replicate (F.names.length - ds.length) none) st) := by
  rw [callF_eq h, pad_full hl, if_pos hl]
/-- what the law's def looks like -/
structure LawB (T : Tab) (il id iR N M n : Nat) (rest : List S) (lams : List E) : Prop where
  ex : ∃ F, T.fns[il]? = some F ∧ F.ps.length = 1 ∧ F.names.length = n ∧ F.lams = lams ∧ F.body = .for_ (.name 1) (.rng [.blt .max [.lit (.int 1), .blt .min [.lit (.int N), .blt .len [.var 0]]]]) [.asg (.name 2) (.call id [.var 0, .var 1]),
    .for_ (.name 3) (.rng [.lit (.int M)]) [.ite (.not (.call iR [.var 2])) [.ret (.lit (.bl false))] []]] :: rest
/-- the end, by itself -/
def endB (T : Tab) (k n : Nat) (rest : List S) (lams : List E) : Bool := match exL (ex (cfOf T k [] lams (callF T k) (cloF T k)) deep) rest (List.replicate n none) [] with
  | .ret (.bl true) st => st.all (O.lowC 0)
  | _ => false
theorem law_all {T : Tab} {il id iR N M n q k : Nat} {rest : List S} {lams : List E} (P : TabP T) (L : LawB T il id iR N M n rest lams) (hD : IsB T id bDice 2 5) (hR : Turns T k iR q lams n) (hk : 1 ≤ k) (hn : 4 ≤ n) (hq : q * M ≤ 500000) (hM : M ≤ 1000) (hN : N ≤ 900) (h1 : 1 ≤ N) (he : endB T k n rest lams = true)
    (ns : List Int) : ∃ st, callF T (k + 1) [] il [.rol (ns.map D.int)] [] = .ok (.bl true) st := by
  obtain ⟨F, f1, f2, f3, f4, f5⟩ := L.ex
  rw [run_l f1 (by rw [f2]; rfl), f3, f4, f5]
  obtain ⟨m, hm⟩ : ∃ m, n = m + 4 := ⟨n - 4, by omega⟩
  have e0 : ([D.rol (ns.map D.int)].map some ++ List.replicate (n - [D.rol (ns.map D.int)].length) none : Env) = some (.rol (ns.map D.int)) :: none :: none :: none :: List.replicate m none := by
    subst hm
    rfl
  rw [e0]
  obtain ⟨c, hc, c0, c1⟩ : ∃ c : Int, c = (if (if (ns.length : Int) < N then (ns.length : Int) else N) > 1 then (if (ns.length : Int) < N then (ns.length : Int) else N) else 1) ∧ 0 ≤ c ∧ c ≤ 900 := ⟨_, rfl, by split <;> split <;> omega, by split <;> split <;> omega⟩
  obtain ⟨o1, o2, o3, st, hfor, hb⟩ := spots_ok hR hD hk hq hM _ rfl (ns := ns) (List.replicate m none) (by simp [hm]) c.toNat 0 none none none [] (by omega) (by omega) base_nil
  have rng : itD (fun e st => ev (cfOf T k [] lams (callF T k) (cloF T k)) 59 e (some (.rol (ns.map D.int)) :: none :: none :: none :: List.replicate m none) st) (.rng [.blt .max [.lit (.int 1), .blt .min [.lit (.int N), .blt .len [.var 0]]]]) [] = .ok (intsD 0 c.toNat) [] := by
    rw [q_rng]
    have mx : ∀ i j : Int, maxD [.int i, .int j] [] = some (.int (if j > i then j else i)) := fun _ _ => rfl
    have mn : ∀ i j : Int, bltD .min [.int i, .int j] [] = some (.int (if j < i then j else i)) := fun _ _ => rfl
    simp only [qL_cons, qL_nil, q_blt, q_int, q_var, q_at0, Res.of_some, Res.bind_ok, bq_len, lq_rol, List.length_map, mn, bq_max, mx]
    rw [← hc]
    have r : rngD [.int c] = some (intsD 0 c.toNat) := by
      show (if c.natAbs ≤ 4611686018427387903 then some (intsD 0 c.toNat) else none) = _
      rw [if_pos (by omega)]
    rw [r]
    rfl
  have first : ex (cfOf T k [] lams (callF T k) (cloF T k)) 60 (.for_ (.name 1) (.rng [.blt .max [.lit (.int 1), .blt .min [.lit (.int N), .blt .len [.var 0]]]]) [.asg (.name 2) (.call id [.var 0, .var 1]),
      .for_ (.name 3) (.rng [.lit (.int M)]) [.ite (.not (.call iR [.var 2])) [.ret (.lit (.bl false))] []]]) (some (.rol (ns.map D.int)) :: none :: none :: none :: List.replicate m none) [] = .next (some (.rol (ns.map D.int)) :: o1 :: o2 :: o3 :: List.replicate m none) st := by
    rw [x_for, rng, Res.run_ok]
    exact hfor
  rw [q_deep, xL_cons, first, SR.then_next]
  have lift := lift_exL P hb (k := k) (fr := []) (fr' := []) (lams := lams) frR_nil (m := 60) (ss := rest) (e := List.replicate n none) (b := some (.rol (ns.map D.int)) :: o1 :: o2 :: o3 :: List.replicate m none) (by simp [hm]) fun i d h => by
    rw [List.getElem?_replicate] at h
    split at h
    · cases h
    · cases h
  unfold endB at he
  rw [q_deep] at he
  split at he
  · rename_i st1 e1
    rw [e1] at lift
    have lift : exL (ex (cfOf T k [] lams (callF T k) (cloF T k)) 60) rest (some (.rol (ns.map D.int)) :: o1 :: o2 :: o3 :: List.replicate m none) st = .ret (.bl true) (shS st st1) := lift
    rw [lift]
    have ok : okC (lmF [] lams) (.bl true) (shS st st1) = true := by
      unfold lmF
      split
      · rfl
      · show (true && _) = true
        rw [Bool.true_and, shS_lowC hb]
        exact he
    show ∃ st2, (if okC (lmF [] lams) (.bl true) (shS st st1) then trim 0 (.bl true) (shS st st1) else .stuck) = _
    rw [if_pos ok]
    unfold trim
    split
    · exact ⟨_, rfl⟩
    · exact ⟨_, rfl⟩
  · cases he
end Mu

end
section
/-! The raise of a class with an own __init__, with the block at hand. -/
open PySem PySem.W PyProof.Rows
namespace Mu
theorem raise_iniC {P : Program} {w : World} {K : Frag} {mg : Str → Option Value} {C : Addr} {att : Nat → Str} {x : Str} {h : Heap} {f : Nat} (s : Bool) (_ : K.In h) (n : mg x = some (.ref C)) (N : XIni P w K mg C (att f) (cndX K mg s)) : RaiseOk P w K mg att C ⟨some f, s⟩ := raise_ini N
end Mu

end
section
set_option linter.all false
set_option Elab.async false
/-! As MuDl and MuDm: what is done at each turn is any list of statements. -/
namespace Mu
open PySem
/-- what a turn does: it goes on, and the dice at j have been thrown -/
def TurnsB (T : Tab) (k q : Nat) (lams : List E) (n : Nat) (bd : List S) : Prop := ∀ (st : Sto) (j B : Nat) (o0 o1 : Option D) (x : D) (rest : Env), n = rest.length + 4 → Base st → Dice j B st → B ≤ 500000 →
  ∃ a b c : Int, exL (ex (cfOf T k [] lams (callF T k) (cloF T k)) 58) bd (o0 :: o1 :: some (.ref j) :: some x :: rest) st = .next (o0 :: o1 :: some (.ref j) :: some x :: rest) (st.set j (.lst [.int a, .int b, .int c])) ∧ Dice j (B + q) (st.set j (.lst [.int a, .int b, .int c]))
/-- the loop over turns -/
theorem turnsB_ok {T : Tab} {k q n : Nat} {lams : List E} {bd : List S} (hR : TurnsB T k q lams n bd) {fr0 : List Frm} (C : Cf) (hC : C = cfOf T k [] lams (callF T k) (cloF T k)) {o0 o1 : Option D} {j : Nat} (rest : Env) (hn : n = rest.length + 4) : ∀ (xs : List D) (B : Nat) (o3 : Option D) (st : Sto), Base st → Dice j B st → B + q * xs.length ≤ 500000 →
    ∃ (o3' : Option D) (st' : Sto), forL (fun x env st => (tgD (fun e env st => ev C 58 e env st) (.name 3) x env st).still.run env fun env st => exL (ex C 58) bd env st) xs (o0 :: o1 :: some (.ref j) :: o3 :: rest) st
      = .next (o0 :: o1 :: some (.ref j) :: o3' :: rest) st' ∧ Base st' ∧ st'.length = st.length
  | [], B, o3, st, hb, hd, _ => ⟨o3, st, rfl, hb, rfl⟩
  | x :: xs, B, o3, st, hb, hd, hB => by
    have hB2 : B + q + q * xs.length ≤ 500000 := by
      simp only [List.length_cons, Nat.mul_add, Nat.mul_one] at hB
      omega
    obtain ⟨a, b, c, e, hd2⟩ := hR st j B o0 o1 x rest hn hb hd (by omega)
    have hb2 := hb.set j a b c
    obtain ⟨o3', st', e2, hb3, hl⟩ := turnsB_ok hR (fr0 := fr0) C hC (o0 := o0) (o1 := o1) rest hn xs (B + q) (some x) _ hb2 hd2 hB2
    refine ⟨o3', st', ?_, hb3, by rw [hl, List.length_set]⟩
    have hstep : (fun x env st => (tgD (fun e env st => ev C 58 e env st) (.name 3) x env st).still.run env fun env st => exL (ex C 58) bd env st) x (o0 :: o1 :: some (.ref j) :: o3 :: rest) st
        = .next (o0 :: o1 :: some (.ref j) :: some x :: rest) (st.set j (.lst [.int a, .int b, .int c])) := by
      simp only [qt_name, Res.still_ok, Res.run_ok, List.set_cons_succ, List.set_cons_zero]
      rw [hC]
      exact e
    rw [forL_next hstep]
    exact e2
/-- the loop over spots -/
theorem spotsB_ok {T : Tab} {k q n id : Nat} {lams : List E} {bd : List S} {M : Nat} (hR : TurnsB T k q lams n bd) (hD : IsB T id bDice 2 5) (hk : 1 ≤ k) (hM : q * M ≤ 500000) (hM2 : M ≤ 1000) (C : Cf) (hC : C = cfOf T k [] lams (callF T k) (cloF T k)) {ns : List Int} (rest : Env) (hn : n = rest.length + 4) : ∀ (m : Nat) (s : Int) (o1 o2 o3 : Option D) (st : Sto), 0 ≤ s → s + m ≤ 1000 → Base st →
    ∃ (o1' o2' o3' : Option D) (st' : Sto), forL (fun x env st => (tgD (fun e env st => ev C 59 e env st) (.name 1) x env st).still.run env fun env st => exL (ex C 59) [.asg (.name 2) (.call id [.var 0, .var 1]), .for_ (.name 3) (.rng [.lit (.int M)]) bd] env st) (intsD s m) (some (.rol (ns.map D.int)) :: o1 :: o2 :: o3 :: rest) st
      = .next (some (.rol (ns.map D.int)) :: o1' :: o2' :: o3' :: rest) st' ∧ Base st'
  | 0, s, o1, o2, o3, st, _, _, hb => ⟨o1, o2, o3, st, rfl, hb⟩
  | m + 1, s, o1, o2, o3, st, h0, h1, hb => by
    obtain ⟨a, b, e⟩ := dice_ok (k := k) (st := st) (fr := pushF [] lams (some (.rol (ns.map D.int)) :: some (.int s) :: o2 :: o3 :: rest)) hD (ns := ns) hk h0 (by omega)
    have hb2 := hb.add a b 0
    have hd : Dice st.length 0 (st ++ [.lst [.int a, .int b, .int 0]]) := ⟨a, b, 0, by simp, by omega, by omega⟩
    have lenI : (intsD 0 M).length = M := by
      have : ∀ (k : Nat) (lo : Int), (intsD lo k).length = k := fun k => by
        induction k with
        | zero => intro lo; rfl
        | succ k ih => intro lo; unfold intsD; simp [ih]
      exact this M 0
    obtain ⟨o3', st2, e2, hb3, hl⟩ := turnsB_ok hR (fr0 := []) C hC (o0 := some (.rol (ns.map D.int))) (o1 := some (.int s)) (j := st.length) rest hn (intsD 0 M) 0 o3 _ hb2 hd (by rw [lenI]; omega)
    obtain ⟨p1, p2, p3, st3, e3, hb4⟩ := spotsB_ok hR hD hk hM hM2 C hC (ns := ns) rest hn m (s + 1) (some (.int s)) (some (.ref st.length)) o3' st2 (by omega) (by omega) hb3
    refine ⟨p1, p2, p3, st3, ?_, hb4⟩
    have call : C.call (some (.rol (ns.map D.int)) :: some (.int s) :: o2 :: o3 :: rest) id [.rol (ns.map D.int), .int s] st = .ok (.ref st.length) (st ++ [.lst [.int a, .int b, .int 0]]) := by
      rw [hC]
      exact e
    have inner : ex C 59 (.for_ (.name 3) (.rng [.lit (.int M)]) bd) (some (.rol (ns.map D.int)) :: some (.int s) :: some (.ref st.length) :: o3 :: rest) (st ++ [.lst [.int a, .int b, .int 0]])
        = .next (some (.rol (ns.map D.int)) :: some (.int s) :: some (.ref st.length) :: o3' :: rest) st2 := by
      rw [x_for, q_rng]
      simp only [qL_cons, qL_nil, q_int, Res.bind_ok]
      have r : rngD [.int (M : Int)] = some (intsD 0 M) := by
        show (if (M : Int).natAbs ≤ 4611686018427387903 then some (intsD 0 (M : Int).toNat) else none) = _
        rw [if_pos (by omega)]
        rfl
      rw [r]
      exact e2
    have hstep : (fun x env st => (tgD (fun e env st => ev C 59 e env st) (.name 1) x env st).still.run env fun env st => exL (ex C 59) [.asg (.name 2) (.call id [.var 0, .var 1]), .for_ (.name 3) (.rng [.lit (.int M)]) bd] env st) (.int s) (some (.rol (ns.map D.int)) :: o1 :: o2 :: o3 :: rest) st
        = .next (some (.rol (ns.map D.int)) :: some (.int s) :: some (.ref st.length) :: o3' :: rest) st2 := by
      simp only [qt_name, Res.still_ok, Res.run_ok, List.set_cons_succ, List.set_cons_zero, xL_cons, xL_nil, x_asg, q_call, qL_cons, qL_nil, q_var, q_atS, q_at0, Res.of_some, Res.bind_ok, call, SR.then_next, inner]
    show forL _ (.int s :: intsD (s + 1) m) _ _ = _
    rw [forL_next hstep]
    exact e3
/-- what the law's def looks like -/
structure LawC (T : Tab) (il id N M n : Nat) (bd rest : List S) (lams : List E) : Prop where
  ex : ∃ F, T.fns[il]? = some F ∧ F.ps.length = 1 ∧ F.names.length = n ∧ F.lams = lams ∧ F.body = .for_ (.name 1) (.rng [.blt .max [.lit (.int 1), .blt .min [.lit (.int N), .blt .len [.var 0]]]]) [.asg (.name 2) (.call id [.var 0, .var 1]),
    .for_ (.name 3) (.rng [.lit (.int M)]) bd] :: rest
theorem law_allB {T : Tab} {il id N M n q k : Nat} {bd rest : List S} {lams : List E} (P : TabP T) (L : LawC T il id N M n bd rest lams) (hD : IsB T id bDice 2 5) (hR : TurnsB T k q lams n bd) (hk : 1 ≤ k) (hn : 4 ≤ n) (hq : q * M ≤ 500000) (hM : M ≤ 1000) (hN : N ≤ 900) (h1 : 1 ≤ N) (he : endB T k n rest lams = true)
    (ns : List Int) : ∃ st, callF T (k + 1) [] il [.rol (ns.map D.int)] [] = .ok (.bl true) st := by
  obtain ⟨F, f1, f2, f3, f4, f5⟩ := L.ex
  rw [run_l f1 (by rw [f2]; rfl), f3, f4, f5]
  obtain ⟨m, hm⟩ : ∃ m, n = m + 4 := ⟨n - 4, by omega⟩
  have e0 : ([D.rol (ns.map D.int)].map some ++ List.replicate (n - [D.rol (ns.map D.int)].length) none : Env) = some (.rol (ns.map D.int)) :: none :: none :: none :: List.replicate m none := by
    subst hm
    rfl
  rw [e0]
  obtain ⟨c, hc, c0, c1⟩ : ∃ c : Int, c = (if (if (ns.length : Int) < N then (ns.length : Int) else N) > 1 then (if (ns.length : Int) < N then (ns.length : Int) else N) else 1) ∧ 0 ≤ c ∧ c ≤ 900 := ⟨_, rfl, by split <;> split <;> omega, by split <;> split <;> omega⟩
  obtain ⟨o1, o2, o3, st, hfor, hb⟩ := spotsB_ok hR hD hk hq hM _ rfl (ns := ns) (List.replicate m none) (by simp [hm]) c.toNat 0 none none none [] (by omega) (by omega) base_nil
  have rng : itD (fun e st => ev (cfOf T k [] lams (callF T k) (cloF T k)) 59 e (some (.rol (ns.map D.int)) :: none :: none :: none :: List.replicate m none) st) (.rng [.blt .max [.lit (.int 1), .blt .min [.lit (.int N), .blt .len [.var 0]]]]) [] = .ok (intsD 0 c.toNat) [] := by
    rw [q_rng]
    have mx : ∀ i j : Int, maxD [.int i, .int j] [] = some (.int (if j > i then j else i)) := fun _ _ => rfl
    have mn : ∀ i j : Int, bltD .min [.int i, .int j] [] = some (.int (if j < i then j else i)) := fun _ _ => rfl
    simp only [qL_cons, qL_nil, q_blt, q_int, q_var, q_at0, Res.of_some, Res.bind_ok, bq_len, lq_rol, List.length_map, mn, bq_max, mx]
    rw [← hc]
    have r : rngD [.int c] = some (intsD 0 c.toNat) := by
      show (if c.natAbs ≤ 4611686018427387903 then some (intsD 0 c.toNat) else none) = _
      rw [if_pos (by omega)]
    rw [r]
    rfl
  have first : ex (cfOf T k [] lams (callF T k) (cloF T k)) 60 (.for_ (.name 1) (.rng [.blt .max [.lit (.int 1), .blt .min [.lit (.int N), .blt .len [.var 0]]]]) [.asg (.name 2) (.call id [.var 0, .var 1]),
      .for_ (.name 3) (.rng [.lit (.int M)]) bd]) (some (.rol (ns.map D.int)) :: none :: none :: none :: List.replicate m none) [] = .next (some (.rol (ns.map D.int)) :: o1 :: o2 :: o3 :: List.replicate m none) st := by
    rw [x_for, rng, Res.run_ok]
    exact hfor
  rw [q_deep, xL_cons, first, SR.then_next]
  have lift := lift_exL P hb (k := k) (fr := []) (fr' := []) (lams := lams) frR_nil (m := 60) (ss := rest) (e := List.replicate n none) (b := some (.rol (ns.map D.int)) :: o1 :: o2 :: o3 :: List.replicate m none) (by simp [hm]) fun i d h => by
    rw [List.getElem?_replicate] at h
    split at h
    · cases h
    · cases h
  unfold endB at he
  rw [q_deep] at he
  split at he
  · rename_i st1 e1
    rw [e1] at lift
    have lift : exL (ex (cfOf T k [] lams (callF T k) (cloF T k)) 60) rest (some (.rol (ns.map D.int)) :: o1 :: o2 :: o3 :: List.replicate m none) st = .ret (.bl true) (shS st st1) := lift
    rw [lift]
    have ok : okC (lmF [] lams) (.bl true) (shS st st1) = true := by
      unfold lmF
      split
      · rfl
      · show (true && _) = true
        rw [Bool.true_and, shS_lowC hb]
        exact he
    show ∃ st2, (if okC (lmF [] lams) (.bl true) (shS st st1) then trim 0 (.bl true) (shS st st1) else .stuck) = _
    rw [if_pos ok]
    unfold trim
    split
    · exact ⟨_, rfl⟩
    · exact ⟨_, rfl⟩
  · cases he
end Mu

end
section
set_option linter.all false
set_option Elab.async false
/-! More of the interpreter's equations, one a form, to be rewritten with. -/
namespace Mu
open PySem
section
variable {C : Cf} {n : Nat} {env : Env} {st : Sto}
theorem z_lit (d : D) (h : d.low 0 = true) : ev C (n + 1) (.lit d) env st = .ok d st := by
  show (if d.low 0 then Res.ok d st else .stuck) = _
  rw [if_pos h]
@[simp] theorem z_str (x : Str) : ev C (n + 1) (.lit (.str x)) env st = .ok (.str x) st := rfl
@[simp] theorem z_non : ev C (n + 1) (.lit .non) env st = .ok .non st := rfl
@[simp] theorem z_con (x : Nat) : ev C (n + 1) (.con x) env st = .of ((C.T.con[x]?).map (·.2)) st := rfl
@[simp] theorem z_bty (t : Ty) : ev C (n + 1) (.bty t) env st = .ok (.ty t) st := rfl
def negQ : D → Sto → Res D
  | .int i, st => .ok (.int (-i)) st
  | _, _ => .stuck
@[simp] theorem negQ_int (i : Int) : negQ (.int i) st = .ok (.int (-i)) st := rfl
@[simp] theorem z_neg (a : E) : ev C (n + 1) (.neg a) env st = (ev C n a env st).bind negQ := by
  show (ev C n a env st).bind _ = _
  congr 1
  all_goals (funext x s; cases x <;> rfl)
@[simp] theorem z_cmp2 (o p : CmpOp) (a b c : E) : ev C (n + 1) (.cmp2 o p a b c) env st = (ev C n a env st).bind fun x st => (ev C n b env st).bind fun y st => match cmpD o x y with
      | some true => (ev C n c env st).bind fun z st => .of ((cmpD p y z).map .bl) st
      | some false => .ok (.bl false) st
      | none => .stuck := rfl
@[simp] theorem z_not (a : E) : ev C (n + 1) (.not a) env st = (ev C n a env st).bind fun x st => .of ((truth st x).map fun c => .bl (!c)) st := rfl
@[simp] theorem z_and (a b : E) : ev C (n + 1) (.and a b) env st = (ev C n a env st).bind fun x st => match truth st x with
      | some true => ev C n b env st
      | some false => .ok x st
      | none => .stuck := rfl
@[simp] theorem z_or (a b : E) : ev C (n + 1) (.or a b) env st = (ev C n a env st).bind fun x st => match truth st x with
      | some true => .ok x st
      | some false => ev C n b env st
      | none => .stuck := rfl
@[simp] theorem z_lst (es : List E) : ev C (n + 1) (.lst es) env st = (evL (fun e st => ev C n e env st) es st).bind fun ds st => if ds.length ≤ sizeLine then .ok (.lst ds) st else .stuck := rfl
def slcQ (x : D) (l h : Option Int) (st : Sto) : Res D := match x with
  | .tup xs => .ok (.tup (cutD xs l h)) st
  | .lst xs => .ok (.lst (cutD xs l h)) st
  | _ => .stuck
@[simp] theorem slcQ_tup (xs : List D) (l h : Option Int) : slcQ (.tup xs) l h st = .ok (.tup (cutD xs l h)) st := rfl
@[simp] theorem slcQ_lst (xs : List D) (l h : Option Int) : slcQ (.lst xs) l h st = .ok (.lst (cutD xs l h)) st := rfl
@[simp] theorem z_slc (a : E) (lo hi : Option E) : ev C (n + 1) (.slc a lo hi) env st = (ev C n a env st).bind fun x st => (evO (fun e st => ev C n e env st) lo st).bind fun l st => (evO (fun e st => ev C n e env st) hi st).bind fun h st => slcQ x l h st := by
  show (ev C n a env st).bind _ = _
  congr 1
  all_goals (funext x s; cases x <;> rfl)
@[simp] theorem z_comp (r : Bool) (el : E) (tg : Tg) (it : Iz) (c : Option E) (own : List (Str × Nat)) : ev C (n + 1) (.comp r el tg it c own) env st =
    compR (fun env st => itD (fun e st => ev C n e env st) it st) (fun e0 x env st => tgD (fun e env st => ev (C.blk e0) n e env st) tg x env st) (fun e0 => condT (fun c env st => evT (C.blk e0) n c env st) c) (fun e0 env st => ev (C.blk e0) n el env st) (own.map (·.2)) r env st := rfl
/-! tests -/
@[simp] theorem zT_and (a b : E) : evT C (n + 1) (.and a b) env st = (evT C n a env st).bind fun c st => if c then evT C n b env st else .ok false st := rfl
@[simp] theorem zT_or (a b : E) : evT C (n + 1) (.or a b) env st = (evT C n a env st).bind fun c st => if c then .ok true st else evT C n b env st := rfl
@[simp] theorem zT_cmp2 (o p : CmpOp) (a b c : E) : evT C (n + 1) (.cmp2 o p a b c) env st = asBool (ev C n (.cmp2 o p a b c) env st) := rfl
@[simp] theorem zT_var (i : Nat) : evT C (n + 1) (.var i) env st = (ev C n (.var i) env st).bind fun d st => .of (truth st d) st := rfl
@[simp] theorem zT_lit (d : D) : evT C (n + 1) (.lit d) env st = (ev C n (.lit d) env st).bind fun d st => .of (truth st d) st := rfl
@[simp] theorem zT_con (x : Nat) : evT C (n + 1) (.con x) env st = (ev C n (.con x) env st).bind fun d st => .of (truth st d) st := rfl
@[simp] theorem zT_bin (o : Operator) (a b : E) : evT C (n + 1) (.bin o a b) env st = (ev C n (.bin o a b) env st).bind fun d st => .of (truth st d) st := rfl
@[simp] theorem zT_blt (f : Blt) (es : List E) : evT C (n + 1) (.blt f es) env st = (ev C n (.blt f es) env st).bind fun d st => .of (truth st d) st := rfl
@[simp] theorem zT_idx (a i : E) : evT C (n + 1) (.idx a i) env st = (ev C n (.idx a i) env st).bind fun d st => .of (truth st d) st := rfl
/-! lists -/
@[simp] theorem zO_none (f : E → Sto → Res D) : evO f none st = .ok none st := rfl
def intQ : D → Sto → Res (Option Int)
  | .int i, st => .ok (some i) st
  | _, _ => .stuck
@[simp] theorem intQ_int (i : Int) : intQ (.int i) st = .ok (some i) st := rfl
@[simp] theorem zO_some (f : E → Sto → Res D) (e : E) : evO f (some e) st = (f e st).bind intQ := by
  show (f e st).bind _ = _
  congr 1
  all_goals (funext x s; cases x <;> rfl)
/-! what is walked -/
def seqQ (d : D) (st : Sto) : Res (List D) := match d with
  | .tup xs => .ok xs st
  | .lst xs => .ok xs st
  | .rol xs => .ok xs st
  | .str x => .ok (signsD x) st
  | _ => .stuck
@[simp] theorem seqQ_tup (xs : List D) : seqQ (.tup xs) st = .ok xs st := rfl
@[simp] theorem seqQ_lst (xs : List D) : seqQ (.lst xs) st = .ok xs st := rfl
@[simp] theorem zi_seq (f : E → Sto → Res D) (e : E) : itD f (.seq e) st = (f e st).bind seqQ := by
  show (f e st).bind _ = _
  congr 1
  all_goals (funext x s; cases x <;> rfl)
@[simp] theorem zi_rng (f : E → Sto → Res D) (es : List E) : itD f (.rng es) st = (evL f es st).bind fun ds st => .of (rngD ds) st := q_rng f es
def zipQ (x y : D) (st : Sto) : Res (List D) := match x, y with
  | .tup xs, .tup ys => .ok (pairs xs ys) st
  | .lst xs, .lst ys => .ok (pairs xs ys) st
  | .lst xs, .tup ys => .ok (pairs xs ys) st
  | .tup xs, .lst ys => .ok (pairs xs ys) st
  | _, _ => .stuck
@[simp] theorem zipQ_tt (xs ys : List D) : zipQ (.tup xs) (.tup ys) st = .ok (pairs xs ys) st := rfl
@[simp] theorem zipQ_lt (xs ys : List D) : zipQ (.lst xs) (.tup ys) st = .ok (pairs xs ys) st := rfl
@[simp] theorem zipQ_tl (xs ys : List D) : zipQ (.tup xs) (.lst ys) st = .ok (pairs xs ys) st := rfl
@[simp] theorem zi_zip (f : E → Sto → Res D) (a b : E) : itD f (.zip a b) st = (f a st).bind fun x st => (f b st).bind fun y st => zipQ x y st := rfl
/-! statements -/
@[simp] theorem x_expr (e : E) : ex C (n + 1) (.expr e) env st = (ev C n e env st).run env fun _ st => .next env st := rfl
@[simp] theorem x_par (is : List Nat) (es : List E) : ex C (n + 1) (.par is es) env st = (evL (fun e st => ev C n e env st) es st).run env fun ds st => .next (setAll is ds env) st := rfl
@[simp] theorem x_retN : ex C (n + 1) .retN env st = .ret .non st := rfl
@[simp] theorem x_whl (t : E) (b : List S) : ex C (n + 1) (.whl t b) env st = whlN (evT C n t) (exL (ex C n) b) wmax env st := rfl
@[simp] theorem z_setN (ds : List D) : setAll [] ds env = env := by cases ds <;> rfl
@[simp] theorem z_setC (i : Nat) (is : List Nat) (d : D) (ds : List D) : setAll (i :: is) (d :: ds) env = setAll is ds (env.set i (some d)) := rfl
def loopQ (k : Env → Sto → SR) : SR → SR
  | .next env st => k env st
  | .cont env st => k env st
  | .brk env st => .next env st
  | r => r
@[simp] theorem loopQ_next (k : Env → Sto → SR) : loopQ k (.next env st) = k env st := rfl
@[simp] theorem loopQ_cont (k : Env → Sto → SR) : loopQ k (.cont env st) = k env st := rfl
@[simp] theorem loopQ_ret (k : Env → Sto → SR) (d : D) : loopQ k (.ret d st) = .ret d st := rfl
theorem z_forC (f : D → Env → Sto → SR) (x : D) (xs : List D) : forL f (x :: xs) env st = loopQ (forL f xs) (f x env st) := by
  show (match f x env st with
    | .next env st => forL f xs env st
    | .cont env st => forL f xs env st
    | .brk env st => .next env st
    | r => r) = _
  cases f x env st <;> rfl
theorem z_whl (t : Env → Sto → Res Bool) (b : Env → Sto → SR) (m : Nat) : whlN t b (m + 1) env st = (t env st).run env fun c st => if c then loopQ (whlN t b m) (b env st) else .next env st := by
  show ((t env st).run env fun c st => if c then match b env st with
    | .next env st => whlN t b m env st
    | .cont env st => whlN t b m env st
    | .brk env st => .next env st
    | r => r
    else .next env st) = _
  congr 1
  all_goals
    funext c s
    cases c
    · rfl
    · simp only [if_true]
      cases b env s <;> rfl
end
/-! data -/
section
variable {st : Sto} {k : Nat} {xs : List D}
@[simp] theorem see_tup (ys : List D) : Sto.see st (.tup ys) = .tup ys := rfl
@[simp] theorem see_lst (ys : List D) : Sto.see st (.lst ys) = .lst ys := rfl
@[simp] theorem see_str (x : Str) : Sto.see st (.str x) = .str x := rfl
@[simp] theorem see_bl (b : Bool) : Sto.see st (.bl b) = .bl b := rfl
@[simp] theorem see_non : Sto.see st .non = .non := rfl
@[simp] theorem c_le (i j : Int) : cmpD .LtE (.int i) (.int j) = some (decide (i ≤ j)) := rfl
@[simp] theorem c_ge (i j : Int) : cmpD .GtE (.int i) (.int j) = some (decide (j ≤ i)) := rfl
theorem dataOk_int (i : Int) : dataOk (.int i) = true := by
  unfold dataOk SeqAt.shaped
  simp [D.plain, D.py, PyData.canLay0, PyData.depth]
theorem e_int (i j : Int) : eqD (.int i) (.int j) = some (decide (i = j)) := by
  show (if dataOk (.int i) && dataOk (.int j) then some (PyData.eqv (D.py (.int i)) (D.py (.int j))) else none) = _
  rw [dataOk_int, dataOk_int]
  simp [D.py, PyData.eqv]
  rfl
@[simp] theorem c_eq (i j : Int) : cmpD .Eq (.int i) (.int j) = some (decide (i = j)) := e_int i j
@[simp] theorem c_ne (i j : Int) : cmpD .NotEq (.int i) (.int j) = some (!decide (i = j)) := by
  show (eqD (.int i) (.int j)).map (fun b => !b) = _
  rw [e_int]
  rfl
@[simp] theorem c_eqS (i j : Str) : cmpD .Eq (.str i) (.str j) = some (decide (i = j)) := rfl
@[simp] theorem c_neS (i j : Str) : cmpD .NotEq (.str i) (.str j) = some (!decide (i = j)) := rfl
@[simp] theorem tr_int (i : Int) : truth st (.int i) = some (i != 0) := rfl
@[simp] theorem tr_non : truth st .non = some false := rfl
@[simp] theorem bq_tuple : bltD .tuple xs st = tupleD xs st := rfl
@[simp] theorem bq_list : bltD .list xs st = listD xs st := rfl
@[simp] theorem bq_all : bltD .all xs st = allD xs st := rfl
@[simp] theorem bq_isi : bltD .isinstance xs st = isiD xs st := rfl
@[simp] theorem bq_repr : bltD .repr xs st = reprL xs st := rfl
@[simp] theorem lq_tup (ys : List D) : lenD [.tup ys] st = some (.int ys.length) := rfl
@[simp] theorem iq_int_int (i : Int) : isiD [.int i, .ty .int] st = some (.bl true) := rfl
@[simp] theorem iq_int_bool (i : Int) : isiD [.int i, .ty .bool] st = some (.bl false) := rfl
@[simp] theorem iq_tup (ys : List D) : isiD [.tup ys, .ty .tuple] st = some (.bl true) := rfl
@[simp] theorem iq_idx0 (x : D) (ys : List D) : idxD st (.tup (x :: ys)) (.int 0) = some x := rfl
@[simp] theorem iq_idx1 (x y : D) (ys : List D) : idxD st (.tup (x :: y :: ys)) (.int 1) = some y := rfl
@[simp] theorem tq_lst (ys : List D) : tupleD [.lst ys] st = some (.tup ys) := rfl
@[simp] theorem tq_tup (ys : List D) : tupleD [.tup ys] st = some (.tup ys) := rfl
@[simp] theorem sizeQ : sizeLine = 16777216 := rfl
end
theorem succ_of {k j : Nat} (h : j + 1 ≤ k) : ∃ i, k = i + 1 ∧ j ≤ i := ⟨k - 1, by omega, by omega⟩
theorem finish_next {n : Nat} {st : Sto} {env : Env} (h : st.length = n) : finish none n (.next env st) = .ok .non st := finish_same h .non
@[simp] theorem fin_ret {st : Sto} (d : D) : finish none st.length (.ret d st) = .ok d st := finish_same rfl d
@[simp] theorem fin_next {st : Sto} {env : Env} : finish none st.length (.next env st) = .ok .non st := finish_same rfl .non
/-- the calls of a run -/
@[simp] theorem cf_call {T : Tab} {k : Nat} {fr : List Frm} {lams : List E} {cl : List Frm → Nat → List D → Sto → Res D} {cc : List Frm → Nat → Nat → List D → Sto → Res D} {env : Env} {x : Nat} {ds : List D} {st : Sto} : (cfOf T k fr lams cl cc).call env x ds st = cl (pushF fr lams env) x ds st := rfl
@[simp] theorem cf_k {T : Tab} {k : Nat} {fr : List Frm} {lams : List E} {cl : List Frm → Nat → List D → Sto → Res D} {cc : List Frm → Nat → Nat → List D → Sto → Res D} : (cfOf T k fr lams cl cc).k = k := rfl
@[simp] theorem cf_T {T : Tab} {k : Nat} {fr : List Frm} {lams : List E} {cl : List Frm → Nat → List D → Sto → Res D} {cc : List Frm → Nat → Nat → List D → Sto → Res D} : (cfOf T k fr lams cl cc).T = T := rfl
@[simp] theorem push_nil {fr : List Frm} {env : Env} : pushF fr [] env = fr := rfl
@[simp] theorem blk_call {C : Cf} {e env : Env} {x : Nat} {ds : List D} {st : Sto} : (C.blk e).call env x ds st = C.call e x ds st := rfl
@[simp] theorem blk_T {C : Cf} {e : Env} : (C.blk e).T = C.T := rfl
@[simp] theorem blk_k {C : Cf} {e : Env} : (C.blk e).k = C.k := rfl
end Mu

end
section
set_option linter.all false
set_option Elab.async false
/-! A drawn item, as an expression. -/
namespace Mu
open PySem
section
variable {T : Tab} {st : Sto} {k ir ip j B m : Nat} {fr : List Frm} {lams : List E} {env : Env} {e : E} {xs : List D}
theorem pick_ev (hR : IsB T ir bRoll 2 5) (hP : IsB T ip (bPick ir) 2 2) (hx : 0 < xs.length) (hk : 42 ≤ k) (hd : Dice j B st) (hB : B ≤ 1000000) (h0 : env.at 0 = some (.ref j))
    (he : ev (cfOf T k fr lams (callF T k) (cloF T k)) (m + 1) e env st = .ok (.lst xs) st) : ∃ v ∈ xs, ∃ a b c : Int,
      ev (cfOf T k fr lams (callF T k) (cloF T k)) (m + 2) (.call ip [.var 0, e]) env st = .ok v (st.set j (.lst [.int a, .int b, .int c])) ∧ Dice j (B + 1) (st.set j (.lst [.int a, .int b, .int c])) := by
  obtain ⟨v, st', o, hv, q, d, rfl⟩ := pick_ok (k := k) (fr := pushF fr lams env) (xs := xs) hR hP hk hd hB hx
  obtain ⟨a, b, c, hs⟩ := set_shape d
  rw [hs] at q d
  refine ⟨xs[v], List.getElem_mem hv, a, b, c, ?_, d⟩
  rw [q_call, qL_cons, q_var, h0, Res.of_some, Res.bind_ok, qL_cons, he, Res.bind_ok, qL_nil, Res.bind_ok, Res.bind_ok, Res.bind_ok]
  exact q
end
/-- equal answers for all items of a menu -/
theorem map_mem2 {α β : Type} {f g : α → β} : ∀ {l : List α}, l.map f = l.map g → ∀ x ∈ l, f x = g x
  | [], _, x, m => by cases m
  | y :: l, h, x, m => by
    rw [List.map_cons, List.map_cons] at h
    injection h with h1 h2
    rcases List.mem_cons.mp m with e | m
    · rw [e]; exact h1
    · exact map_mem2 h2 x m
end Mu

end
section
set_option linter.all false
set_option Elab.async false
/-! Equality of data, told by computing. -/
namespace Mu
open PySem
mutual
def D.beq : D → D → Bool
  | .non, .non => true
  | .bl a, .bl b => a == b
  | .int i, .int j => decide (i = j)
  | .str a, .str b => decide (a = b)
  | .ty a, .ty b => decide (a = b)
  | .fn i, .fn j => Nat.beq i j
  | .cls i, .cls j => Nat.beq i j
  | .ref i, .ref j => Nat.beq i j
  | .clo d i, .clo e j => Nat.beq d e && Nat.beq i j
  | .tup xs, .tup ys => D.beqs xs ys
  | .lst xs, .lst ys => D.beqs xs ys
  | .rol xs, .rol ys => D.beqs xs ys
  | .dic ks xs, .dic ls ys => decide (ks = ls) && D.beqs xs ys
  | .obj c ks xs, .obj e ls ys => Nat.beq c e && decide (ks = ls) && D.beqs xs ys
  | _, _ => false
def D.beqs : List D → List D → Bool
  | [], [] => true
  | x :: xs, y :: ys => D.beq x y && D.beqs xs ys
  | _, _ => false
end
mutual
theorem D.beq_eq : ∀ {a b : D}, D.beq a b = true → a = b := by
  intro a b h
  cases a <;> cases b <;> (try (first | rfl | (simp only [D.beq, Bool.false_eq_true] at h; done)))
  case bl.bl a b => simp only [D.beq, beq_iff_eq] at h; rw [h]
  case int.int i j => simp only [D.beq, decide_eq_true_eq] at h; rw [h]
  case str.str i j => simp only [D.beq, decide_eq_true_eq] at h; rw [h]
  case ty.ty i j => simp only [D.beq, decide_eq_true_eq] at h; rw [h]
  case fn.fn i j => simp only [D.beq] at h; rw [Nat.eq_of_beq_eq_true h]
  case cls.cls i j => simp only [D.beq] at h; rw [Nat.eq_of_beq_eq_true h]
  case ref.ref i j => simp only [D.beq] at h; rw [Nat.eq_of_beq_eq_true h]
  case clo.clo d i e j => simp only [D.beq, Bool.and_eq_true] at h; rw [Nat.eq_of_beq_eq_true h.1, Nat.eq_of_beq_eq_true h.2]
  case tup.tup xs ys => simp only [D.beq] at h; rw [D.beqs_eq h]
  case lst.lst xs ys => simp only [D.beq] at h; rw [D.beqs_eq h]
  case rol.rol xs ys => simp only [D.beq] at h; rw [D.beqs_eq h]
  case dic.dic ks xs ls ys => simp only [D.beq, Bool.and_eq_true, decide_eq_true_eq] at h; rw [h.1, D.beqs_eq h.2]
  case obj.obj c ks xs e ls ys => simp only [D.beq, Bool.and_eq_true, decide_eq_true_eq] at h; rw [Nat.eq_of_beq_eq_true h.1.1, h.1.2, D.beqs_eq h.2]
theorem D.beqs_eq : ∀ {xs ys : List D}, D.beqs xs ys = true → xs = ys
  | [], [], _ => rfl
  | x :: xs, y :: ys, h => by
    simp only [D.beqs, Bool.and_eq_true] at h
    rw [D.beq_eq h.1, D.beqs_eq h.2]
  | [], _ :: _, h => by cases h
  | _ :: _, [], h => by cases h
end
def O.beq : O → O → Bool
  | .lst xs, .lst ys => D.beqs xs ys
  | .dic ks xs, .dic ls ys => decide (ks = ls) && D.beqs xs ys
  | .ins c ks xs, .ins e ls ys => Nat.beq c e && decide (ks = ls) && D.beqs xs ys
  | .gone, .gone => true
  | _, _ => false
theorem O.beq_eq {a b : O} (h : O.beq a b = true) : a = b := by
  cases a <;> cases b <;> (try (first | rfl | (simp only [O.beq, Bool.false_eq_true] at h; done)))
  case lst.lst xs ys => simp only [O.beq] at h; rw [D.beqs_eq h]
  case dic.dic ks xs ls ys => simp only [O.beq, Bool.and_eq_true, decide_eq_true_eq] at h; rw [h.1, D.beqs_eq h.2]
  case ins.ins c ks xs e ls ys => simp only [O.beq, Bool.and_eq_true, decide_eq_true_eq] at h; rw [Nat.eq_of_beq_eq_true h.1.1, h.1.2, D.beqs_eq h.2]
def stoB : Sto → Sto → Bool
  | [], [] => true
  | x :: xs, y :: ys => O.beq x y && stoB xs ys
  | _, _ => false
theorem stoB_eq : ∀ {a b : Sto}, stoB a b = true → a = b
  | [], [], _ => rfl
  | x :: xs, y :: ys, h => by
    simp only [stoB, Bool.and_eq_true] at h
    rw [O.beq_eq h.1, stoB_eq h.2]
  | [], _ :: _, h => by cases h
  | _ :: _, [], h => by cases h
def envB : Env → Env → Bool
  | [], [] => true
  | none :: xs, none :: ys => envB xs ys
  | some x :: xs, some y :: ys => D.beq x y && envB xs ys
  | _, _ => false
theorem envB_eq : ∀ {a b : Env}, envB a b = true → a = b
  | [], [], _ => rfl
  | none :: xs, none :: ys, h => by
    simp only [envB] at h
    rw [envB_eq h]
  | some x :: xs, some y :: ys, h => by
    simp only [envB, Bool.and_eq_true] at h
    rw [D.beq_eq h.1, envB_eq h.2]
  | [], _ :: _, h => by cases h
  | none :: _, [], h => by cases h
  | some _ :: _, [], h => by cases h
  | none :: _, some _ :: _, h => by cases h
  | some _ :: _, none :: _, h => by cases h
/-- told by computing: it goes on so -/
def nextB (r : SR) (env : Env) (st : Sto) : Bool := match r with
  | .next e s => envB e env && stoB s st
  | _ => false
theorem nextB_eq {r : SR} {env : Env} {st : Sto} (h : nextB r env st = true) : r = .next env st := by
  unfold nextB at h
  split at h
  · rw [Bool.and_eq_true] at h
    rw [envB_eq h.1, stoB_eq h.2]
  · cases h
def retB (r : SR) (d : D) (st : Sto) : Bool := match r with
  | .ret e s => D.beq e d && stoB s st
  | _ => false
theorem retB_eq {r : SR} {d : D} {st : Sto} (h : retB r d st = true) : r = .ret d st := by
  unfold retB at h
  split at h
  · rw [Bool.and_eq_true] at h
    rw [D.beq_eq h.1, stoB_eq h.2]
  · cases h
def okB (r : Res D) (d : D) (st : Sto) : Bool := match r with
  | .ok e s => D.beq e d && stoB s st
  | _ => false
theorem okB_eq {r : Res D} {d : D} {st : Sto} (h : okB r d st = true) : r = .ok d st := by
  unfold okB at h
  split at h
  · rw [Bool.and_eq_true] at h
    rw [D.beq_eq h.1, stoB_eq h.2]
  · cases h
end Mu

end
section
set_option linter.all false
set_option Elab.async false
/-! Data that is told apart. -/
namespace Mu
open PySem
/-- laid within a depth -/
structure Lay (d : D) (n : Nat) : Prop where
  plain : d.plain = true
  lay : d.py.canLay0 = true
  depth : d.py.depth ≤ n
theorem lay_all {n : Nat} : ∀ {ds : List D}, (∀ d ∈ ds, Lay d n) → D.plains ds = true ∧ PyData.canLayAll0 (D.pys ds) = true ∧ PyData.depthAll (D.pys ds) ≤ n
  | [], _ => ⟨rfl, rfl, by simp [D.pys, PyData.depthAll]⟩
  | d :: ds, h => by
    obtain ⟨h1, h2, h3⟩ := h d List.mem_cons_self
    obtain ⟨r1, r2, r3⟩ := lay_all fun x hx => h x (List.mem_cons_of_mem _ hx)
    refine ⟨by simp [D.plains, h1, r1], by simp [D.pys, PyData.canLayAll0, h2, r2], ?_⟩
    simp only [D.pys, PyData.depthAll]
    omega
theorem lay_tup {n : Nat} {ds : List D} (h : ∀ d ∈ ds, Lay d n) : Lay (.tup ds) (n + 1) := by
  obtain ⟨r1, r2, r3⟩ := lay_all h
  refine ⟨by simpa [D.plain] using r1, by simpa [D.py, PyData.canLay0] using r2, ?_⟩
  simp only [D.py, PyData.depth]
  omega
theorem lay_lst {n : Nat} {ds : List D} (h : ∀ d ∈ ds, Lay d n) : Lay (.lst ds) (n + 1) := by
  obtain ⟨r1, r2, r3⟩ := lay_all h
  refine ⟨by simpa [D.plain] using r1, by simpa [D.py, PyData.canLay0] using r2, ?_⟩
  simp only [D.py, PyData.depth]
  omega
theorem lay_int (i : Int) : Lay (.int i) 1 := ⟨rfl, rfl, by simp [D.py, PyData.depth]⟩
theorem Lay.ok {d : D} {n : Nat} (h : Lay d n) (hn : n ≤ 64) : dataOk d = true := by
  unfold dataOk SeqAt.shaped
  rw [h.plain, h.lay, Bool.true_and, Bool.true_and, decide_eq_true_eq]
  exact Nat.le_trans h.depth hn
theorem eq_self {d : D} (h : dataOk d = true) : eqD d d = some true := by
  have e : (if dataOk d && dataOk d then some (PyData.eqv d.py d.py) else none) = some true := by
    rw [h]
    have l : d.py.canLay0 = true := by
      unfold dataOk SeqAt.shaped at h
      simp only [Bool.and_eq_true] at h
      exact h.2.1
    show some (PyData.eqv d.py d.py) = _
    rw [PySem.SeqAt.eqv_refl _ l]
  unfold eqD
  split
  · simp
  · exact e
end Mu

end
section
set_option linter.all false
set_option Elab.async false
/-! What the text's arithmetic answers: rationals in lowest terms. -/
namespace Mu
open PySem
theorem half_mod {y r n : Nat} (h0 : 0 < r) (h1 : r < y) (h : y < 2 ^ (n + 1)) : y % r < 2 ^ n := by
  have a := Nat.mod_lt y h0
  have b : y % r = (y - r) % r := Nat.mod_eq_sub_mod (Nat.le_of_lt h1)
  have c := Nat.mod_le (y - r) r
  rw [Nat.pow_succ] at h
  omega
theorem gcd_loop {t : Env → Sto → Res Bool} {b : Env → Sto → SR} {st : Sto} (E : Int → Int → Env) (ht : ∀ x y, t (E x y) st = .ok (decide (0 < y)) st) (hb : ∀ x y, y ≠ 0 → b (E x y) st = .next (E y (x.fmod y)) st) :
    ∀ (n x y m : Nat), y < 2 ^ n → 2 * n + 1 ≤ m → whlN t b m (E x y) st = .next (E (Nat.gcd x y) 0) st := by
  have stop : ∀ (x m : Nat), 1 ≤ m → whlN t b m (E x (0 : Nat)) st = .next (E (Nat.gcd x 0) 0) st := by
    intro x m hm
    obtain ⟨m, rfl, _⟩ := succ_of hm
    rw [z_whl, ht]
    simp
  have step : ∀ (x y m : Nat), 0 < y → whlN t b (m + 1) (E x y) st = whlN t b m (E y ((x % y : Nat) : Int)) st := by
    intro x y m hy
    rw [z_whl, ht]
    have h1 : decide ((0 : Int) < (y : Int)) = true := by simpa using hy
    rw [h1, Res.run_ok, if_pos rfl, hb _ _ (by omega), loopQ_next, Int.natCast_emod, Int.fmod_eq_emod_of_nonneg _ (by omega)]
  intro n
  induction n with
  | zero =>
    intro x y m hy hm
    obtain rfl : y = 0 := by simpa using hy
    exact stop x m (by omega)
  | succ n ih =>
    intro x y m hy hm
    by_cases h0 : y = 0
    · subst h0
      exact stop x m (by omega)
    obtain ⟨m, rfl, hm2⟩ := succ_of (k := m) (j := 2 * n + 2) (by omega)
    clear hm
    rw [step x y m (by omega)]
    have g1 : Nat.gcd x y = Nat.gcd y (x % y) := by rw [Nat.gcd_comm x y, Nat.gcd_rec y x, Nat.gcd_comm]
    by_cases h1 : x % y = 0
    · rw [h1, stop y m (by omega), g1, h1]
    obtain ⟨m, rfl, hm3⟩ := succ_of (k := m) (j := 2 * n + 1) (by omega)
    rw [step y (x % y) m (by omega), ih _ _ m (half_mod (by omega) (Nat.mod_lt _ (by omega)) hy) hm3]
    have g2 : Nat.gcd y (x % y) = Nat.gcd (x % y) (y % (x % y)) := by rw [Nat.gcd_comm y (x % y), Nat.gcd_rec (x % y) y, Nat.gcd_comm]
    rw [g1, g2]


def frD (q : Rat) : D := .tup [.int q.num, .int q.den]
/-- small enough for every step -/
def sz (q : Rat) (n : Nat) : Prop := q.num.natAbs < 2 ^ n ∧ q.den < 2 ^ n
/-! ### rationals -/
theorem add_div (a b : Rat) : a + b = Rat.divInt (a.num * b.den + b.num * a.den) (a.den * b.den) := by
  rw [Rat.add_def', ← Rat.divInt_ofNat, Int.natCast_mul]
theorem mul_div (a b : Rat) : a * b = Rat.divInt (a.num * b.num) (a.den * b.den) := by
  rw [Rat.mul_def', ← Rat.divInt_ofNat, Int.natCast_mul]
theorem div_div (a b : Rat) : a / b = Rat.divInt (a.num * b.den) (a.den * b.num) := by
  rw [Rat.div_def, Rat.inv_def]
  conv => lhs; lhs; rw [← Rat.num_divInt_den a]
  rw [Rat.divInt_mul_divInt]
theorem divInt_one (a : Int) : frD (Rat.divInt a 1) = .tup [.int a, .int 1] := by
  unfold frD
  rw [Rat.num_divInt, Rat.den_divInt]
  simp
theorem abs_mul {a b : Int} {p q : Nat} (h1 : a.natAbs < 2 ^ p) (h2 : b.natAbs < 2 ^ q) : (a * b).natAbs < 2 ^ (p + q) := by
  rw [Int.natAbs_mul, Nat.pow_add]
  exact Nat.mul_lt_mul'' h1 h2
theorem abs_add {a b : Int} {p : Nat} (h1 : a.natAbs < 2 ^ p) (h2 : b.natAbs < 2 ^ p) : (a + b).natAbs < 2 ^ (p + 1) := by
  rw [Nat.pow_succ]
  omega
theorem sz_divInt {t b : Int} {n : Nat} (ht : t.natAbs < 2 ^ n) (hb : b.natAbs < 2 ^ n) (h0 : b ≠ 0) : sz (Rat.divInt t b) n := by
  unfold sz
  rw [Rat.num_divInt, Rat.den_divInt, if_neg h0]
  refine ⟨Nat.lt_of_le_of_lt ?_ ht, Nat.lt_of_le_of_lt (Nat.div_le_self _ _) hb⟩
  have e : (b.sign * t).natAbs = t.natAbs := by
    rw [Int.natAbs_mul, Int.natAbs_sign_of_ne_zero h0, Nat.one_mul]
  rw [Int.natAbs_ediv_of_dvd]
  · rw [e]
    exact Nat.div_le_self _ _
  · exact Int.dvd_mul_of_dvd_right (Int.gcd_dvd_right _ _)
theorem sz.mono {q : Rat} {n m : Nat} (h : sz q n) (hm : n ≤ m) : sz q m :=
  ⟨Nat.lt_of_lt_of_le h.1 (Nat.pow_le_pow_right (by decide) hm), Nat.lt_of_lt_of_le h.2 (Nat.pow_le_pow_right (by decide) hm)⟩
theorem den_abs {q : Rat} {n : Nat} (h : q.den < 2 ^ n) : (q.den : Int).natAbs < 2 ^ n := by simpa using h
theorem den_ne (q : Rat) : (q.den : Int) ≠ 0 := by have := q.den_pos; omega
theorem sz_add {a b : Rat} {p q : Nat} (ha : sz a p) (hb : sz b q) : sz (a + b) (p + q + 1) := by
  rw [add_div]
  refine sz_divInt (abs_add (abs_mul ha.1 (den_abs hb.2)) ?_) ?_ (Int.mul_ne_zero (den_ne a) (den_ne b))
  · rw [Nat.add_comm p q]
    exact abs_mul hb.1 (den_abs ha.2)
  · exact Nat.lt_of_lt_of_le (abs_mul (den_abs ha.2) (den_abs hb.2)) (Nat.pow_le_pow_right (by decide) (by omega))
theorem sz_mul {a b : Rat} {p q : Nat} (ha : sz a p) (hb : sz b q) : sz (a * b) (p + q) := by
  rw [mul_div]
  exact sz_divInt (abs_mul ha.1 hb.1) (abs_mul (den_abs ha.2) (den_abs hb.2)) (Int.mul_ne_zero (den_ne a) (den_ne b))
theorem sz_neg {a : Rat} {p : Nat} (ha : sz a p) : sz (-a) p := ⟨by rw [Rat.neg_num, Int.natAbs_neg]; exact ha.1, by rw [Rat.neg_den]; exact ha.2⟩
theorem sz_sub {a b : Rat} {p q : Nat} (ha : sz a p) (hb : sz b q) : sz (a - b) (p + q + 1) := by
  rw [Rat.sub_eq_add_neg]
  exact sz_add ha (sz_neg hb)
theorem num_ne {b : Rat} (h : b ≠ 0) : b.num ≠ 0 := fun e => h (Rat.num_eq_zero.mp e)
theorem sz_div {a b : Rat} {p q : Nat} (ha : sz a p) (hb : sz b q) (h : b ≠ 0) : sz (a / b) (p + q) := by
  rw [div_div]
  exact sz_divInt (abs_mul ha.1 (den_abs hb.2)) (abs_mul (den_abs ha.2) hb.1) (Int.mul_ne_zero (den_ne a) (num_ne h))

/-! ### the bodies -/
def bInteger : List S := [.ret (.and (.blt .isinstance [.var 0, .bty .int]) (.not (.blt .isinstance [.var 0, .bty .bool])))]
def bGcd : List S := [.par [0, 1] [.blt .abs [.var 0], .blt .abs [.var 1]], .whl (.cmp .Gt (.var 1) (.lit (.int 0))) [.par [0, 1] [.var 1, .bin .Mod (.var 0) (.var 1)]], .ret (.var 0)]
def bNumber (i g : Nat) : List S := [.ite (.or (.not (.blt .isinstance [.var 0, .bty .tuple])) (.or (.cmp .NotEq (.blt .len [.var 0]) (.lit (.int 2))) (.not (.blt .all [.comp false (.call i [.var 1]) (.name 1) (.seq (.var 0)) none [("one", 1)]])))) [.ret (.lit (.bl false))] [],
  .ret (.and (.cmp .GtE (.idx (.var 0) (.lit (.int 1))) (.lit (.int 1))) (.cmp .Eq (.call g [.idx (.var 0) (.lit (.int 0)), .idx (.var 0) (.lit (.int 1))]) (.lit (.int 1))))]
def bReduced (g : Nat) : List S := [.ite (.cmp .Lt (.var 1) (.lit (.int 0))) [.par [0, 1] [.bin .Sub (.lit (.int 0)) (.var 0), .bin .Sub (.lit (.int 0)) (.var 1)]] [],
  .asg (.name 2) (.call g [.var 0, .var 1]), .ret (.tup [.bin .FloorDiv (.var 0) (.var 2), .bin .FloorDiv (.var 1) (.var 2)])]
def bAdded (r : Nat) : List S := [.ite (.cmp2 .Eq .Eq (.idx (.var 0) (.lit (.int 1))) (.idx (.var 1) (.lit (.int 1))) (.lit (.int 1))) [.ret (.tup [.bin .Add (.idx (.var 0) (.lit (.int 0))) (.idx (.var 1) (.lit (.int 0))), .lit (.int 1)])] [],
  .ret (.call r [.bin .Add (.bin .Mult (.idx (.var 0) (.lit (.int 0))) (.idx (.var 1) (.lit (.int 1)))) (.bin .Mult (.idx (.var 1) (.lit (.int 0))) (.idx (.var 0) (.lit (.int 1)))), .bin .Mult (.idx (.var 0) (.lit (.int 1))) (.idx (.var 1) (.lit (.int 1)))])]
def bMult (r : Nat) : List S := [.ite (.cmp2 .Eq .Eq (.idx (.var 0) (.lit (.int 1))) (.idx (.var 1) (.lit (.int 1))) (.lit (.int 1))) [.ret (.tup [.bin .Mult (.idx (.var 0) (.lit (.int 0))) (.idx (.var 1) (.lit (.int 0))), .lit (.int 1)])] [],
  .ret (.call r [.bin .Mult (.idx (.var 0) (.lit (.int 0))) (.idx (.var 1) (.lit (.int 0))), .bin .Mult (.idx (.var 0) (.lit (.int 1))) (.idx (.var 1) (.lit (.int 1)))])]
def bOpp : List S := [.ret (.tup [.bin .Sub (.lit (.int 0)) (.idx (.var 0) (.lit (.int 0))), .idx (.var 0) (.lit (.int 1))])]
def bDivd (r : Nat) : List S := [.ret (.call r [.bin .Mult (.idx (.var 0) (.lit (.int 0))) (.idx (.var 1) (.lit (.int 1))), .bin .Mult (.idx (.var 0) (.lit (.int 1))) (.idx (.var 1) (.lit (.int 0)))])]
def bFr : List S := [.par [2, 3] [.blt .abs [.var 0], .blt .abs [.var 1]], .whl (.cmp .Gt (.var 3) (.lit (.int 0))) [.par [2, 3] [.var 3, .bin .Mod (.var 2) (.var 3)]],
  .asg (.name 4) (.ite (.cmp .Lt (.var 1) (.lit (.int 0))) (.neg (.lit (.int 1))) (.lit (.int 1))), .ret (.tup [.bin .FloorDiv (.bin .Mult (.var 4) (.var 0)) (.var 2), .bin .FloorDiv (.bin .Mult (.var 4) (.var 1)) (.var 2)])]
def bLPlus (f : Nat) : List S := [.ret (.call f [.bin .Add (.bin .Mult (.idx (.var 0) (.lit (.int 0))) (.idx (.var 1) (.lit (.int 1)))) (.bin .Mult (.idx (.var 1) (.lit (.int 0))) (.idx (.var 0) (.lit (.int 1)))), .bin .Mult (.idx (.var 0) (.lit (.int 1))) (.idx (.var 1) (.lit (.int 1)))])]
def bLTimes (f : Nat) : List S := [.ret (.call f [.bin .Mult (.idx (.var 0) (.lit (.int 0))) (.idx (.var 1) (.lit (.int 0))), .bin .Mult (.idx (.var 0) (.lit (.int 1))) (.idx (.var 1) (.lit (.int 1)))])]
section
variable {T : Tab} {st : Sto} {k i g r f nu : Nat} {fr : List Frm}
theorem integer_int (h : IsB T i bInteger 1 1) (z : Int) (hk : 1 ≤ k) : callF T k fr i [.int z] st = .ok (.bl true) st := by
  obtain ⟨k, rfl, hk1⟩ := succ_of hk; clear hk; have hk := hk1; clear hk1
  rw [run_b h rfl]
  simp [bInteger]
theorem wmaxQ : wmax = 1000000000 := rfl
theorem gcd_int (h : IsB T g bGcd 2 2) (i j : Int) (hk : 1 ≤ k) {n : Nat} (hj : j.natAbs < 2 ^ n) (hn : n ≤ 100000000) : callF T k fr g [.int i, .int j] st = .ok (.int (Int.gcd i j)) st := by
  obtain ⟨k, rfl, hk1⟩ := succ_of hk; clear hk; have hk := hk1; clear hk1
  rw [run_b h rfl]
  have q := gcd_loop (st := st) (t := evT (cfOf T k fr [] (callF T k) (cloF T k)) 59 (.cmp .Gt (.var 1) (.lit (.int 0)))) (b := exL (ex (cfOf T k fr [] (callF T k) (cloF T k)) 59) [.par [0, 1] [.var 1, .bin .Mod (.var 0) (.var 1)]])
    (fun x y => [some (.int x), some (.int y)]) (fun x y => by simp) (fun x y hy => by simp [hy]) n i.natAbs j.natAbs wmax hj (by rw [wmaxQ]; omega)
  simp [bGcd, q, Int.gcd]
theorem fdiv_nat (a : Int) (g : Nat) : a.fdiv g = a / g := Int.fdiv_eq_ediv_of_nonneg a (by omega)
theorem reduced_int (h : IsB T r (bReduced g) 2 3) (hg : IsB T g bGcd 2 2) {top bottom : Int} (hk : 41 ≤ k) {n : Nat} (hj : bottom.natAbs < 2 ^ n) (hn : n ≤ 100000000) (h0 : bottom ≠ 0) :
    callF T k fr r [.int top, .int bottom] st = .ok (frD (Rat.divInt top bottom)) st := by
  obtain ⟨k, rfl, hk1⟩ := succ_of (j := 40) hk; clear hk; have hk := hk1; clear hk1
  rw [run_b h rfl]
  have g0 : Int.gcd bottom top ≠ 0 := fun e => h0 (Int.gcd_eq_zero_iff.mp e).1
  have cd := gcd_int (st := st) (fr := fr) hg (k := k) top bottom (by omega) hj hn
  have cd' := gcd_int (st := st) (fr := fr) hg (k := k) (0 - top) (0 - bottom) (by omega) (n := n) (by omega) hn
  have e1 : Int.gcd (0 - top) (0 - bottom) = Int.gcd bottom top := by rw [Int.gcd_comm, Int.zero_sub, Int.zero_sub, Int.neg_gcd, Int.gcd_neg]
  rw [Int.gcd_comm] at cd
  rw [e1, Int.zero_sub, Int.zero_sub] at cd'
  have r : frD (Rat.divInt top bottom) = .tup [.int (bottom.sign * top / Int.gcd bottom top), .int (bottom.natAbs / Int.gcd bottom top : Nat)] := by
    unfold frD
    rw [Rat.num_divInt, Rat.den_divInt, if_neg h0]
  rw [r]
  by_cases hb : bottom < 0
  · have s1 : bottom.sign = -1 := Int.sign_eq_neg_one_of_neg hb
    have s2 : ((bottom.natAbs : Nat) : Int) = -bottom := by omega
    simp [bReduced, hb, cd', g0, hk, fdiv_nat, s1, s2, Int.natCast_ediv]
  · have s1 : bottom.sign = 1 := Int.sign_eq_one_of_pos (by omega)
    have s2 : ((bottom.natAbs : Nat) : Int) = bottom := by omega
    simp [bReduced, hb, cd, g0, hk, fdiv_nat, s1, s2, Int.natCast_ediv]
theorem den_pos (q : Rat) : 1 ≤ (q.den : Int) := by have := q.den_pos; omega
theorem number_fr (h : IsB T nu (bNumber i g) 1 2) (hi : IsB T i bInteger 1 1) (hg : IsB T g bGcd 2 2) {q : Rat} {n : Nat} (hk : 2 ≤ k) (hq : q.den < 2 ^ n) (hn : n ≤ 100000000) : callF T k fr nu [frD q] st = .ok (.bl true) st := by
  obtain ⟨k, rfl, hk1⟩ := succ_of (j := 1) hk; clear hk; have hk := hk1; clear hk1
  rw [run_b h rfl]
  have cd := gcd_int (st := st) (fr := fr) hg (k := k) q.num q.den (by omega) (n := n) (by omega) hn
  have e : Int.gcd q.num q.den = 1 := q.reduced
  rw [e] at cd
  have i1 := integer_int (st := st) (fr := fr) hi (k := k) q.num hk
  have i2 := integer_int (st := st) (fr := fr) hi (k := k) q.den hk
  have d1 := den_pos q
  simp [bNumber, frD, compR_eq, compL, turnC, condT, wipeE, i1, i2, cd, allD, Sto.items, allB, d1]
theorem added_fr (h : IsB T f (bAdded r) 2 2) (hr : IsB T r (bReduced g) 2 3) (hg : IsB T g bGcd 2 2) {a b : Rat} {n : Nat} (hk : 42 ≤ k) (ha : sz a n) (hb : sz b n) (hn : n ≤ 1000000) : callF T k fr f [frD a, frD b] st = .ok (frD (a + b)) st := by
  obtain ⟨k, rfl, hk⟩ := succ_of (j := 41) hk
  rw [run_b h rfl]
  have m1 : mulOk a.num b.den = true := mulOk_of ha.1 (den_abs hb.2) (by omega)
  have m2 : mulOk b.num a.den = true := mulOk_of hb.1 (den_abs ha.2) (by omega)
  have m3 : mulOk a.den b.den = true := mulOk_of (den_abs ha.2) (den_abs hb.2) (by omega)
  by_cases e : (a.den : Int) = b.den ∧ (b.den : Int) = 1
  · have e2 : (a.den : Int) = 1 := e.1.trans e.2
    have r : frD (a + b) = .tup [.int (a.num + b.num), .int 1] := by rw [add_div, e.2, e2, Int.mul_one, Int.mul_one, Int.mul_one, divInt_one]
    rw [r]
    have e3 : a.den = 1 := by omega
    have e4 : b.den = 1 := by omega
    simp [bAdded, frD, e3, e4]
  · have rd := reduced_int (st := st) (fr := fr) (k := k) hr hg (top := a.num * b.den + b.num * a.den) (bottom := a.den * b.den) (by omega) (n := n + n) (abs_mul (den_abs ha.2) (den_abs hb.2)) (by omega) (Int.mul_ne_zero (den_ne a) (den_ne b))
    rw [add_div]
    by_cases e1 : a.den = b.den
    · have e2 : b.den ≠ 1 := fun z => e ⟨by omega, by omega⟩
      rw [e1] at m2 m3 rd
      have e3 : ¬ (b.den : Int) = 1 := by omega
      simp [bAdded, frD, e1, e2, e3, m1, m2, m3]
      simp [frD] at rd
      simp [rd]
    · have e3 : ¬ (a.den : Int) = b.den := by omega
      simp [bAdded, frD, e1, e3, m1, m2, m3]
      simp [frD] at rd
      simp [rd]
theorem multiplied_fr (h : IsB T f (bMult r) 2 2) (hr : IsB T r (bReduced g) 2 3) (hg : IsB T g bGcd 2 2) {a b : Rat} {n : Nat} (hk : 42 ≤ k) (ha : sz a n) (hb : sz b n) (hn : n ≤ 1000000) : callF T k fr f [frD a, frD b] st = .ok (frD (a * b)) st := by
  obtain ⟨k, rfl, hk⟩ := succ_of (j := 41) hk
  rw [run_b h rfl]
  have m1 : mulOk a.num b.num = true := mulOk_of ha.1 hb.1 (by omega)
  have m3 : mulOk a.den b.den = true := mulOk_of (den_abs ha.2) (den_abs hb.2) (by omega)
  by_cases e : (a.den : Int) = b.den ∧ (b.den : Int) = 1
  · have e2 : (a.den : Int) = 1 := e.1.trans e.2
    have r : frD (a * b) = .tup [.int (a.num * b.num), .int 1] := by rw [mul_div, e.2, e2, Int.mul_one, divInt_one]
    rw [r]
    have e3 : a.den = 1 := by omega
    have e4 : b.den = 1 := by omega
    simp [bMult, frD, e3, e4, m1]
  · have rd := reduced_int (st := st) (fr := fr) (k := k) hr hg (top := a.num * b.num) (bottom := a.den * b.den) (by omega) (n := n + n) (abs_mul (den_abs ha.2) (den_abs hb.2)) (by omega) (Int.mul_ne_zero (den_ne a) (den_ne b))
    rw [mul_div]
    by_cases e1 : a.den = b.den
    · have e2 : b.den ≠ 1 := fun z => e ⟨by omega, by omega⟩
      rw [e1] at m3 rd
      have e3 : ¬ (b.den : Int) = 1 := by omega
      simp [bMult, frD, e1, e2, e3, m1, m3]
      simp [frD] at rd
      simp [rd]
    · have e3 : ¬ (a.den : Int) = b.den := by omega
      simp [bMult, frD, e1, e3, m1, m3]
      simp [frD] at rd
      simp [rd]
theorem opposite_fr (h : IsB T f bOpp 1 1) {a : Rat} (hk : 1 ≤ k) : callF T k fr f [frD a] st = .ok (frD (-a)) st := by
  obtain ⟨k, rfl, hk⟩ := succ_of hk
  rw [run_b h rfl]
  simp [bOpp, frD]
theorem divided_fr (h : IsB T f (bDivd r) 2 2) (hr : IsB T r (bReduced g) 2 3) (hg : IsB T g bGcd 2 2) {a b : Rat} {n : Nat} (hk : 42 ≤ k) (ha : sz a n) (hb : sz b n) (hn : n ≤ 1000000) (h0 : b ≠ 0) : callF T k fr f [frD a, frD b] st = .ok (frD (a / b)) st := by
  obtain ⟨k, rfl, hk⟩ := succ_of (j := 41) hk
  rw [run_b h rfl]
  have m1 : mulOk a.num b.den = true := mulOk_of ha.1 (den_abs hb.2) (by omega)
  have m3 : mulOk a.den b.num = true := mulOk_of (den_abs ha.2) hb.1 (by omega)
  have rd := reduced_int (st := st) (fr := fr) (k := k) hr hg (top := a.num * b.den) (bottom := a.den * b.num) (by omega) (n := n + n) (abs_mul (den_abs ha.2) hb.1) (by omega) (Int.mul_ne_zero (den_ne a) (num_ne h0))
  rw [← div_div] at rd
  simp [bDivd, frD, m1, m3]
  simp [frD] at rd
  simp [rd]
/-! ### the law's own arithmetic -/
theorem lfr_int (h : IsB T f bFr 2 5) {top bottom : Int} (hk : 41 ≤ k) {n : Nat} (ht : top.natAbs < 2 ^ n) (hb : bottom.natAbs < 2 ^ n) (hn : n ≤ 40000000) (h0 : bottom ≠ 0) :
    callF T k fr f [.int top, .int bottom] st = .ok (frD (Rat.divInt top bottom)) st := by
  obtain ⟨k, rfl, hk1⟩ := succ_of (j := 40) hk; clear hk; have hk := hk1; clear hk1
  rw [run_b h rfl]
  have g0 : Int.gcd bottom top ≠ 0 := fun e => h0 (Int.gcd_eq_zero_iff.mp e).1
  have q := gcd_loop (st := st) (t := evT (cfOf T k fr [] (callF T k) (cloF T k)) 59 (.cmp .Gt (.var 3) (.lit (.int 0)))) (b := exL (ex (cfOf T k fr [] (callF T k) (cloF T k)) 59) [.par [2, 3] [.var 3, .bin .Mod (.var 2) (.var 3)]])
    (fun x y => [some (.int top), some (.int bottom), some (.int x), some (.int y), none]) (fun x y => by simp) (fun x y hy => by simp [hy]) n top.natAbs bottom.natAbs wmax hb (by rw [wmaxQ]; omega)
  have g1 : Nat.gcd top.natAbs bottom.natAbs = Int.gcd bottom top := by rw [Nat.gcd_comm]; rfl
  rw [g1] at q
  have r : frD (Rat.divInt top bottom) = .tup [.int (bottom.sign * top / Int.gcd bottom top), .int (bottom.natAbs / Int.gcd bottom top : Nat)] := by
    unfold frD
    rw [Rat.num_divInt, Rat.den_divInt, if_neg h0]
  rw [r]
  have o1 : (1 : Int).natAbs < 2 ^ 1 := by decide
  have o2 : (-1 : Int).natAbs < 2 ^ 1 := by decide
  by_cases hlt : bottom < 0
  · have s1 : bottom.sign = -1 := Int.sign_eq_neg_one_of_neg hlt
    have s2 : ((bottom.natAbs : Nat) : Int) = -bottom := by omega
    have m1 : mulOk (-1) top = true := mulOk_of o2 ht (by omega)
    have m2 : mulOk (-1) bottom = true := mulOk_of o2 hb (by omega)
    rw [Int.natCast_ediv, s2, s1]
    simp [bFr, q, hlt, g0, hk, fdiv_nat, m1, m2]
  · have s1 : bottom.sign = 1 := Int.sign_eq_one_of_pos (by omega)
    have s2 : ((bottom.natAbs : Nat) : Int) = bottom := by omega
    have m1 : mulOk 1 top = true := mulOk_of o1 ht (by omega)
    have m2 : mulOk 1 bottom = true := mulOk_of o1 hb (by omega)
    rw [Int.natCast_ediv, s2, s1]
    simp [bFr, q, hlt, g0, hk, fdiv_nat, m1, m2]
theorem lplus_fr (h : IsB T i (bLPlus f) 2 2) (hf : IsB T f bFr 2 5) {a b : Rat} {n : Nat} (hk : 42 ≤ k) (ha : sz a n) (hb : sz b n) (hn : n ≤ 1000000) : callF T k fr i [frD a, frD b] st = .ok (frD (a + b)) st := by
  obtain ⟨k, rfl, hk1⟩ := succ_of (j := 41) hk; clear hk; have hk := hk1; clear hk1
  rw [run_b h rfl]
  have m1 : mulOk a.num b.den = true := mulOk_of ha.1 (den_abs hb.2) (by omega)
  have m2 : mulOk b.num a.den = true := mulOk_of hb.1 (den_abs ha.2) (by omega)
  have m3 : mulOk a.den b.den = true := mulOk_of (den_abs ha.2) (den_abs hb.2) (by omega)
  have rd := lfr_int (st := st) (fr := fr) (k := k) hf (top := a.num * b.den + b.num * a.den) (bottom := a.den * b.den) (by omega) (n := n + n + 1) (abs_add (abs_mul ha.1 (den_abs hb.2)) (abs_mul hb.1 (den_abs ha.2)))
    (Nat.lt_of_lt_of_le (abs_mul (den_abs ha.2) (den_abs hb.2)) (Nat.pow_le_pow_right (by decide) (by omega))) (by omega) (Int.mul_ne_zero (den_ne a) (den_ne b))
  rw [add_div]
  simp [bLPlus, frD, m1, m2, m3]
  simp [frD] at rd
  simp [rd]
theorem ltimes_fr (h : IsB T i (bLTimes f) 2 2) (hf : IsB T f bFr 2 5) {a b : Rat} {n : Nat} (hk : 42 ≤ k) (ha : sz a n) (hb : sz b n) (hn : n ≤ 1000000) : callF T k fr i [frD a, frD b] st = .ok (frD (a * b)) st := by
  obtain ⟨k, rfl, hk1⟩ := succ_of (j := 41) hk; clear hk; have hk := hk1; clear hk1
  rw [run_b h rfl]
  have m1 : mulOk a.num b.num = true := mulOk_of ha.1 hb.1 (by omega)
  have m3 : mulOk a.den b.den = true := mulOk_of (den_abs ha.2) (den_abs hb.2) (by omega)
  have rd := lfr_int (st := st) (fr := fr) (k := k) hf (top := a.num * b.num) (bottom := a.den * b.den) (by omega) (n := n + n) (abs_mul ha.1 hb.1) (abs_mul (den_abs ha.2) (den_abs hb.2)) (by omega) (Int.mul_ne_zero (den_ne a) (den_ne b))
  rw [mul_div]
  simp [bLTimes, frD, m1, m3]
  simp [frD] at rd
  simp [rd]
end
end Mu

end
section
set_option linter.all false
set_option Elab.async false
/-! Loops, comprehensions, rows and tables of rationals. -/
namespace Mu
open PySem
/-! ### loops -/
theorem forL_ok {f : D → Env → Sto → SR} {xs : List D} (P : Nat → Env → Sto → Prop) (h : ∀ i x env st, xs[i]? = some x → P i env st → ∃ env' st', (f x env st = .next env' st' ∨ f x env st = .cont env' st') ∧ P (i + 1) env' st') :
    ∀ {env : Env} {st : Sto}, P 0 env st → ∃ env' st', forL f xs env st = .next env' st' ∧ P xs.length env' st' := by
  induction xs generalizing P with
  | nil => exact fun {env st} p => ⟨env, st, rfl, p⟩
  | cons x xs ih =>
    intro env st p
    obtain ⟨env1, st1, e, p1⟩ := h 0 x env st rfl p
    obtain ⟨env2, st2, e2, p2⟩ := ih (fun i => P (i + 1)) (fun i y env st hy q => h (i + 1) y env st (by rw [List.getElem?_cons_succ]; exact hy) q) p1
    refine ⟨env2, st2, ?_, p2⟩
    rw [z_forC]
    rcases e with e | e <;> (rw [e]; exact e2)
theorem compL_of {α : Type} {f : D → Sto → Res (Option D)} {st : Sto} {F G : α → D} : ∀ (l : List α) (acc : List D), (∀ a ∈ l, f (F a) st = .ok (some (G a)) st) → acc.length + l.length ≤ 16777216 → compL f (l.map F) acc st = .ok (acc ++ l.map G) st
  | [], acc, _, _ => by simp [compL]
  | x :: l, acc, h, hl => by
    have e := h x List.mem_cons_self
    rw [List.length_cons] at hl
    rw [List.map_cons]
    unfold compL
    rw [e, Res.bind_ok]
    simp only
    rw [if_pos (show acc.length < sizeLine by rw [sizeQ]; omega), compL_of l (acc ++ [G x]) (fun y hy => h y (List.mem_cons_of_mem _ hy)) (by rw [List.length_append, List.length_singleton]; omega)]
    simp
theorem compL_inv {f : D → Sto → Res (Option D)} {xs : List D} (P : Nat → List D → Sto → Prop) (h : ∀ i x acc st, xs[i]? = some x → P i acc st → ∃ d st', f x st = .ok (some d) st' ∧ P (i + 1) (acc ++ [d]) st') :
    ∀ {acc : List D} {st : Sto}, acc.length + xs.length ≤ 16777216 → P 0 acc st → ∃ ds st', compL f xs acc st = .ok ds st' ∧ P xs.length ds st' := by
  induction xs generalizing P with
  | nil => exact fun {acc st} _ p => ⟨acc, st, rfl, p⟩
  | cons x xs ih =>
    intro acc st hl p
    rw [List.length_cons] at hl
    obtain ⟨d, st1, e, p1⟩ := h 0 x acc st rfl p
    obtain ⟨ds, st2, e2, p2⟩ := ih (fun i => P (i + 1)) (fun i y acc st hy q => h (i + 1) y acc st (by rw [List.getElem?_cons_succ]; exact hy) q) (acc := acc ++ [d]) (by rw [List.length_append, List.length_singleton]; omega) p1
    refine ⟨ds, st2, ?_, p2⟩
    unfold compL
    rw [e, Res.bind_ok]
    simp only
    rw [if_pos (show acc.length < sizeLine by rw [sizeQ]; omega), e2]
theorem compR_of {α : Type} {gi : Env → Sto → Res (List D)} {gt : Env → D → Env → Sto → Res Env} {ft : Env → Env → Sto → Res Bool} {fe : Env → Env → Sto → Res D} {vs : List Nat} {env : Env} {st : Sto} {l : List α} {F G : α → D}
    (hi : gi env st = .ok (l.map F) st) (h : ∀ a ∈ l, turnC (gt env) (ft env) (fe env) vs env (F a) st = .ok (some (G a)) st) (hl : l.length ≤ 16777216) : compR gi gt ft fe vs false env st = .ok (.lst (l.map G)) st := by
  rw [compR_eq, hi, Res.bind_ok, compL_of l [] h (by simpa using hl), Res.bind_ok]
  rfl
theorem allB_all {α : Type} : ∀ l : List α, allB (l.map fun _ => D.bl true) = some true
  | [] => rfl
  | x :: l => by
    show (allB (l.map fun _ => D.bl true)).map (true && ·) = _
    rw [allB_all l]
    rfl
theorem pairs_of {α : Type} {F G : α → D} : ∀ l : List α, pairs (l.map F) (l.map G) = l.map fun a => D.tup [F a, G a]
  | [] => rfl
  | x :: l => by
    show _ :: pairs (l.map F) (l.map G) = _
    rw [pairs_of l]
    rfl
theorem ints_of : ∀ (n : Nat) (lo : Int), intsD lo n = (List.range n).map fun i : Nat => D.int (lo + (i : Int))
  | 0, _ => rfl
  | n + 1, lo => by
    show D.int lo :: intsD (lo + 1) n = _
    rw [ints_of n (lo + 1), List.range_succ_eq_map, List.map_cons, List.map_map]
    congr 1
    · simp
    · apply List.map_congr_left
      intro i _
      show D.int (lo + 1 + i) = D.int (lo + ((i + 1 : Nat) : Int))
      congr 1
      omega
theorem rng_of {m : Nat} (h : m ≤ 4611686018427387903) : rngD [.int m] = some ((List.range m).map fun i : Nat => D.int (i : Int)) := by
  show (if (m : Int).natAbs ≤ 4611686018427387903 then some (intsD 0 (m : Int).toNat) else none) = _
  rw [if_pos (by omega), ints_of, Int.toNat_natCast]
  congr 1
  apply List.map_congr_left
  intro i _
  simp
theorem map_at {α β : Type} {f : α → β} {l : List α} {i : Nat} {b : β} (h : (l.map f)[i]? = some b) : ∃ a, l[i]? = some a ∧ b = f a := by
  rw [List.getElem?_map] at h
  cases e : l[i]? with
  | none => rw [e] at h; cases h
  | some a => rw [e] at h; exact ⟨a, rfl, (Option.some.inj h).symm⟩
theorem range_at {n i j : Nat} (h : (List.range n)[i]? = some j) : i < n ∧ j = i := by
  obtain ⟨h1, h2⟩ := List.getElem?_eq_some_iff.mp h
  rw [List.getElem_range] at h2
  rw [List.length_range] at h1
  exact ⟨h1, h2.symm⟩
/-! ### sums -/
def sumN : Nat → (Nat → Rat) → Rat
  | 0, _ => 0
  | n + 1, f => sumN n f + f n
theorem sumN_congr : ∀ {n : Nat} {f g : Nat → Rat}, (∀ i, i < n → f i = g i) → sumN n f = sumN n g
  | 0, _, _, _ => rfl
  | n + 1, f, g, h => by
    show sumN n f + f n = sumN n g + g n
    rw [sumN_congr fun i hi => h i (by omega), h n (by omega)]
theorem sumN_zero : ∀ n : Nat, sumN n (fun _ => 0) = 0
  | 0 => rfl
  | n + 1 => by
    show sumN n (fun _ => 0) + 0 = 0
    rw [sumN_zero n, Rat.add_zero]
theorem sumN_add : ∀ (n : Nat) (f g : Nat → Rat), sumN n (fun i => f i + g i) = sumN n f + sumN n g
  | 0, _, _ => (Rat.add_zero 0).symm
  | n + 1, f, g => by
    show sumN n (fun i => f i + g i) + (f n + g n) = sumN n f + f n + (sumN n g + g n)
    rw [sumN_add n f g, Rat.add_assoc, Rat.add_assoc, ← Rat.add_assoc (sumN n g), Rat.add_comm (sumN n g) (f n), Rat.add_assoc]
theorem sumN_mulL : ∀ (n : Nat) (c : Rat) (f : Nat → Rat), c * sumN n f = sumN n fun i => c * f i
  | 0, c, _ => Rat.mul_zero c
  | n + 1, c, f => by
    show c * (sumN n f + f n) = sumN n (fun i => c * f i) + c * f n
    rw [Rat.mul_add, sumN_mulL n c f]
theorem sumN_mulR (n : Nat) (c : Rat) (f : Nat → Rat) : sumN n f * c = sumN n fun i => f i * c := by
  rw [Rat.mul_comm, sumN_mulL]
  exact sumN_congr fun i _ => Rat.mul_comm _ _
theorem sumN_swap : ∀ (n m : Nat) (f : Nat → Nat → Rat), sumN n (fun i => sumN m fun j => f i j) = sumN m fun j => sumN n fun i => f i j
  | 0, m, f => (sumN_zero m).symm
  | n + 1, m, f => by
    show sumN n (fun i => sumN m fun j => f i j) + sumN m (fun j => f n j) = sumN m fun j => sumN n (fun i => f i j) + f n j
    rw [sumN_swap n m f, ← sumN_add]
/-- only one is not nought -/
theorem sumN_one : ∀ (n : Nat) (f : Nat → Rat) (j : Nat), sumN n (fun i => if i = j then f i else 0) = if j < n then f j else 0
  | 0, _, _ => rfl
  | n + 1, f, j => by
    show sumN n (fun i => if i = j then f i else 0) + (if n = j then f n else 0) = _
    rw [sumN_one n f j]
    by_cases h : n = j
    · subst h
      rw [if_neg (by omega), if_pos rfl, if_pos (by omega), Rat.zero_add]
    · rw [if_neg h, Rat.add_zero]
      by_cases h1 : j < n
      · rw [if_pos h1, if_pos (by omega)]
      · rw [if_neg h1, if_neg (by omega)]
theorem sz_zero (n : Nat) (h : 1 ≤ n) : sz 0 n := ⟨by simpa using Nat.pow_pos (by decide), by
  show 1 < 2 ^ n
  exact Nat.lt_of_lt_of_le (by decide : 1 < 2 ^ 1) (Nat.pow_le_pow_right (by decide) h)⟩
theorem sz_sumN {p : Nat} {f : Nat → Rat} : ∀ n : Nat, (∀ i, i < n → sz (f i) p) → sz (sumN n f) (1 + n * (p + 1))
  | 0, _ => sz_zero _ (by omega)
  | n + 1, h => by
    refine (sz_add (sz_sumN n fun i hi => h i (by omega)) (h n (by omega))).mono ?_
    rw [Nat.succ_mul]
    omega
/-! ### rows and tables -/
def vec (n : Nat) (f : Nat → D) : List D := (List.range n).map f
def rowD (n : Nat) (f : Nat → Rat) : D := .tup (vec n fun i => frD (f i))
def tabD (h w : Nat) (A : Nat → Nat → Rat) : D := .tup (vec h fun i => rowD w (A i))
theorem vec_len (n : Nat) (f : Nat → D) : (vec n f).length = n := by simp [vec]
theorem vec_congr {n : Nat} {f g : Nat → D} (h : ∀ i, i < n → f i = g i) : vec n f = vec n g := List.map_congr_left fun i hi => h i (List.mem_range.mp hi)
theorem rowD_congr {n : Nat} {f g : Nat → Rat} (h : ∀ i, i < n → f i = g i) : rowD n f = rowD n g := by
  unfold rowD
  rw [vec_congr fun i hi => by rw [h i hi]]
theorem tabD_congr {h w : Nat} {A B : Nat → Nat → Rat} (e : ∀ i j, i < h → j < w → A i j = B i j) : tabD h w A = tabD h w B := by
  unfold tabD
  rw [vec_congr fun i hi => rowD_congr fun j hj => e i j hi hj]
/-! ### data told apart -/
theorem dataOk_fr (a : Rat) : dataOk (frD a) = true := by
  unfold dataOk SeqAt.shaped frD
  simp [D.plain, D.plains, D.py, D.pys, PyData.canLay0, PyData.canLayAll0, PyData.depth, PyData.depthAll]
theorem eqv_fr (a b : Rat) : PyData.eqv (frD a).py (frD b).py = decide (a = b) := by
  have e : a = b ↔ a.num = b.num ∧ a.den = b.den := ⟨fun e => by rw [e]; exact ⟨rfl, rfl⟩, fun e => Rat.ext e.1 e.2⟩
  rw [Bool.eq_iff_iff, decide_eq_true_eq, e]
  unfold frD
  simp [D.py, D.pys, PyData.eqv, PyData.eqvAll]
  omega
theorem eq_fr (a b : Rat) : eqD (frD a) (frD b) = some (decide (a = b)) := by
  show (if dataOk (frD a) && dataOk (frD b) then some (PyData.eqv (frD a).py (frD b).py) else none) = _
  rw [dataOk_fr, dataOk_fr, eqv_fr]
  rfl
@[simp] theorem c_eq_fr (a b : Rat) : cmpD .Eq (frD a) (frD b) = some (decide (a = b)) := eq_fr a b
@[simp] theorem c_ne_fr (a b : Rat) : cmpD .NotEq (frD a) (frD b) = some (!decide (a = b)) := by
  show (eqD (frD a) (frD b)).map (fun b => !b) = _
  rw [eq_fr]
  rfl
@[simp] theorem see_fr {st : Sto} (a : Rat) : Sto.see st (frD a) = frD a := rfl
theorem zero_fr : D.tup [.int 0, .int 1] = frD 0 := rfl
theorem one_fr : D.tup [.int 1, .int 1] = frD 1 := rfl
end Mu

end
section
set_option linter.all false
set_option Elab.async false
/-! Laws of errors: what is told in the kernel of few slots holds at all of them. -/
namespace Mu
open PySem
/-- e knows no more than b, and nothing of the store -/
inductive Sub : Env → Env → Prop
  | nil : Sub [] []
  | no {o : Option D} {e b : Env} : Sub e b → Sub (none :: e) (o :: b)
  | an {d : D} {e b : Env} : d.low 0 = true → Sub e b → Sub (some d :: e) (some d :: b)
theorem Sub.len : ∀ {e b : Env}, Sub e b → e.length = b.length
  | _, _, .nil => rfl
  | _, _, .no t => by simp [t.len]
  | _, _, .an _ t => by simp [t.len]
theorem Sub.at_ : ∀ {e b : Env}, Sub e b → ∀ (n i : Nat) (d : D), e[i]? = some (some d) → b[i]? = some (some (d.sh n))
  | _, _, .nil, _, _, _, h => by simp at h
  | _, _, .no t, n, 0, d, h => by simp at h
  | _, _, .no t, n, i + 1, d, h => by simpa using t.at_ n i d (by simpa using h)
  | _, _, .an l t, n, 0, d, h => by
    simp at h
    subst h
    rw [sh_low0 n _ l]
    rfl
  | _, _, .an l t, n, i + 1, d, h => by simpa using t.at_ n i d (by simpa using h)
theorem Sub.over {e b : Env} (h : Sub e b) (n : Nat) : over n b e = b := over_self h.len fun i d q => h.at_ n i d q
section
variable {T : Tab} {st : Sto} {k m : Nat} {fr fr' : List Frm} {lams : List E} {e b : Env}
theorem frR_sub {n : Nat} (h : Sub e b) : FrR n [⟨lams, e⟩] [⟨lams, b⟩] := by
  refine ⟨rfl, fun j f hf => ?_⟩
  cases j with
  | zero => cases hf; exact ⟨b, by simp [h.over]⟩
  | succ j => simp at hf
/-- a call -/
theorem call_up (P : TabP T) (B : Base st) (h : FrR st.length fr fr') {f : Nat} {ds : List D} {d : D} (hd : D.lows 0 ds = true) (hr : d.low 0 = true) (q : callF T k fr f ds [] = .ok d []) : callF T k fr' f ds st = .ok d st := by
  have z := (call_sh P B k).1 h f ds []
  rw [q] at z
  have z : callF T k fr' f (D.shs st.length ds) (shS st []) = .ok (d.sh st.length) (shS st []) := z
  rw [shs_low0 _ ds hd, sh_low0 _ d hr, shS_nil] at z
  exact z
/-- statements that answer -/
theorem ret_up (P : TabP T) (B : Base st) (h : FrR st.length fr fr') (s : Sub e b) {ss : List S} {d : D} {st' : Sto} (hr : d.low 0 = true) (q : exL (ex (cfOf T k fr lams (callF T k) (cloF T k)) m) ss e [] = .ret d st') :
    exL (ex (cfOf T k fr' lams (callF T k) (cloF T k)) m) ss b st = .ret d (shS st st') := by
  have z := lift_exL P B (k := k) (lams := lams) h (m := m) (ss := ss) (e := e) (b := b) s.len fun i d h => s.at_ _ i d h
  rw [q] at z
  have z : exL (ex (cfOf T k fr' lams (callF T k) (cloF T k)) m) ss b st = .ret (d.sh st.length) (shS st st') := z
  rw [sh_low0 _ d hr] at z
  exact z
/-- statements that change nothing -/
theorem same_up (P : TabP T) (B : Base st) (h : FrR st.length fr fr') (s : Sub e b) {ss : List S} (q : exL (ex (cfOf T k fr lams (callF T k) (cloF T k)) m) ss e [] = .next e []) :
    exL (ex (cfOf T k fr' lams (callF T k) (cloF T k)) m) ss b st = .next b st := by
  have z := lift_exL P B (k := k) (lams := lams) h (m := m) (ss := ss) (e := e) (b := b) s.len fun i d h => s.at_ _ i d h
  rw [q] at z
  have z : exL (ex (cfOf T k fr' lams (callF T k) (cloF T k)) m) ss b st = .next (over st.length b e) (shS st []) := z
  rw [s.over, shS_nil] at z
  exact z
/-- a slot is set -/
theorem set_up (P : TabP T) (B : Base st) (h : FrR st.length fr fr') (s : Sub e b) {ss : List S} {i : Nat} {d : D} (hd : d.low 0 = true) (q : exL (ex (cfOf T k fr lams (callF T k) (cloF T k)) m) ss e [] = .next (e.set i (some d)) []) :
    exL (ex (cfOf T k fr' lams (callF T k) (cloF T k)) m) ss b st = .next (b.set i (some d)) st := by
  have z := lift_exL P B (k := k) (lams := lams) h (m := m) (ss := ss) (e := e) (b := b) s.len fun i d h => s.at_ _ i d h
  rw [q] at z
  have z : exL (ex (cfOf T k fr' lams (callF T k) (cloF T k)) m) ss b st = .next (over st.length b (e.set i (some d))) (shS st []) := z
  rw [← over_set, s.over, sh_low0 _ d hd, shS_nil] at z
  exact z
end
theorem all_mem {α : Type} {p : α → Bool} {l : List α} (h : l.all p = true) (x : α) (m : x ∈ l) : p x = true := List.all_eq_true.mp h x m
/-! ### words -/
theorem lay_str {x : Str} (h : PyData.strOk x = true) : Lay (.str x) 1 := ⟨rfl, by simpa [D.py, PyData.canLay0] using h, by simp [D.py, PyData.depth]⟩
theorem ne_strs {α : Type} (g : α → Str) (ws : List α) (hs : ∀ p ∈ ws, PyData.strOk (g p) = true) : cmpD .NotEq (.lst (ws.map fun p => D.str (g p))) (.lst (ws.map fun p => D.str (g p))) = some false := by
  have h : dataOk (.lst (ws.map fun p => D.str (g p))) = true := (lay_lst (n := 1) fun d hd => by
    obtain ⟨x, hx, rfl⟩ := List.mem_map.mp hd
    exact lay_str (hs x hx)).ok (by decide)
  show (eqD _ _).map (fun b => !b) = _
  rw [eq_self h]
  rfl
section
variable {C : Cf} {n : Nat} {env : Env} {st : Sto}
theorem set_at {v : Nat} {d : D} : ∀ {env : Env} {v : Nat}, v < env.length → Env.at (env.set v (some d)) v = some d := fun {env v} h => by
  unfold Env.at
  rw [List.getElem?_set_self h]
/-- the words of all calls -/
theorem words_ev {W v c d : Nat} {nm : Str} (ws : List (Nat × Str)) (hc : env.at c = some (.lst (ws.map fun p => .clo d p.1))) (hv : v < env.length) (hl : ws.length ≤ 1000) (hw : ∀ p ∈ ws, C.call env W [.clo d p.1] st = .ok (.str p.2) st) :
    ev C (n + 4) (.comp false (.call W [.var v]) (.name v) (.seq (.var c)) none [(nm, v)]) env st = .ok (.lst (ws.map fun p => .str p.2)) st := by
  rw [z_comp]
  refine compR_of (l := ws) (F := fun p => .clo d p.1) (G := fun p => .str p.2) ?_ ?_ ?_
  · simp [hc]
  · intro p hp
    have q := hw p hp
    have a : Env.at ((wipeE env [v]).set v (some (.clo d p.1))) v = some (.clo d p.1) := set_at (v := v) (by simp [wipeE, hv])
    have a : Env.at (((env.set v none)).set v (some (.clo d p.1))) v = some (.clo d p.1) := a
    have b : (wipeE env [v]) = env.set v none := rfl
    simp only [turnC, condT, List.map_cons, List.map_nil, b, qt_name, Res.bind_ok, if_true, q_call, qL_cons, qL_nil, q_var, a, Res.of_some, blk_call, q, Res.still_ok]
  · omega
/-- they are the due ones -/
theorem words_ok {W v c d : Nat} {nm : Str} {due : E} (ws : List (Nat × Str)) (hc : env.at c = some (.lst (ws.map fun p => .clo d p.1))) (hv : v < env.length) (hl : ws.length ≤ 1000) (hs : ∀ p ∈ ws, PyData.strOk p.2 = true) (hw : ∀ p ∈ ws, C.call env W [.clo d p.1] st = .ok (.str p.2) st)
    (hd : ev C (n + 4) due env st = .ok (.lst (ws.map fun p => .str p.2)) st) :
    ex C (n + 7) (.ite (.cmp .NotEq (.comp false (.call W [.var v]) (.name v) (.seq (.var c)) none [(nm, v)]) due) [.ret (.lit (.bl false))] []) env st = .next env st := by
  have e : ev C (n + 4) (.comp false (.call W [.var v]) (.name v) (.seq (.var c)) none [(nm, v)]) env st = .ok (.lst (ws.map fun p => .str p.2)) st := words_ev (n := n) ws hc hv hl hw
  have q : evT C (n + 6) (.cmp .NotEq (.comp false (.call W [.var v]) (.name v) (.seq (.var c)) none [(nm, v)]) due) env st = .ok false st := by
    rw [qT_cmp, q_cmp, e, Res.bind_ok, hd, Res.bind_ok]
    show asBool (Res.of (Option.map D.bl (cmpD .NotEq (.lst _) (.lst _))) st) = _
    rw [ne_strs (fun p : Nat × Str => p.2) ws hs]
    rfl
  rw [x_ite, q]
  rfl
/-- .. and returned so -/
theorem words_ret {W v c d : Nat} {nm : Str} {due : E} (ws : List (Nat × Str)) (hc : env.at c = some (.lst (ws.map fun p => .clo d p.1))) (hv : v < env.length) (hl : ws.length ≤ 1000) (hs : ∀ p ∈ ws, PyData.strOk p.2 = true) (hw : ∀ p ∈ ws, C.call env W [.clo d p.1] st = .ok (.str p.2) st)
    (hd : ev C (n + 4) due env st = .ok (.lst (ws.map fun p => .str p.2)) st) :
    ex C (n + 6) (.ret (.cmp .Eq (.comp false (.call W [.var v]) (.name v) (.seq (.var c)) none [(nm, v)]) due)) env st = .ret (.bl true) st := by
  have e : ev C (n + 4) (.comp false (.call W [.var v]) (.name v) (.seq (.var c)) none [(nm, v)]) env st = .ok (.lst (ws.map fun p => .str p.2)) st := words_ev (n := n) ws hc hv hl hw
  have h : dataOk (.lst (ws.map fun p => D.str p.2)) = true := (lay_lst (n := 1) fun d hd => by
    obtain ⟨x, hx, rfl⟩ := List.mem_map.mp hd
    exact lay_str (hs x hx)).ok (by decide)
  have q : ev C (n + 5) (.cmp .Eq (.comp false (.call W [.var v]) (.name v) (.seq (.var c)) none [(nm, v)]) due) env st = .ok (.bl true) st := by
    rw [q_cmp, e, Res.bind_ok, hd, Res.bind_ok]
    show Res.of (Option.map D.bl (eqD (.lst _) (.lst _))) st = _
    rw [eq_self h]
    rfl
  rw [x_ret, q]
  rfl
/-- .. of a def's run -/
theorem words_okK {T : Tab} {k : Nat} {fr : List Frm} {lams : List E} {W v c d : Nat} {nm : Str} {due : E} (ws : List (Nat × Str)) (hc : env.at c = some (.lst (ws.map fun p => .clo d p.1))) (hv : v < env.length) (hl : ws.length ≤ 1000) (hs : ∀ p ∈ ws, PyData.strOk p.2 = true)
    (hw : ∀ p ∈ ws, callF T k (pushF fr lams env) W [.clo d p.1] st = .ok (.str p.2) st) (hd : ev (cfOf T k fr lams (callF T k) (cloF T k)) (n + 4) due env st = .ok (.lst (ws.map fun p => .str p.2)) st) :
    ex (cfOf T k fr lams (callF T k) (cloF T k)) (n + 7) (.ite (.cmp .NotEq (.comp false (.call W [.var v]) (.name v) (.seq (.var c)) none [(nm, v)]) due) [.ret (.lit (.bl false))] []) env st = .next env st :=
  words_ok ws hc hv hl hs (fun p hp => by rw [cf_call]; exact hw p hp) hd
theorem words_retK {T : Tab} {k : Nat} {fr : List Frm} {lams : List E} {W v c d : Nat} {nm : Str} {due : E} (ws : List (Nat × Str)) (hc : env.at c = some (.lst (ws.map fun p => .clo d p.1))) (hv : v < env.length) (hl : ws.length ≤ 1000) (hs : ∀ p ∈ ws, PyData.strOk p.2 = true)
    (hw : ∀ p ∈ ws, callF T k (pushF fr lams env) W [.clo d p.1] st = .ok (.str p.2) st) (hd : ev (cfOf T k fr lams (callF T k) (cloF T k)) (n + 4) due env st = .ok (.lst (ws.map fun p => .str p.2)) st) :
    ex (cfOf T k fr lams (callF T k) (cloF T k)) (n + 6) (.ret (.cmp .Eq (.comp false (.call W [.var v]) (.name v) (.seq (.var c)) none [(nm, v)]) due)) env st = .ret (.bl true) st :=
  words_ret ws hc hv hl hs (fun p hp => by rw [cf_call]; exact hw p hp) hd
/-- "count " + repr(odd) -/
theorem cnt_ev {i : Nat} {d : D} {pre r : Str} (h : env.at i = some d) (hr : reprD d = some r) (hl : pre.length + r.length ≤ sizeLine) : ev C (n + 3) (.bin .Add (.lit (.str pre)) (.blt .repr [.var i])) env st = .ok (.str (pre ++ r)) st := by
  have e : reprL [d] st = some (.str r) := by
    show (reprD d).map D.str = _
    rw [hr]
    rfl
  have b : binD C.k .Add (.str pre) (.str r) = some (.str (pre ++ r)) := if_pos hl
  simp only [q_bin, z_str, q_blt, qL_cons, qL_nil, q_var, h, Res.of_some, Res.bind_ok, bq_repr, e, see_str, b]
end
/-! ### the end of a run -/
def retT (r : SR) : Bool := match r with
  | .ret (.bl true) st => st.all (O.lowC 0)
  | _ => false
theorem retT_eq {r : SR} (h : retT r = true) : ∃ st, r = .ret (.bl true) st ∧ st.all (O.lowC 0) = true := by
  unfold retT at h
  split at h
  · exact ⟨_, rfl, h⟩
  · cases h
theorem fin_up {st : Sto} (B : Base st) {st' : Sto} (h : st'.all (O.lowC 0) = true) (lm : Option Nat) {n : Nat} (hn : n = st.length) : finish lm n (.ret (.bl true) (shS st st')) = .ok (.bl true) st := by
  subst hn
  have ok : okC lm (.bl true) (shS st st') = true := by
    cases lm with
    | none => rfl
    | some m =>
      show (true && (shS st st').all (O.lowC m)) = true
      rw [Bool.true_and]
      have q : (shS st st').all (O.lowC 0) = true := by rw [shS_lowC B]; exact h
      exact List.all_eq_true.mpr fun o ho => O.lowC_mono (Nat.zero_le m) o (List.all_eq_true.mp q o ho)
  show (if okC lm (.bl true) (shS st st') then trim st.length (.bl true) (shS st st') else .stuck) = _
  rw [if_pos ok]
  unfold trim
  have tk : (shS st st').take st.length = st := by
    unfold shS
    exact List.take_left
  rw [tk, if_pos]
  rw [B.low]
  rfl
/-- a loop's turns, one by one -/
theorem for_one {f : D → Env → Sto → SR} {x : D} {xs : List D} {env env' env2 : Env} {st : Sto} (h : f x env st = .next env' st) (t : forL f xs env' st = .next env2 st) : forL f (x :: xs) env st = .next env2 st := by
  rw [forL_next h]
  exact t
theorem rOf {d : D} {r : Str} (h : ((match reprD d with | some s => decide (s = r) | none => false) && decide (("count " : Str).length + r.length ≤ sizeLine) && PyData.strOk ("count " ++ r)) = true) : reprD d = some r ∧ ("count " : Str).length + r.length ≤ sizeLine ∧ PyData.strOk ("count " ++ r) = true := by
  rw [Bool.and_eq_true, Bool.and_eq_true] at h
  obtain ⟨⟨h1, h2⟩, h3⟩ := h
  refine ⟨?_, of_decide_eq_true h2, h3⟩
  split at h1
  · rename_i s e
    rw [e, of_decide_eq_true h1]
  · cases h1
/-- a check that changes nothing -/
def nextS (e : Env) (r : SR) : Bool := nextB r e []
theorem nextS_eq {e : Env} {r : SR} (h : nextS e r = true) : r = .next e [] := nextB_eq h
theorem one_same {C : Cf} {m : Nat} {s : S} {e : Env} {st : Sto} (h : exL (ex C m) [s] e st = .next e st) : ex C m s e st = .next e st := by
  rw [xL_cons] at h
  cases q : ex C m s e st with
  | next e2 s2 => rw [q] at h; exact h
  | _ => rw [q] at h; cases h
end Mu

end
section
set_option linter.all false
set_option Elab.async false
/-! A quicker run: some defs' answers are told by an oracle that is right. -/
namespace Mu
open PySem
mutual
def callO (T : Tab) (o : List Frm → Sto → Nat → List D → Option D) (k : Nat) (fr : List Frm) (x : Nat) (ds : List D) (st : Sto) : Res D := match k with
  | 0 => .stuck
  | k + 1 => match o fr st x ds with
    | some d => .ok d st
    | none => match T.fns[x]? with
      | none => .stuck
      | some F => if (F.pad ds).length = F.ps.length then
          finish (lmF fr F.lams) st.length (exL (ex (cfOf T k fr F.lams (callO T o k) (cloO T o k)) deep) F.body ((F.pad ds).map some ++ List.replicate (F.names.length - (F.pad ds).length) none) st) else .stuck
termination_by structural k
def cloO (T : Tab) (o : List Frm → Sto → Nat → List D → Option D) (k : Nat) (fr : List Frm) (d i : Nat) (ds : List D) (st : Sto) : Res D := match k with
  | 0 => .stuck
  | k + 1 => match fr[d]? with
    | none => .stuck
    | some f => match f.lams[i]? with
      | none => .stuck
      | some e => if ds.isEmpty then ev (cfLam T k fr (callO T o k) (cloO T o k)) deep e f.env st else .stuck
termination_by structural k
end
/-- what the oracle says is so, from the depth k0 on -/
def OrOk (T : Tab) (o : Nat → List D → Option D) (k0 : Nat) : Prop := ∀ x ds d, o x ds = some d → D.lows 0 ds = true ∧ d.low 0 = true ∧ ∀ k fr st, k0 ≤ k → callF T k fr x ds st = .ok d st
/-- the same, of an oracle that knows frames and store -/
def OrS (T : Tab) (o : List Frm → Sto → Nat → List D → Option D) (k0 : Nat) : Prop := ∀ fr st x ds d, o fr st x ds = some d → D.lows 0 ds = true ∧ d.low 0 = true ∧ ∀ (st0 : Sto) (fr' : List Frm) (k : Nat), Base st0 → FrR st0.length fr fr' → k0 ≤ k → callF T k fr' x ds (shS st0 st) = .ok d (shS st0 st)
theorem OrOk.s {T : Tab} {o : Nat → List D → Option D} {k0 : Nat} (O : OrOk T o k0) : OrS T (fun _ _ => o) k0 := fun _ _ x ds d h => by
  obtain ⟨a, b, c⟩ := O x ds d h
  exact ⟨a, b, fun _ _ k _ _ hk => c k _ _ hk⟩
theorem OrS.mono {T : Tab} {o : List Frm → Sto → Nat → List D → Option D} {k0 k1 : Nat} (O : OrS T o k0) (h : k0 ≤ k1) : OrS T o k1 := fun fr st x ds d q => by
  obtain ⟨a, b, c⟩ := O fr st x ds d q
  exact ⟨a, b, fun st0 fr' k B F hk => c st0 fr' k B F (Nat.le_trans h hk)⟩
section
variable {st0 : Sto} {T : Tab} {o : List Frm → Sto → Nat → List D → Option D} {k0 : Nat}
theorem callO_sh (P : TabP T) (O : OrS T o k0) (B : Base st0) : ∀ k : Nat, (∀ {fr fr' : List Frm} (_ : FrR st0.length fr fr') (x : Nat) (ds : List D) (st : Sto), MvD st0 (callO T o k fr x ds st) (callF T (k0 + k) fr' x (D.shs st0.length ds) (shS st0 st))) ∧
    ∀ {fr fr' : List Frm} (_ : FrR st0.length fr fr') (d i : Nat) (ds : List D) (st : Sto), MvD st0 (cloO T o k fr d i ds st) (cloF T (k0 + k) fr' d i (D.shs st0.length ds) (shS st0 st))
  | 0 => ⟨fun _ _ _ _ => trivial, fun _ _ _ _ _ => trivial⟩
  | k + 1 => by
    obtain ⟨ih1, ih2⟩ := callO_sh P O B k
    have cf : ∀ {fr fr' : List Frm} (lams : List E), FrR st0.length fr fr' → CfR st0 (cfOf T k fr lams (callO T o k) (cloO T o k)) (cfOf T (k0 + k) fr' lams (callF T (k0 + k)) (cloF T (k0 + k))) := fun lams h =>
      ⟨Nat.le_add_left _ _, rfl, h.len, P.con, fun b e f ds st => ih1 (h.push lams b e) f ds st, fun b e d i ds st => ih2 (h.push lams b e) d i ds st⟩
    refine ⟨fun {fr fr'} h x ds st => ?_, fun {fr fr'} h d i ds st => ?_⟩
    · show Mvd _ st0 (match o fr st x ds with
        | some d => Res.ok d st
        | none => match T.fns[x]? with
          | none => Res.stuck
          | some F => if (F.pad ds).length = F.ps.length then
              finish (lmF fr F.lams) st.length (exL (ex (cfOf T k fr F.lams (callO T o k) (cloO T o k)) deep) F.body ((F.pad ds).map some ++ List.replicate (F.names.length - (F.pad ds).length) none) st) else .stuck) (callF T (k0 + k + 1) fr' x (D.shs st0.length ds) (shS st0 st))
      cases ho : o fr st x ds with
      | some d =>
        obtain ⟨l1, l2, l3⟩ := O fr st x ds d ho
        rw [shs_low0 _ ds l1, l3 _ _ _ B h (by omega)]
        show Res.ok d _ = Res.ok (d.sh _) _
        rw [sh_low0 _ d l2]
      | none =>
        simp only
        show Mvd _ st0 _ (match T.fns[x]? with
          | none => Res.stuck
          | some F => if (F.pad (D.shs st0.length ds)).length = F.ps.length then
              finish (lmF fr' F.lams) (shS st0 st).length (exL (ex (cfOf T (k0 + k) fr' F.lams (callF T (k0 + k)) (cloF T (k0 + k))) deep) F.body ((F.pad (D.shs st0.length ds)).map some ++ List.replicate (F.names.length - (F.pad (D.shs st0.length ds)).length) none) (shS st0 st)) else .stuck)
        cases hx : T.fns[x]? with
        | none => trivial
        | some F =>
          have hd := P.dft F (List.mem_of_getElem? hx)
          simp only
          rw [pad_sh hd, shs_len]
          by_cases hl : (F.pad ds).length = F.ps.length
          · rw [if_pos hl, if_pos hl]
            have e1 : lmF fr' F.lams = lmF fr F.lams := by unfold lmF; rw [h.len]
            have e2 := start_sh (st0 := st0) (F := F) ds
            rw [e1, e2, shS_len]
            exact finish_sh B (exL_sh (fun s e st => ex_sh (cf F.lams h) deep s e st) F.body _ st)
          · rw [if_neg hl]
            trivial
    · show Mvd _ st0 (match fr[d]? with
        | none => Res.stuck
        | some f => match f.lams[i]? with
          | none => .stuck
          | some e => if ds.isEmpty then ev (cfLam T k fr (callO T o k) (cloO T o k)) deep e f.env st else .stuck) (match fr'[d]? with
        | none => Res.stuck
        | some f => match f.lams[i]? with
          | none => .stuck
          | some e => if (D.shs st0.length ds).isEmpty then ev (cfLam T (k0 + k) fr' (callF T (k0 + k)) (cloF T (k0 + k))) deep e f.env (shS st0 st) else .stuck)
      cases hf : fr[d]? with
      | none => trivial
      | some f =>
        obtain ⟨b, hb⟩ := h.at_ d f hf
        rw [hb]
        simp only
        cases hi : f.lams[i]? with
        | none => trivial
        | some e =>
          simp only
          rw [isEmpty_sh]
          split
          · have R : CfR st0 (cfLam T k fr (callO T o k) (cloO T o k)) (cfLam T (k0 + k) fr' (callF T (k0 + k)) (cloF T (k0 + k))) := ⟨Nat.le_add_left _ _, rfl, rfl, P.con, fun b e f ds st => ih1 h f ds st, fun b e d i ds st => ih2 h d i ds st⟩
            exact (sim deep).e R e b f.env st
          · trivial
theorem cfO_of (P : TabP T) (O : OrS T o k0) (B : Base st0) {k : Nat} {fr fr' : List Frm} (lams : List E) (h : FrR st0.length fr fr') : CfR st0 (cfOf T k fr lams (callO T o k) (cloO T o k)) (cfOf T (k0 + k) fr' lams (callF T (k0 + k)) (cloF T (k0 + k))) := by
  obtain ⟨ih1, ih2⟩ := callO_sh P O B k
  exact ⟨Nat.le_add_left _ _, rfl, h.len, P.con, fun b e f ds st => ih1 (h.push lams b e) f ds st, fun b e d i ds st => ih2 (h.push lams b e) d i ds st⟩
end
section
variable {T : Tab} {o : List Frm → Sto → Nat → List D → Option D} {k0 : Nat} {st : Sto} {k : Nat} {fr fr' : List Frm} {lams : List E} {e b : Env} {m : Nat}
/-- a call, told quickly -/
theorem callO_up (P : TabP T) (O : OrS T o k0) (B : Base st) (h : FrR st.length fr fr') {f : Nat} {ds : List D} {d : D} (hd : D.lows 0 ds = true) (hr : d.low 0 = true) (q : callO T o k fr f ds [] = .ok d []) : callF T (k0 + k) fr' f ds st = .ok d st := by
  have z := (callO_sh P O B k).1 h f ds []
  rw [q] at z
  have z : callF T (k0 + k) fr' f (D.shs st.length ds) (shS st []) = .ok (d.sh st.length) (shS st []) := z
  rw [shs_low0 _ ds hd, sh_low0 _ d hr, shS_nil] at z
  exact z
/-- statements, told quickly -/
theorem liftO (P : TabP T) (O : OrS T o k0) (B : Base st) (h : FrR st.length fr fr') (s : Sub e b) {ss : List S} : Sv st b (exL (ex (cfOf T k fr lams (callO T o k) (cloO T o k)) m) ss e []) (exL (ex (cfOf T (k0 + k) fr' lams (callF T (k0 + k)) (cloF T (k0 + k))) m) ss b st) := by
  have q := exL_sh (st0 := st) (b := b) (fun s e st => ex_sh (cfO_of P O B (k := k) lams h) m s e st) ss e []
  rw [s.over, shS_nil] at q
  exact q
end
theorem sub_none : ∀ n : Nat, Sub (List.replicate n none) (List.replicate n none)
  | 0 => .nil
  | n + 1 => .no (sub_none n)
theorem shS_nil2 (st : Sto) : shS [] st = st.map (O.sh 0) := rfl
theorem lowC_sh0 (st : Sto) (h : st.all (O.lowC 0) = true) : (shS [] st).all (O.lowC 0) = true := by
  rw [shS_lowC base_nil]
  exact h
/-- a law's end, told quickly -/
theorem endO_of {T : Tab} {o : List Frm → Sto → Nat → List D → Option D} {k0 k n : Nat} {rest : List S} {lams : List E} (P : TabP T) (O : OrS T o k0) (h : retT (exL (ex (cfOf T k [] lams (callO T o k) (cloO T o k)) deep) rest (List.replicate n none) []) = true) : endB T (k0 + k) n rest lams = true := by
  obtain ⟨st, e, hl⟩ := retT_eq h
  have z := liftO P O base_nil (k := k) (lams := lams) (m := deep) (ss := rest) (frR_nil (n := 0)) (sub_none n)
  rw [e] at z
  have z : exL (ex (cfOf T (k0 + k) [] lams (callF T (k0 + k)) (cloF T (k0 + k))) deep) rest (List.replicate n none) [] = .ret (.bl true) (shS [] st) := z
  unfold endB
  rw [z]
  exact lowC_sh0 st hl
/-- nothing is told -/
theorem orOk_none {T : Tab} : OrOk T (fun _ _ => none) 0 := fun _ _ _ h => by cases h
/-- a table of answers -/
def memo : List (Nat × List D × D) → Nat → List D → Option D
  | [], _, _ => none
  | (y, es, d) :: r, x, ds => if Nat.beq x y && D.beqs ds es then some d else memo r x ds
theorem memo_ok {T : Tab} {k0 : Nat} : ∀ {l : List (Nat × List D × D)}, (∀ p ∈ l, D.lows 0 p.2.1 = true ∧ p.2.2.low 0 = true ∧ ∀ k fr st, k0 ≤ k → callF T k fr p.1 p.2.1 st = .ok p.2.2 st) → OrOk T (memo l) k0
  | [], _, _, _, _, h => by cases h
  | (y, es, d) :: r, h, x, ds, e, q => by
    unfold memo at q
    split at q
    · rename_i hc
      cases q
      rw [Bool.and_eq_true] at hc
      rw [Nat.eq_of_beq_eq_true hc.1, D.beqs_eq hc.2]
      exact h _ List.mem_cons_self
    · exact memo_ok (fun p m => h p (List.mem_cons_of_mem _ m)) x ds e q
/-- either oracle -/
def orS (o p : List Frm → Sto → Nat → List D → Option D) : List Frm → Sto → Nat → List D → Option D := fun fr st x ds => match o fr st x ds with
  | some d => some d
  | none => p fr st x ds
theorem orS_ok {T : Tab} {o p : List Frm → Sto → Nat → List D → Option D} {k0 : Nat} (O : OrS T o k0) (P : OrS T p k0) : OrS T (orS o p) k0 := fun fr st x ds d h => by
  unfold orS at h
  split at h
  · rename_i q
    cases h
    exact O fr st x ds d q
  · exact P fr st x ds d h
/-- a table of answers, where there are no frames and nothing is in the store -/
def memoS (l : List (Nat × List D × D)) : List Frm → Sto → Nat → List D → Option D := fun fr st x ds => if fr.isEmpty && st.isEmpty then memo l x ds else none
theorem memo_in : ∀ {l : List (Nat × List D × D)} {x : Nat} {ds : List D} {d : D}, memo l x ds = some d → (x, ds, d) ∈ l
  | (y, es, d) :: r, x, ds, e, q => by
    unfold memo at q
    split at q
    · rename_i hc
      cases q
      rw [Bool.and_eq_true] at hc
      rw [Nat.eq_of_beq_eq_true hc.1, D.beqs_eq hc.2]
      exact List.mem_cons_self
    · exact List.mem_cons_of_mem _ (memo_in q)
theorem memoS_ok {T : Tab} {o : List Frm → Sto → Nat → List D → Option D} {k0 k : Nat} {l : List (Nat × List D × D)} (P : TabP T) (O : OrS T o k0) (h : ∀ p ∈ l, D.lows 0 p.2.1 = true ∧ p.2.2.low 0 = true ∧ callO T o k [] p.1 p.2.1 [] = .ok p.2.2 []) : OrS T (memoS l) (k0 + k) := fun fr st x ds d q => by
  unfold memoS at q
  split at q
  · rename_i hc
    rw [Bool.and_eq_true] at hc
    have e1 : fr = [] := List.isEmpty_iff.mp hc.1
    have e2 : st = [] := List.isEmpty_iff.mp hc.2
    subst e1 e2
    obtain ⟨a, b, c⟩ := h _ (memo_in q)
    refine ⟨a, b, fun st0 fr' k1 B F hk => ?_⟩
    obtain ⟨j, rfl⟩ : ∃ j, k1 = (k0 + j) + k := ⟨k1 - k0 - k, by omega⟩
    rw [shS_nil]
    exact callO_up P (O.mono (Nat.le_add_right k0 j)) B F a b c
  · cases q
/-- a call's run, told quickly -/
theorem callO_run {T : Tab} {o : List Frm → Sto → Nat → List D → Option D} {k : Nat} {fr : List Frm} {x : Nat} {ds : List D} {st : Sto} {F : Fd} (ho : o fr st x ds = none) (hx : T.fns[x]? = some F) (hl : (F.pad ds).length = F.ps.length) :
    callO T o (k + 1) fr x ds st = finish (lmF fr F.lams) st.length (exL (ex (cfOf T k fr F.lams (callO T o k) (cloO T o k)) deep) F.body ((F.pad ds).map some ++ List.replicate (F.names.length - (F.pad ds).length) none) st) := by
  show (match o fr st x ds with
    | some d => Res.ok d st
    | none => match T.fns[x]? with
      | none => Res.stuck
      | some F => if (F.pad ds).length = F.ps.length then
          finish (lmF fr F.lams) st.length (exL (ex (cfOf T k fr F.lams (callO T o k) (cloO T o k)) deep) F.body ((F.pad ds).map some ++ List.replicate (F.names.length - (F.pad ds).length) none) st) else .stuck) = _
  rw [ho, hx]
  exact if_pos hl
/-- turns that go on -/
def forS (f : D → Env → Sto → SR) : List D → Env → Sto → SR
  | [], env, st => .next env st
  | x :: xs, env, st => match f x env st with
    | .next env st => forS f xs env st
    | .cont env st => forS f xs env st
    | r => r
theorem forS_app {f : D → Env → Sto → SR} {ys : List D} {e' : Env} {st' : Sto} : ∀ {xs : List D} {e : Env} {st : Sto}, forS f xs e st = .next e' st' → forL f (xs ++ ys) e st = forL f ys e' st'
  | [], e, st, h => by
    cases h
    rfl
  | x :: xs, e, st, h => by
    have h : (match f x e st with
      | .next env st => forS f xs env st
      | .cont env st => forS f xs env st
      | r => r) = .next e' st' := h
    show (match f x e st with
      | .next env st => forL f (xs ++ ys) env st
      | .cont env st => forL f (xs ++ ys) env st
      | .brk env st => .next env st
      | r => r) = _
    cases q : f x e st with
    | next e1 st1 =>
      rw [q] at h
      exact forS_app h
    | cont e1 st1 =>
      rw [q] at h
      exact forS_app h
    | ret d st1 =>
      rw [q] at h
      cases h
    | brk e1 st1 =>
      rw [q] at h
      cases h
    | exc c v e1 st1 =>
      rw [q] at h
      cases h
    | stuck =>
      rw [q] at h
      cases h
end Mu

end
section
set_option linter.all false
set_option Elab.async false
/-! What the text's defs on rows and tables answer. -/
namespace Mu
open PySem
def bRest (z : Nat) : List S := [.ret (.bin .Mult (.tup [.con z]) (.var 0))]
def bSumR (a : Nat) : List S := [.ret (.blt .tuple [.comp false (.call a [.var 2, .var 3]) (.tup [.name 2, .name 3]) (.zip (.var 0) (.var 1)) none [("left", 2), ("right", 3)]])]
def bTimR (z m : Nat) : List S := [.ret (.blt .tuple [.comp false (.ite (.cmp .NotEq (.var 2) (.con z)) (.call m [.var 0, .var 2]) (.con z)) (.name 2) (.seq (.var 1)) none [("one", 2)]])]
def bProd (z a m : Nat) : List S := [.asg (.name 2) (.con z), .for_ (.tup [.name 3, .name 4]) (.zip (.var 0) (.var 1)) [.ite (.and (.cmp .NotEq (.var 3) (.con z)) (.cmp .NotEq (.var 4) (.con z))) [.asg (.name 2) (.call a [.var 2, .call m [.var 3, .var 4]])] []], .ret (.var 2)]
def bLedR (p : Nat) : List S := [.ret (.blt .tuple [.comp false (.call p [.var 1, .var 2]) (.name 2) (.seq (.var 0)) none [("line", 2)]])]
def bLedT (z rr sr tr : Nat) : List S := [.asg (.name 3) (.call rr [.var 0]), .for_ (.tup [.name 4, .name 5]) (.zip (.var 2) (.var 1)) [.ite (.cmp .NotEq (.var 4) (.con z)) [.asg (.name 3) (.call sr [.var 3, .call tr [.var 4, .var 5]])] []], .ret (.var 3)]
def bBeh (lt : Nat) : List S := [.ret (.blt .tuple [.comp false (.call lt [.var 2, .var 1, .var 3]) (.name 3) (.seq (.var 0)) none [("line", 3)]])]
/-- the numbers' defs: integer, divisor, number, reduced, added, multiplied; NOUGHT -/
structure Num (T : Tab) (i g nu r a m z : Nat) : Prop where
  hi : IsB T i bInteger 1 1
  hg : IsB T g bGcd 2 2
  hn : IsB T nu (bNumber i g) 1 2
  hr : IsB T r (bReduced g) 2 3
  ha : IsB T a (bAdded r) 2 2
  hm : IsB T m (bMult r) 2 2
  hz : (T.con[z]?).map (·.2) = some (frD 0)
section
variable {T : Tab} {st : Sto} {k i g nu r a m z f rr sr tr p lt : Nat} {fr : List Frm}
theorem repL_one (d : D) : ∀ n : Nat, repL [d] n = vec n fun _ => d
  | 0 => rfl
  | n + 1 => by
    show d :: repL [d] n = _
    rw [repL_one d n]
    unfold vec
    rw [List.range_succ_eq_map, List.map_cons, List.map_map]
    rfl
theorem rest_ok (N : Num T i g nu r a m z) (h : IsB T f (bRest z) 1 1) (hk : 1 ≤ k) {w : Nat} (hw : w ≤ 1000) : callF T k fr f [.int w] st = .ok (rowD w fun _ => 0) st := by
  obtain ⟨k, rfl, hk⟩ := succ_of hk
  rw [run_b h rfl]
  have e : binD k .Mult (.tup [frD 0]) (.int w) = some (rowD w fun _ => 0) := by
    show (if (w : Int).natAbs ≤ 1000 && decide ([frD 0].length ≤ 1000) then some (D.tup (repL [frD 0] (w : Int).toNat)) else none) = _
    have h1 : (w : Int).natAbs ≤ 1000 := by omega
    rw [Int.toNat_natCast, repL_one]
    simp [h1, hw, rowD]
  simp [bRest, N.hz, e]
theorem sumR_ok (N : Num T i g nu r a m z) (h : IsB T f (bSumR a) 2 4) (hk : 43 ≤ k) {n q : Nat} {x y : Nat → Rat} (hx : ∀ i, i < n → sz (x i) q) (hy : ∀ i, i < n → sz (y i) q) (hq : q ≤ 1000000) (hn : n ≤ 1000) :
    callF T k fr f [rowD n x, rowD n y] st = .ok (rowD n fun i => x i + y i) st := by
  obtain ⟨k, rfl, hk⟩ := succ_of (j := 42) hk
  rw [run_b h rfl]
  have c : ev (cfOf T k fr [] (callF T k) (cloF T k)) 58 (.comp false (.call a [.var 2, .var 3]) (.tup [.name 2, .name 3]) (.zip (.var 0) (.var 1)) none [("left", 2), ("right", 3)]) [some (rowD n x), some (rowD n y), none, none] st
      = .ok (.lst (vec n fun i => frD (x i + y i))) st := by
    rw [z_comp]
    refine compR_of (l := List.range n) (F := fun i => .tup [frD (x i), frD (y i)]) (G := fun i => frD (x i + y i)) ?_ ?_ ?_
    · simp [rowD, vec, pairs_of]
    · intro i hi
      have hi := List.mem_range.mp hi
      have ad := added_fr (k := k) (fr := fr) (st := st) N.ha N.hr N.hg (by omega) (hx i hi) (hy i hi) hq
      simp [turnC, condT, wipeE, ad]
    · simp; omega
  (simp [bSumR, -z_comp, c]) <;> rfl
theorem timR_ok (N : Num T i g nu r a m z) (h : IsB T f (bTimR z m) 2 3) (hk : 43 ≤ k) {n q : Nat} {c : Rat} {x : Nat → Rat} (hc : sz c q) (hx : ∀ i, i < n → sz (x i) q) (hq : q ≤ 1000000) (hn : n ≤ 1000) :
    callF T k fr f [frD c, rowD n x] st = .ok (rowD n fun i => c * x i) st := by
  obtain ⟨k, rfl, hk⟩ := succ_of (j := 42) hk
  rw [run_b h rfl]
  have e : ev (cfOf T k fr [] (callF T k) (cloF T k)) 58 (.comp false (.ite (.cmp .NotEq (.var 2) (.con z)) (.call m [.var 0, .var 2]) (.con z)) (.name 2) (.seq (.var 1)) none [("one", 2)]) [some (frD c), some (rowD n x), none] st
      = .ok (.lst (vec n fun i => frD (c * x i))) st := by
    rw [z_comp]
    refine compR_of (l := List.range n) (F := fun i => frD (x i)) (G := fun i => frD (c * x i)) ?_ ?_ ?_
    · simp [rowD, vec]
    · intro i hi
      have hi := List.mem_range.mp hi
      have mu := multiplied_fr (k := k) (fr := fr) (st := st) N.hm N.hr N.hg (by omega) hc (hx i hi) hq
      by_cases h0 : x i = 0
      · simp [turnC, condT, wipeE, N.hz, h0, Rat.mul_zero]
      · simp [turnC, condT, wipeE, N.hz, h0, mu]
    · simp; omega
  (simp [bTimR, -z_comp, e]) <;> rfl
theorem prod_ok (N : Num T i g nu r a m z) (h : IsB T f (bProd z a m) 2 5) (hk : 43 ≤ k) {n q : Nat} {x y : Nat → Rat} (hx : ∀ i, i < n → sz (x i) q) (hy : ∀ i, i < n → sz (y i) q) (hq : q ≤ 1000) (hn : n ≤ 150) :
    callF T k fr f [rowD n x, rowD n y] st = .ok (frD (sumN n fun i => x i * y i)) st := by
  obtain ⟨k, rfl, hk⟩ := succ_of (j := 42) hk
  rw [run_b h rfl]
  obtain ⟨X, hX⟩ : ∃ X, X = rowD n x := ⟨_, rfl⟩
  obtain ⟨Y, hY⟩ : ∃ Y, Y = rowD n y := ⟨_, rfl⟩
  have loop := forL_ok (xs := vec n fun i => D.tup [frD (x i), frD (y i)]) (f := fun x env st => (tgD (fun e env st => ev (cfOf T k fr [] (callF T k) (cloF T k)) 59 e env st) (.tup [.name 3, .name 4]) x env st).still.run env fun env st =>
      exL (ex (cfOf T k fr [] (callF T k) (cloF T k)) 59) [.ite (.and (.cmp .NotEq (.var 3) (.con z)) (.cmp .NotEq (.var 4) (.con z))) [.asg (.name 2) (.call a [.var 2, .call m [.var 3, .var 4]])] []] env st)
    (fun j env st' => st' = st ∧ ∃ o p, env = [some X, some Y, some (frD (sumN j fun i => x i * y i)), o, p]) (fun j d env st' hd => by
      rintro ⟨rfl, o, p, rfl⟩
      obtain ⟨b, hb, rfl⟩ := map_at hd
      obtain ⟨hj, rfl⟩ := range_at hb
      have sx := hx b hj
      have sy := hy b hj
      refine ⟨[some X, some Y, some (frD (sumN (b + 1) fun i => x i * y i)), some (frD (x b)), some (frD (y b))], st', .inl ?_, rfl, _, _, rfl⟩
      have mu := multiplied_fr (k := k) (fr := fr) (st := st') N.hm N.hr N.hg (by omega) sx sy (by omega)
      have s1 : sz (sumN b fun i => x i * y i) 1000000 := (sz_sumN b fun i hi => sz_mul (hx i (by omega)) (hy i (by omega))).mono (by
        have : b * (q + q + 1) ≤ 150 * 2001 := Nat.mul_le_mul (by omega) (by omega)
        omega)
      have ad := added_fr (k := k) (fr := fr) (st := st') N.ha N.hr N.hg (by omega) s1 ((sz_mul sx sy).mono (by omega)) (Nat.le_refl _)
      have su : sumN (b + 1) (fun i => x i * y i) = sumN b (fun i => x i * y i) + x b * y b := rfl
      rw [su]
      by_cases h0 : x b = 0
      · simp [N.hz, h0, Rat.zero_mul, Rat.add_zero]
      · by_cases h1 : y b = 0
        · simp [N.hz, h0, h1, Rat.mul_zero, Rat.add_zero]
        · simp [N.hz, h0, h1, mu, ad])
    (env := [some X, some Y, some (frD 0), none, none]) (st := st) ⟨rfl, _, _, rfl⟩
  obtain ⟨env', st', e, rfl, o, p, rfl⟩ := loop
  rw [vec_len] at e
  have zp : zipQ X Y st' = .ok (vec n fun i => D.tup [frD (x i), frD (y i)]) st' := by
    rw [hX, hY]
    simp [rowD, vec, pairs_of]
  rw [← hX, ← hY]
  have e1 : ex (cfOf T k fr [] (callF T k) (cloF T k)) 60 (.asg (.name 2) (.con z)) [some X, some Y, none, none, none] st' = .next [some X, some Y, some (frD 0), none, none] st' := by simp [N.hz]
  have e2 : ex (cfOf T k fr [] (callF T k) (cloF T k)) 60 (.for_ (.tup [.name 3, .name 4]) (.zip (.var 0) (.var 1)) [.ite (.and (.cmp .NotEq (.var 3) (.con z)) (.cmp .NotEq (.var 4) (.con z))) [.asg (.name 2) (.call a [.var 2, .call m [.var 3, .var 4]])] []]) [some X, some Y, some (frD 0), none, none] st'
      = .next [some X, some Y, some (frD (sumN n fun i => x i * y i)), o, p] st' := by
    rw [x_for]
    have it : itD (fun e st => ev (cfOf T k fr [] (callF T k) (cloF T k)) 59 e [some X, some Y, some (frD 0), none, none] st) (.zip (.var 0) (.var 1)) st' = .ok (vec n fun i => D.tup [frD (x i), frD (y i)]) st' := by simp [zp]
    rw [it, Res.run_ok]
    exact e
  have e3 : ex (cfOf T k fr [] (callF T k) (cloF T k)) 60 (.ret (.var 2)) [some X, some Y, some (frD (sumN n fun i => x i * y i)), o, p] st' = .ret (frD (sumN n fun i => x i * y i)) st' := by simp
  show finish none st'.length (exL (ex (cfOf T k fr [] (callF T k) (cloF T k)) 60) [_, _, _] [some X, some Y, none, none, none] st') = _
  rw [xL_cons, e1, SR.then_next, xL_cons, e2, SR.then_next, xL_cons, e3, SR.then_ret, fin_ret]
theorem ledR_ok (N : Num T i g nu r a m z) (hp : IsB T p (bProd z a m) 2 5) (h : IsB T f (bLedR p) 2 3) (hk : 44 ≤ k) {n w q : Nat} {A : Nat → Nat → Rat} {x : Nat → Rat} (hx : ∀ i, i < w → sz (x i) q) (hA : ∀ i j, i < n → j < w → sz (A i j) q) (hq : q ≤ 1000) (hn : n ≤ 150) (hw : w ≤ 150) :
    callF T k fr f [tabD n w A, rowD w x] st = .ok (rowD n fun i => sumN w fun j => x j * A i j) st := by
  obtain ⟨k, rfl, hk⟩ := succ_of (j := 43) hk
  rw [run_b h rfl]
  have c : ev (cfOf T k fr [] (callF T k) (cloF T k)) 58 (.comp false (.call p [.var 1, .var 2]) (.name 2) (.seq (.var 0)) none [("line", 2)]) [some (tabD n w A), some (rowD w x), none] st
      = .ok (.lst (vec n fun i => frD (sumN w fun j => x j * A i j))) st := by
    rw [z_comp]
    refine compR_of (l := List.range n) (F := fun i => rowD w (A i)) (G := fun i => frD (sumN w fun j => x j * A i j)) ?_ ?_ ?_
    · simp [tabD, vec]
    · intro i hi
      have hi := List.mem_range.mp hi
      have e := prod_ok (k := k) (fr := fr) (st := st) N hp (by omega) hx (fun j hj => hA i j hi hj) hq hw
      simp [turnC, condT, wipeE, e]
    · simp; omega
  (simp [bLedR, -z_comp, c]) <;> rfl
theorem ledT_ok (N : Num T i g nu r a m z) (hr : IsB T rr (bRest z) 1 1) (hs : IsB T sr (bSumR a) 2 4) (ht : IsB T tr (bTimR z m) 2 3) (h : IsB T f (bLedT z rr sr tr) 3 6) (hk : 44 ≤ k) {n w q : Nat} {A : Nat → Nat → Rat} {x : Nat → Rat}
    (hx : ∀ i, i < n → sz (x i) q) (hA : ∀ i j, i < n → j < w → sz (A i j) q) (hq : q ≤ 1000) (hn : n ≤ 150) (hw : w ≤ 150) :
    callF T k fr f [.int w, tabD n w A, rowD n x] st = .ok (rowD w fun j => sumN n fun i => x i * A i j) st := by
  obtain ⟨k, rfl, hk⟩ := succ_of (j := 43) hk
  rw [run_b h rfl]
  obtain ⟨X, hX⟩ : ∃ X, X = rowD n x := ⟨_, rfl⟩
  obtain ⟨Y, hY⟩ : ∃ Y, Y = tabD n w A := ⟨_, rfl⟩
  have loop := forL_ok (xs := vec n fun i => D.tup [frD (x i), rowD w (A i)]) (f := fun x env st => (tgD (fun e env st => ev (cfOf T k fr [] (callF T k) (cloF T k)) 59 e env st) (.tup [.name 4, .name 5]) x env st).still.run env fun env st =>
      exL (ex (cfOf T k fr [] (callF T k) (cloF T k)) 59) [.ite (.cmp .NotEq (.var 4) (.con z)) [.asg (.name 3) (.call sr [.var 3, .call tr [.var 4, .var 5]])] []] env st)
    (fun j env st' => st' = st ∧ ∃ o p, env = [some (.int w), some Y, some X, some (rowD w fun l => sumN j fun i => x i * A i l), o, p]) (fun j d env st' hd => by
      rintro ⟨rfl, o, p, rfl⟩
      obtain ⟨b, hb, rfl⟩ := map_at hd
      obtain ⟨hj, rfl⟩ := range_at hb
      have sx := hx b hj
      refine ⟨[some (.int w), some Y, some X, some (rowD w fun l => sumN (b + 1) fun i => x i * A i l), some (frD (x b)), some (rowD w (A b))], st', .inl ?_, rfl, _, _, rfl⟩
      have mu := timR_ok (k := k) (fr := fr) (st := st') N ht (by omega) sx (fun l hl => hA b l hj hl) (by omega) (by omega)
      have s1 : ∀ l, l < w → sz (sumN b fun i => x i * A i l) 1000000 := fun l hl => (sz_sumN b fun i hi => sz_mul (hx i (by omega)) (hA i l (by omega) hl)).mono (by
        have : b * (q + q + 1) ≤ 150 * 2001 := Nat.mul_le_mul (by omega) (by omega)
        omega)
      have ad := sumR_ok (k := k) (fr := fr) (st := st') N hs (by omega) s1 (fun l hl => (sz_mul sx (hA b l hj hl)).mono (by omega)) (Nat.le_refl _) (by omega)
      have su : ∀ l, sumN (b + 1) (fun i => x i * A i l) = sumN b (fun i => x i * A i l) + x b * A b l := fun l => rfl
      by_cases h0 : x b = 0
      · have e : (rowD w fun l => sumN (b + 1) fun i => x i * A i l) = rowD w fun l => sumN b fun i => x i * A i l := rowD_congr fun l _ => by
          rw [su, h0, Rat.zero_mul, Rat.add_zero]
        rw [e]
        simp [N.hz, h0]
      · simp [N.hz, h0, mu, ad, su])
    (env := [some (.int w), some Y, some X, some (rowD w fun _ => 0), none, none]) (st := st) ⟨rfl, _, _, rfl⟩
  obtain ⟨env', st', e, rfl, o, p, rfl⟩ := loop
  rw [vec_len] at e
  have zp : zipQ X Y st' = .ok (vec n fun i => D.tup [frD (x i), rowD w (A i)]) st' := by
    rw [hX, hY]
    simp [rowD, tabD, vec, pairs_of]
  have re := rest_ok (k := k) (fr := fr) (st := st') N hr (by omega) (w := w) (by omega)
  rw [← hX, ← hY]
  have e1 : ex (cfOf T k fr [] (callF T k) (cloF T k)) 60 (.asg (.name 3) (.call rr [.var 0])) [some (.int w), some Y, some X, none, none, none] st' = .next [some (.int w), some Y, some X, some (rowD w fun _ => 0), none, none] st' := by simp [re]
  have e2 : ex (cfOf T k fr [] (callF T k) (cloF T k)) 60 (.for_ (.tup [.name 4, .name 5]) (.zip (.var 2) (.var 1)) [.ite (.cmp .NotEq (.var 4) (.con z)) [.asg (.name 3) (.call sr [.var 3, .call tr [.var 4, .var 5]])] []]) [some (.int w), some Y, some X, some (rowD w fun _ => 0), none, none] st'
      = .next [some (.int w), some Y, some X, some (rowD w fun l => sumN n fun i => x i * A i l), o, p] st' := by
    rw [x_for]
    have it : itD (fun e st => ev (cfOf T k fr [] (callF T k) (cloF T k)) 59 e [some (.int w), some Y, some X, some (rowD w fun _ => 0), none, none] st) (.zip (.var 2) (.var 1)) st' = .ok (vec n fun i => D.tup [frD (x i), rowD w (A i)]) st' := by simp [zp]
    rw [it, Res.run_ok]
    exact e
  have e3 : ex (cfOf T k fr [] (callF T k) (cloF T k)) 60 (.ret (.var 3)) [some (.int w), some Y, some X, some (rowD w fun l => sumN n fun i => x i * A i l), o, p] st' = .ret (rowD w fun l => sumN n fun i => x i * A i l) st' := by simp
  show finish none st'.length (exL (ex (cfOf T k fr [] (callF T k) (cloF T k)) 60) [_, _, _] [some (.int w), some Y, some X, none, none, none] st') = _
  rw [xL_cons, e1, SR.then_next, xL_cons, e2, SR.then_next, xL_cons, e3, SR.then_ret, fin_ret]
theorem beh_ok (N : Num T i g nu r a m z) (hr : IsB T rr (bRest z) 1 1) (hs : IsB T sr (bSumR a) 2 4) (ht : IsB T tr (bTimR z m) 2 3) (hl : IsB T lt (bLedT z rr sr tr) 3 6) (h : IsB T f (bBeh lt) 3 4) (hk : 45 ≤ k) {n v w q : Nat} {A B : Nat → Nat → Rat}
    (hA : ∀ i j, i < n → j < v → sz (A i j) q) (hB : ∀ i j, i < v → j < w → sz (B i j) q) (hq : q ≤ 1000) (hn : n ≤ 150) (hv : v ≤ 150) (hw : w ≤ 150) :
    callF T k fr f [tabD n v A, tabD v w B, .int w] st = .ok (tabD n w fun i j => sumN v fun l => A i l * B l j) st := by
  obtain ⟨k, rfl, hk⟩ := succ_of (j := 44) hk
  rw [run_b h rfl]
  have c : ev (cfOf T k fr [] (callF T k) (cloF T k)) 58 (.comp false (.call lt [.var 2, .var 1, .var 3]) (.name 3) (.seq (.var 0)) none [("line", 3)]) [some (tabD n v A), some (tabD v w B), some (.int w), none] st
      = .ok (.lst (vec n fun i => rowD w fun j => sumN v fun l => A i l * B l j)) st := by
    rw [z_comp]
    refine compR_of (l := List.range n) (F := fun i => rowD v (A i)) (G := fun i => rowD w fun j => sumN v fun l => A i l * B l j) ?_ ?_ ?_
    · simp [tabD, vec]
    · intro i hi
      have hi := List.mem_range.mp hi
      have e := ledT_ok (k := k) (fr := fr) (st := st) N hr hs ht hl (by omega) (fun j hj => hA i j hi hj) hB hq hv hw
      simp [turnC, condT, wipeE, e]
    · simp; omega
  (simp [bBeh, -z_comp, c]) <;> rfl
end
end Mu

end
section
set_option linter.all false
set_option Elab.async false
/-! The numbers' defs, told by the kernel's own arithmetic. -/
namespace Mu
open PySem
/-- a number in lowest terms, not too great -/
def pairD : D → Option (Int × Int)
  | .tup [.int a, .int b] => if decide (0 < b) && Nat.beq (Nat.gcd a.natAbs b.natAbs) 1 && Nat.blt a.natAbs.log2 100000 && Nat.blt b.natAbs.log2 100000 then some (a, b) else none
  | _ => none
def redN (t b : Int) : D := .tup [.int (b.sign * t / (Int.gcd b t : Nat)), .int ((b.natAbs / Int.gcd b t : Nat) : Int)]
theorem redN_fr {t b : Int} (h : b ≠ 0) : redN t b = frD (Rat.divInt t b) := by
  unfold redN frD
  rw [Rat.num_divInt, Rat.den_divInt, if_neg h]
theorem lt_log {m n : Nat} (h : Nat.blt m.log2 n = true) : m < 2 ^ n := by
  have h : m.log2 < n := Nat.le_of_ble_eq_true h
  by_cases h0 : m = 0
  · subst h0
    exact Nat.pow_pos (by decide)
  · exact (Nat.log2_lt h0).mp h
theorem pairD_fr {u : D} {i j : Int} (h : pairD u = some (i, j)) : ∃ q : Rat, u = frD q ∧ sz q 100000 ∧ q.num = i ∧ (q.den : Int) = j := by
  unfold pairD at h
  split at h
  · rename_i a b
    split at h
    · rename_i hc
      cases h
      simp only [Bool.and_eq_true, decide_eq_true_eq] at hc
      obtain ⟨⟨⟨h1, h2⟩, h3⟩, h4⟩ := hc
      have e : ((j.toNat : Nat) : Int) = j := by omega
      have e2 : j.toNat = j.natAbs := by omega
      refine ⟨⟨i, j.toNat, by omega, ?_⟩, ?_, ⟨lt_log h3, ?_⟩, rfl, e⟩
      · have := Nat.eq_of_beq_eq_true h2
        rw [e2]
        exact this
      · show D.tup [.int i, .int j] = D.tup [.int i, .int ((j.toNat : Nat) : Int)]
        rw [e]
      · show j.toNat < _
        rw [e2]
        exact lt_log h4
    · cases h
  · cases h
def numO (a m p q : Nat) : Nat → List D → Option D := fun x ds =>
  if Nat.beq x a then match ds with
    | [u, v] => match pairD u, pairD v with
      | some (i, j), some (k, l) => some (redN (i * l + k * j) (j * l))
      | _, _ => none
    | _ => none
  else if Nat.beq x m then match ds with
    | [u, v] => match pairD u, pairD v with
      | some (i, j), some (k, l) => some (redN (i * k) (j * l))
      | _, _ => none
    | _ => none
  else if Nat.beq x p then match ds with
    | [u] => match pairD u with
      | some (i, j) => some (.tup [.int (-i), .int j])
      | none => none
    | _ => none
  else if Nat.beq x q then match ds with
    | [u, v] => match pairD u, pairD v with
      | some (i, j), some (k, l) => if k = 0 then none else some (redN (i * l) (j * k))
      | _, _ => none
    | _ => none
  else none
theorem low_fr (q : Rat) : (frD q).low 0 = true := rfl
theorem numO_ok {T : Tab} {i g nu r a m z p q : Nat} (N : Num T i g nu r a m z) (hp : IsB T p bOpp 1 1) (hq : IsB T q (bDivd r) 2 2) : OrOk T (numO a m p q) 42 := by
  intro x ds d h
  unfold numO at h
  split at h
  · rename_i hx
    rw [Nat.eq_of_beq_eq_true hx]
    split at h
    · split at h
      · rename_i h1 h2
        cases h
        obtain ⟨s, rfl, s1, rfl, rfl⟩ := pairD_fr h1
        obtain ⟨t, rfl, s2, rfl, rfl⟩ := pairD_fr h2
        have e : redN (s.num * t.den + t.num * s.den) (s.den * t.den) = frD (s + t) := by rw [redN_fr (Int.mul_ne_zero (den_ne s) (den_ne t)), add_div]
        rw [e]
        exact ⟨rfl, rfl, fun k fr st hk => added_fr N.ha N.hr N.hg hk s1 s2 (by omega)⟩
      · cases h
    · cases h
  split at h
  · rename_i hx
    rw [Nat.eq_of_beq_eq_true hx]
    split at h
    · split at h
      · rename_i h1 h2
        cases h
        obtain ⟨s, rfl, s1, rfl, rfl⟩ := pairD_fr h1
        obtain ⟨t, rfl, s2, rfl, rfl⟩ := pairD_fr h2
        have e : redN (s.num * t.num) (s.den * t.den) = frD (s * t) := by rw [redN_fr (Int.mul_ne_zero (den_ne s) (den_ne t)), mul_div]
        rw [e]
        exact ⟨rfl, rfl, fun k fr st hk => multiplied_fr N.hm N.hr N.hg hk s1 s2 (by omega)⟩
      · cases h
    · cases h
  split at h
  · rename_i hx
    rw [Nat.eq_of_beq_eq_true hx]
    split at h
    · split at h
      · rename_i h1
        cases h
        obtain ⟨s, rfl, s1, rfl, rfl⟩ := pairD_fr h1
        have e : D.tup [.int (-s.num), .int (s.den : Int)] = frD (-s) := by
          unfold frD
          rw [Rat.neg_num, Rat.neg_den]
        rw [e]
        exact ⟨rfl, rfl, fun k fr st hk => opposite_fr hp (by omega)⟩
      · cases h
    · cases h
  split at h
  · rename_i hx
    rw [Nat.eq_of_beq_eq_true hx]
    split at h
    · split at h
      · rename_i h1 h2
        split at h
        · cases h
        · rename_i h0
          cases h
          obtain ⟨s, rfl, s1, rfl, rfl⟩ := pairD_fr h1
          obtain ⟨t, rfl, s2, rfl, rfl⟩ := pairD_fr h2
          have t0 : t ≠ 0 := fun z => h0 (by rw [z]; rfl)
          have e : redN (s.num * t.den) (s.den * t.num) = frD (s / t) := by rw [redN_fr (Int.mul_ne_zero (den_ne s) h0), div_div]
          rw [e]
          exact ⟨rfl, rfl, fun k fr st hk => divided_fr hq N.hr N.hg hk s1 s2 (by omega) t0⟩
      · cases h
    · cases h
  · cases h
/-- one oracle, then another one -/
def orO (o p : Nat → List D → Option D) : Nat → List D → Option D := fun x ds => match o x ds with
  | some d => some d
  | none => p x ds
theorem orO_ok {T : Tab} {o p : Nat → List D → Option D} {k0 : Nat} (h : OrOk T o k0) (g : OrOk T p k0) : OrOk T (orO o p) k0 := by
  intro x ds d e
  unfold orO at e
  split at e
  · cases e
    exact h _ _ _ (by assumption)
  · exact g _ _ _ e
theorem OrOk.mono {T : Tab} {o : Nat → List D → Option D} {k0 k1 : Nat} (h : OrOk T o k0) (l : k0 ≤ k1) : OrOk T o k1 := fun x ds d e =>
  ⟨(h x ds d e).1, (h x ds d e).2.1, fun k fr st hk => (h x ds d e).2.2 k fr st (by omega)⟩
end Mu

end
section
set_option linter.all false
set_option Elab.async false
set_option maxRecDepth 100000
/-! The defs of the law's text, printed for the interpreter by gen2.py. -/
namespace L38
open PySem L2 Mu
def top (i : Nat) : Stmt := PySem.Challenge.pw_dearturns_k38_errors_of_least_values.main.body.getD i (.Pass ⟨0, 0, 0, 0⟩)
def d_is_integer : Fd where
  name := "is_integer"
  names := ["value"]
  ps := ["value"]
  dft := []
  lams := []
  body := [.ret (.and (.blt .isinstance [.var 0, .bty .int]) (.not (.blt .isinstance [.var 0, .bty .bool])))]
def d_common_divisor : Fd where
  name := "common_divisor"
  names := ["one", "other"]
  ps := ["one", "other"]
  dft := []
  lams := []
  body := [.par [0, 1] [.blt .abs [.var 0], .blt .abs [.var 1]], .whl (.cmp .Gt (.var 1) (.lit (.int 0))) [.par [0, 1] [.var 1, .bin .Mod (.var 0) (.var 1)]],
      .ret (.var 0)]
def d_is_number : Fd where
  name := "is_number"
  names := ["value", "one"]
  ps := ["value"]
  dft := []
  lams := []
  body := [.ite (.or (.not (.blt .isinstance [.var 0,
      .bty .tuple])) (.or (.cmp .NotEq (.blt .len [.var 0]) (.lit (.int 2))) (.not (.blt .all [.comp false (.call 0 [.var 1]) (.name 1) (.seq (.var 0)) none [("one",
      1)]])))) [.ret (.lit (.bl false))] [],
      .ret (.and (.cmp .GtE (.idx (.var 0) (.lit (.int 1))) (.lit (.int 1))) (.cmp .Eq (.call 1 [.idx (.var 0) (.lit (.int 0)),
      .idx (.var 0) (.lit (.int 1))]) (.lit (.int 1))))]
def d_reduced : Fd where
  name := "reduced"
  names := ["top", "bottom", "divisor"]
  ps := ["top", "bottom"]
  dft := []
  lams := []
  body := [.ite (.cmp .Lt (.var 1) (.lit (.int 0))) [.par [0, 1] [.bin .Sub (.lit (.int 0)) (.var 0), .bin .Sub (.lit (.int 0)) (.var 1)]] [],
      .asg (.name 2) (.call 1 [.var 0, .var 1]), .ret (.tup [.bin .FloorDiv (.var 0) (.var 2), .bin .FloorDiv (.var 1) (.var 2)])]
def d_require_count : Fd where
  name := "require_count"
  names := ["value", "least", "most"]
  ps := ["value", "least", "most"]
  dft := [.int 0, .int 60]
  lams := []
  body := [.ite (.or (.not (.call 0 [.var 0])) (.not (.cmp2 .LtE .LtE (.var 1) (.var 0) (.var 2)))) [.raise 2 (.var 0)] []]
def d_added : Fd where
  name := "added"
  names := ["one", "other"]
  ps := ["one", "other"]
  dft := []
  lams := []
  body := [.ite (.cmp2 .Eq .Eq (.idx (.var 0) (.lit (.int 1))) (.idx (.var 1) (.lit (.int 1))) (.lit (.int 1))) [.ret (.tup [.bin .Add (.idx (.var 0) (.lit (.int 0))) (.idx (.var 1) (.lit (.int 0))),
      .lit (.int 1)])] [],
      .ret (.call 3 [.bin .Add (.bin .Mult (.idx (.var 0) (.lit (.int 0))) (.idx (.var 1) (.lit (.int 1)))) (.bin .Mult (.idx (.var 1) (.lit (.int 0))) (.idx (.var 0) (.lit (.int 1)))),
      .bin .Mult (.idx (.var 0) (.lit (.int 1))) (.idx (.var 1) (.lit (.int 1)))])]
def d_multiplied : Fd where
  name := "multiplied"
  names := ["one", "other"]
  ps := ["one", "other"]
  dft := []
  lams := []
  body := [.ite (.cmp2 .Eq .Eq (.idx (.var 0) (.lit (.int 1))) (.idx (.var 1) (.lit (.int 1))) (.lit (.int 1))) [.ret (.tup [.bin .Mult (.idx (.var 0) (.lit (.int 0))) (.idx (.var 1) (.lit (.int 0))),
      .lit (.int 1)])] [], .ret (.call 3 [.bin .Mult (.idx (.var 0) (.lit (.int 0))) (.idx (.var 1) (.lit (.int 0))),
      .bin .Mult (.idx (.var 0) (.lit (.int 1))) (.idx (.var 1) (.lit (.int 1)))])]
def d_opposite : Fd where
  name := "opposite"
  names := ["one"]
  ps := ["one"]
  dft := []
  lams := []
  body := [.ret (.tup [.bin .Sub (.lit (.int 0)) (.idx (.var 0) (.lit (.int 0))), .idx (.var 0) (.lit (.int 1))])]
def d_divided : Fd where
  name := "divided"
  names := ["one", "other"]
  ps := ["one", "other"]
  dft := []
  lams := []
  body := [.ret (.call 3 [.bin .Mult (.idx (.var 0) (.lit (.int 0))) (.idx (.var 1) (.lit (.int 1))),
      .bin .Mult (.idx (.var 0) (.lit (.int 1))) (.idx (.var 1) (.lit (.int 0)))])]
def d_is_plain_row : Fd where
  name := "is_plain_row"
  names := ["width", "value", "one"]
  ps := ["width", "value"]
  dft := []
  lams := []
  body := [.ret (.and (.blt .isinstance [.var 1,
      .bty .tuple]) (.and (.cmp .Eq (.blt .len [.var 1]) (.var 0)) (.blt .all [.comp false (.call 2 [.var 2]) (.name 2) (.seq (.var 1)) none [("one",
      2)]])))]
def d_is_plain_table : Fd where
  name := "is_plain_table"
  names := ["height", "width", "value", "row"]
  ps := ["height", "width", "value"]
  dft := []
  lams := []
  body := [.ret (.and (.blt .isinstance [.var 2, .bty .tuple]) (.and (.cmp .Eq (.blt .len [.var 2]) (.var 0)) (.blt .all [.comp false (.call 9 [.var 1,
      .var 3]) (.name 3) (.seq (.var 2)) none [("row", 3)]])))]
def d_first_index : Fd where
  name := "first_index"
  names := ["row", "index", "one"]
  ps := ["row"]
  dft := []
  lams := []
  body := [.for_ (.tup [.name 1, .name 2]) (.enum (.var 0)) [.ite (.cmp .NotEq (.var 2) (.con 2)) [.ret (.var 1)] []], .ret (.lit .non)]
def d_rest_row : Fd where
  name := "rest_row"
  names := ["width"]
  ps := ["width"]
  dft := []
  lams := []
  body := [.ret (.bin .Mult (.tup [.con 2]) (.var 0))]
def d_unit_row : Fd where
  name := "unit_row"
  names := ["width", "index", "place"]
  ps := ["width", "index"]
  dft := []
  lams := []
  body := [.ret (.blt .tuple [.comp false (.ite (.cmp .Eq (.var 2) (.var 1)) (.con 5) (.con 2)) (.name 2) (.rng [.var 0]) none [("place", 2)]])]
def d_is_rest : Fd where
  name := "is_rest"
  names := ["row"]
  ps := ["row"]
  dft := []
  lams := []
  body := [.ret (.cmp .Is (.call 11 [.var 0]) (.lit .non))]
def d_sum_of_rows : Fd where
  name := "sum_of_rows"
  names := ["one", "other", "left", "right"]
  ps := ["one", "other"]
  dft := []
  lams := []
  body := [.ret (.blt .tuple [.comp false (.call 5 [.var 2, .var 3]) (.tup [.name 2, .name 3]) (.zip (.var 0) (.var 1)) none [("left", 2), ("right", 3)]])]
def d_times_row : Fd where
  name := "times_row"
  names := ["number", "row", "one"]
  ps := ["number", "row"]
  dft := []
  lams := []
  body := [.ret (.blt .tuple [.comp false (.ite (.cmp .NotEq (.var 2) (.con 2)) (.call 6 [.var 0, .var 2]) (.con 2)) (.name 2) (.seq (.var 1)) none [("one",
      2)]])]
def d_less_times : Fd where
  name := "less_times"
  names := ["row", "number", "other"]
  ps := ["row", "number", "other"]
  dft := []
  lams := []
  body := [.ret (.call 15 [.var 0, .call 16 [.call 7 [.var 1], .var 2]])]
def d_difference_of : Fd where
  name := "difference_of"
  names := ["one", "other"]
  ps := ["one", "other"]
  dft := []
  lams := []
  body := [.ret (.call 17 [.var 0, .con 5, .var 1])]
def d_product_of : Fd where
  name := "product_of"
  names := ["one", "other", "found", "left", "right"]
  ps := ["one", "other"]
  dft := []
  lams := []
  body := [.asg (.name 2) (.con 2), .for_ (.tup [.name 3,
      .name 4]) (.zip (.var 0) (.var 1)) [.ite (.and (.cmp .NotEq (.var 3) (.con 2)) (.cmp .NotEq (.var 4) (.con 2))) [.asg (.name 2) (.call 5 [.var 2,
      .call 6 [.var 3, .var 4]])] []], .ret (.var 2)]
def d_led_row : Fd where
  name := "led_row"
  names := ["table", "row", "line"]
  ps := ["table", "row"]
  dft := []
  lams := []
  body := [.ret (.blt .tuple [.comp false (.call 19 [.var 1, .var 2]) (.name 2) (.seq (.var 0)) none [("line", 2)]])]
def d_led_told : Fd where
  name := "led_told"
  names := ["width", "table", "told", "found", "number", "line"]
  ps := ["width", "table", "told"]
  dft := []
  lams := []
  body := [.asg (.name 3) (.call 12 [.var 0]), .for_ (.tup [.name 4,
      .name 5]) (.zip (.var 2) (.var 1)) [.ite (.cmp .NotEq (.var 4) (.con 2)) [.asg (.name 3) (.call 15 [.var 3, .call 16 [.var 4, .var 5]])] []],
      .ret (.var 3)]
def d_columns_of : Fd where
  name := "columns_of"
  names := ["table", "width", "index", "line"]
  ps := ["table", "width"]
  dft := []
  lams := []
  body := [.ret (.blt .tuple [.comp false (.blt .tuple [.comp false (.idx (.var 3) (.var 2)) (.name 3) (.seq (.var 0)) none [("line",
      3)]]) (.name 2) (.rng [.var 1]) none [("index", 2)]])]
def d_rest_by : Fd where
  name := "rest_by"
  names := ["lot", "row", "other", "number"]
  ps := ["lot", "row"]
  dft := []
  lams := []
  body := [.for_ (.name 2) (.seq (.var 0)) [.asg (.name 3) (.idx (.var 1) (.call 11 [.var 2])),
      .ite (.cmp .NotEq (.var 3) (.con 2)) [.asg (.name 1) (.call 17 [.var 1, .var 3, .var 2])] []], .ret (.var 1)]
def d_with_row : Fd where
  name := "with_row"
  names := ["lot", "row", "left", "index", "found", "other"]
  ps := ["lot", "row"]
  dft := []
  lams := []
  body := [.asg (.name 2) (.call 23 [.var 0, .var 1]), .asg (.name 3) (.call 11 [.var 2]), .ite (.cmp .Is (.var 3) (.lit .non)) [.ret (.var 0)] [],
      .asg (.name 2) (.call 16 [.call 8 [.con 5, .idx (.var 2) (.var 3)], .var 2]),
      .asg (.name 4) (.bin .Add (.comp false (.ite (.cmp .NotEq (.idx (.var 5) (.var 3)) (.con 2)) (.call 17 [.var 5, .idx (.var 5) (.var 3),
      .var 2]) (.var 5)) (.name 5) (.seq (.var 0)) none [("other", 5)]) (.lst [.var 2])), .ret (.blt .tuple [.srt (.var 4) (some 11)])]
def d_spanned : Fd where
  name := "spanned"
  names := ["rows", "lot", "row"]
  ps := ["rows"]
  dft := []
  lams := []
  body := [.asg (.name 1) (.tup []), .for_ (.name 2) (.seq (.var 0)) [.asg (.name 1) (.call 24 [.var 1, .var 2])], .ret (.var 1)]
def d_apart_from : Fd where
  name := "apart_from"
  names := ["width", "lot", "firsts", "found", "index", "row", "first", "other", "place"]
  ps := ["width", "lot"]
  dft := []
  lams := []
  body := [.par [2, 3] [.comp false (.call 11 [.var 5]) (.name 5) (.seq (.var 1)) none [("row", 5)], .lstR []],
      .for_ (.name 4) (.rng [.var 0]) [.ite (.cmp .NotIn (.var 4) (.var 2)) [.asg (.name 5) (.comp true (.ite (.cmp .Eq (.var 8) (.var 4)) (.con 5) (.con 2)) (.name 8) (.rng [.var 0]) none [("place",
      8)]), .for_ (.tup [.name 6, .name 7]) (.zip (.var 2) (.var 1)) [.asg (.sub (.var 5) (.var 6)) (.call 7 [.idx (.var 7) (.var 4)])],
      .expr (.bm (.var 3) .append [.blt .tuple [.var 5]])] []], .ret (.call 25 [.frz (.var 3)])]
def d_sums_of : Fd where
  name := "sums_of"
  names := ["width", "rows", "row", "many", "lot", "place", "line", "left", "index", "one"]
  ps := ["width", "rows", "row"]
  dft := []
  lams := []
  body := [.par [3, 4] [.blt .len [.var 1], .tup []], .for_ (.tup [.name 5, .name 6]) (.enum (.var 1)) [.asg (.name 7) (.call 23 [.var 4,
      .bin .Add (.var 6) (.call 13 [.var 3, .var 5])]), .asg (.name 8) (.call 11 [.var 7]),
      .ite (.cmp .Lt (.var 8) (.var 0)) [.asg (.name 7) (.call 16 [.call 8 [.con 5, .idx (.var 7) (.var 8)], .var 7]), .asg (.name 4) (.tupS [(true,
      .var 4), (false, .var 7)])] []], .asg (.name 7) (.call 23 [.var 4, .bin .Add (.var 2) (.call 12 [.var 3])]),
      .ite (.not (.call 14 [.slc (.var 7) none (some (.var 0))])) [.ret (.lit .non)] [],
      .ret (.blt .tuple [.comp false (.call 7 [.var 9]) (.name 9) (.seq (.slc (.var 7) (some (.var 0)) none)) none [("one", 9)]])]
def d_solved_by : Fd where
  name := "solved_by"
  names := ["table", "width", "wish"]
  ps := ["table", "width", "wish"]
  dft := []
  lams := []
  body := [.ret (.call 27 [.blt .len [.var 0], .call 22 [.var 0, .var 1], .var 2])]
def d_weighing_of : Fd where
  name := "weighing_of"
  names := ["rows", "wish", "told"]
  ps := ["rows", "wish"]
  dft := []
  lams := []
  body := [.for_ (.name 2) (.seq (.call 26 [.blt .len [.var 1], .call 25 [.var 0]])) [.ite (.cmp .NotEq (.call 19 [.var 1,
      .var 2]) (.con 2)) [.ret (.var 2)] []], .ret (.lit .non)]
def d_require_width : Fd where
  name := "require_width"
  names := ["width"]
  ps := ["width"]
  dft := []
  lams := []
  body := [.expr (.call 4 [.var 0, .lit (.int 0), .con 6])]
def d_require_row : Fd where
  name := "require_row"
  names := ["width", "value"]
  ps := ["width", "value"]
  dft := []
  lams := []
  body := [.ite (.not (.call 9 [.var 0, .var 1])) [.raise 0 (.lit (.str "a row of the width is expected"))] []]
def d_require_rows : Fd where
  name := "require_rows"
  names := ["width", "value", "row"]
  ps := ["width", "value"]
  dft := []
  lams := []
  body := [.ite (.or (.not (.blt .isinstance [.var 1, .bty .tuple])) (.not (.blt .all [.comp false (.call 9 [.var 0,
      .var 2]) (.name 2) (.seq (.var 1)) none [("row", 2)]]))) [.raise 0 (.lit (.str "rows of the width are expected"))] []]
def d_is_plain_form : Fd where
  name := "is_plain_form"
  names := ["width", "value"]
  ps := ["width", "value"]
  dft := []
  lams := []
  body := [.ret (.and (.call 10 [.var 0, .var 0, .var 1]) (.cmp .Eq (.call 22 [.var 1, .var 0]) (.var 1)))]
def d_require_form : Fd where
  name := "require_form"
  names := ["width", "value"]
  ps := ["width", "value"]
  dft := []
  lams := []
  body := [.ite (.not (.call 33 [.var 0, .var 1])) [.raise 1 (.lit (.str "a form is expected"))] []]
def d_nought_form : Fd where
  name := "nought_form"
  names := ["width"]
  ps := ["width"]
  dft := []
  lams := []
  body := [.ret (.bin .Mult (.tup [.call 12 [.var 0]]) (.var 0))]
def d_pair_of : Fd where
  name := "pair_of"
  names := ["form", "one", "other"]
  ps := ["form", "one", "other"]
  dft := []
  lams := []
  body := [.ret (.call 19 [.var 1, .call 20 [.var 0, .var 2]])]
def d_value_of : Fd where
  name := "value_of"
  names := ["form", "row"]
  ps := ["form", "row"]
  dft := []
  lams := []
  body := [.ret (.call 19 [.var 1, .call 20 [.var 0, .var 1]])]
def d_sum_of_forms : Fd where
  name := "sum_of_forms"
  names := ["one", "other", "first", "second"]
  ps := ["one", "other"]
  dft := []
  lams := []
  body := [.ret (.blt .tuple [.comp false (.call 15 [.var 2, .var 3]) (.tup [.name 2, .name 3]) (.zip (.var 0) (.var 1)) none [("first", 2), ("second", 3)]])]
def d_form_by : Fd where
  name := "form_by"
  names := ["number", "form", "row"]
  ps := ["number", "form"]
  dft := []
  lams := []
  body := [.ret (.blt .tuple [.comp false (.call 16 [.var 0, .var 2]) (.name 2) (.seq (.var 1)) none [("row", 2)]])]
def d_less_form : Fd where
  name := "less_form"
  names := ["one", "other"]
  ps := ["one", "other"]
  dft := []
  lams := []
  body := [.ret (.call 38 [.var 0, .call 39 [.call 7 [.con 5], .var 1]])]
def d_led_by : Fd where
  name := "led_by"
  names := ["width", "table", "form", "columns", "led", "column", "row"]
  ps := ["width", "table", "form"]
  dft := []
  lams := []
  body := [.asg (.name 3) (.call 22 [.var 1, .var 0]), .asg (.name 4) (.comp false (.call 20 [.var 2, .var 5]) (.name 5) (.seq (.var 3)) none [("column", 5)]),
      .ret (.blt .tuple [.comp false (.blt .tuple [.comp false (.call 19 [.var 5, .var 6]) (.name 6) (.seq (.var 4)) none [("row",
      6)]]) (.name 5) (.seq (.var 3)) none [("column", 5)]])]
def d_square_of : Fd where
  name := "square_of"
  names := ["row", "number"]
  ps := ["row"]
  dft := []
  lams := []
  body := [.ret (.blt .tuple [.comp false (.call 16 [.var 1, .var 0]) (.name 1) (.seq (.var 0)) none [("number", 1)]])]
def d_first_spot : Fd where
  name := "first_spot"
  names := ["form", "index", "row", "place", "number"]
  ps := ["form"]
  dft := []
  lams := []
  body := [.for_ (.tup [.name 1, .name 2]) (.enum (.var 0)) [.ite (.cmp .NotEq (.idx (.var 2) (.var 1)) (.con 2)) [.ret (.tup [.var 1, .var 1])] []],
      .for_ (.tup [.name 1, .name 2]) (.enum (.var 0)) [.for_ (.tup [.name 3,
      .name 4]) (.enum (.var 2)) [.ite (.cmp .NotEq (.var 4) (.con 2)) [.ret (.tup [.var 1, .var 3])] []]], .ret (.lit .non)]
def d_squares_of : Fd where
  name := "squares_of"
  names := ["form", "found", "left", "spot", "one", "other", "number", "more", "part"]
  ps := ["form"]
  dft := []
  lams := []
  body := [.par [1, 2] [.lstR [], .var 0], .whl (.lit (.bl true)) [.asg (.name 3) (.call 43 [.var 2]),
      .ite (.cmp .Is (.var 3) (.lit .non)) [.ret (.blt .tuple [.var 1])] [], .par [4, 5] [.idx (.var 2) (.idx (.var 3) (.lit (.int 0))),
      .idx (.var 2) (.idx (.var 3) (.lit (.int 1)))], .asg (.name 6) (.idx (.var 4) (.idx (.var 3) (.lit (.int 1)))),
      .ite (.cmp .Eq (.idx (.var 3) (.lit (.int 0))) (.idx (.var 3) (.lit (.int 1)))) [.asg (.name 7) (.lst [.tup [.var 6, .call 16 [.call 8 [.con 5,
      .var 6], .var 4]]])] [.asg (.name 8) (.call 8 [.con 5, .call 6 [.tup [.lit (.int 2), .lit (.int 1)], .var 6]]), .asg (.name 7) (.lst [.tup [.var 8,
      .call 15 [.var 4, .var 5]], .tup [.call 7 [.var 8], .call 18 [.var 4, .var 5]]])], .expr (.bm (.var 1) .extend [.var 7]),
      .asg (.name 2) (.call 40 [.var 2, .call 45 [.blt .len [.var 0], .var 7]])]]
def d_form_of : Fd where
  name := "form_of"
  names := ["width", "squares", "found", "number", "row"]
  ps := ["width", "squares"]
  dft := []
  lams := []
  body := [.asg (.name 2) (.call 35 [.var 0]), .for_ (.tup [.name 3, .name 4]) (.seq (.var 1)) [.asg (.name 2) (.call 38 [.var 2, .call 39 [.var 3,
      .call 42 [.var 4]]])], .ret (.var 2)]
def d_null_of : Fd where
  name := "null_of"
  names := ["width", "form"]
  ps := ["width", "form"]
  dft := []
  lams := []
  body := [.ret (.call 26 [.var 0, .call 25 [.var 1]])]
def d_is_not_below : Fd where
  name := "is_not_below"
  names := ["form", "number", "row"]
  ps := ["form"]
  dft := []
  lams := []
  body := [.ret (.blt .all [.comp false (.cmp .Gt (.idx (.var 1) (.lit (.int 0))) (.lit (.int 0))) (.tup [.name 1,
      .name 2]) (.seq (.call 44 [.var 0])) none [("number", 1), ("row", 2)]])]
def d_row_below : Fd where
  name := "row_below"
  names := ["width", "form", "squares", "place", "pair", "wish", "index", "number", "row"]
  ps := ["width", "form"]
  dft := []
  lams := []
  body := [.asg (.name 2) (.call 44 [.var 1]), .for_ (.tup [.name 3,
      .name 4]) (.enum (.var 2)) [.ite (.cmp .Lt (.idx (.idx (.var 4) (.lit (.int 0))) (.lit (.int 0))) (.lit (.int 0))) [.asg (.name 5) (.blt .tuple [.comp false (.ite (.cmp .Eq (.var 6) (.var 3)) (.con 5) (.con 2)) (.name 6) (.rng [.blt .len [.var 2]]) none [("index",
      6)]]), .ret (.call 28 [.blt .tuple [.comp false (.var 8) (.tup [.name 7, .name 8]) (.seq (.var 2)) none [("number", 7), ("row", 8)]], .var 0,
      .var 5])] []], .ret (.lit .non)]
def d_require_task : Fd where
  name := "require_task"
  names := ["width", "form", "line", "rules", "wish"]
  ps := ["width", "form", "line", "rules", "wish"]
  dft := []
  lams := []
  body := [.expr (.call 30 [.var 0]), .expr (.call 34 [.var 0, .var 1]), .expr (.call 31 [.var 0, .var 2]), .expr (.call 32 [.var 0, .var 3]),
      .ite (.cmp .Gt (.blt .len [.var 3]) (.con 6)) [.raise 0 (.lit (.str "fewer rules are expected"))] [], .expr (.call 31 [.blt .len [.var 3], .var 4])]
def d_worth_of : Fd where
  name := "worth_of"
  names := ["form", "line", "row"]
  ps := ["form", "line", "row"]
  dft := []
  lams := []
  body := [.ret (.call 5 [.call 37 [.var 0, .var 2], .call 6 [.con 1, .call 19 [.var 1, .var 2]]])]
def d_slope_of : Fd where
  name := "slope_of"
  names := ["form", "line", "row", "step"]
  ps := ["form", "line", "row", "step"]
  dft := []
  lams := []
  body := [.ret (.call 5 [.call 36 [.var 0, .var 2, .var 3], .call 19 [.var 1, .var 3]])]
def d_fitting : Fd where
  name := "fitting"
  names := ["width", "rules", "wish"]
  ps := ["width", "rules", "wish"]
  dft := []
  lams := []
  body := [.ret (.call 28 [.var 1, .var 0, .var 2])]
def d_free_lot : Fd where
  name := "free_lot"
  names := ["width", "rules"]
  ps := ["width", "rules"]
  dft := []
  lams := []
  body := [.ret (.call 26 [.var 0, .call 25 [.var 1]])]
def d_led_out : Fd where
  name := "led_out"
  names := ["width", "lot", "row"]
  ps := ["width", "lot", "row"]
  dft := []
  lams := []
  body := [.ret (.call 21 [.var 0, .var 1, .var 2])]
def d_on_lot : Fd where
  name := "on_lot"
  names := ["width", "form", "lot"]
  ps := ["width", "form", "lot"]
  dft := []
  lams := []
  body := [.ret (.call 41 [.blt .len [.var 2], .call 22 [.var 2, .var 0], .var 1])]
def d_falling_step : Fd where
  name := "falling_step"
  names := ["width", "form", "line", "rules", "row", "lot", "inner", "numbers", "step"]
  ps := ["width", "form", "line", "rules", "row"]
  dft := []
  lams := []
  body := [.asg (.name 5) (.call 53 [.var 0, .var 3]), .asg (.name 6) (.call 55 [.var 0, .var 1, .var 5]), .asg (.name 7) (.call 48 [.blt .len [.var 5],
      .var 6]), .ite (.cmp .IsNot (.var 7) (.lit .non)) [.ret (.call 54 [.var 0, .var 5, .var 7])] [], .for_ (.name 7) (.seq (.call 46 [.blt .len [.var 5],
      .var 6])) [.asg (.name 8) (.call 54 [.var 0, .var 5, .var 7]), .ite (.cmp .NotEq (.call 51 [.var 1, .var 2, .var 4,
      .var 8]) (.con 2)) [.ret (.var 8)] []], .ret (.lit .non)]
def d_lowered : Fd where
  name := "lowered"
  names := ["width", "form", "line", "rules", "row", "lot", "inner", "wish", "step"]
  ps := ["width", "form", "line", "rules", "row"]
  dft := []
  lams := []
  body := [.asg (.name 5) (.call 53 [.var 0, .var 3]), .asg (.name 6) (.call 55 [.var 0, .var 1, .var 5]),
      .asg (.name 7) (.blt .tuple [.comp false (.call 7 [.call 51 [.var 1, .var 2, .var 4, .var 8]]) (.name 8) (.seq (.var 5)) none [("step", 8)]]),
      .ret (.call 15 [.var 4, .call 54 [.var 0, .var 5, .call 28 [.var 6, .blt .len [.var 5], .var 7]]])]
def d_weighing_for : Fd where
  name := "weighing_for"
  names := ["width", "form", "line", "rules", "row"]
  ps := ["width", "form", "line", "rules", "row"]
  dft := []
  lams := []
  body := [.ret (.call 28 [.call 22 [.var 3, .var 0], .blt .len [.var 3], .call 15 [.call 20 [.var 1, .var 4], .var 2]])]
def d_paper_for : Fd where
  name := "paper_for"
  names := ["width", "form", "line", "rules", "wish", "row", "step"]
  ps := ["width", "form", "line", "rules", "wish"]
  dft := []
  lams := []
  body := [.asg (.name 5) (.call 52 [.var 0, .var 3, .var 4]), .ite (.cmp .Is (.var 5) (.lit .non)) [.ret (.tup [.con 3, .call 29 [.call 22 [.var 3, .var 0],
      .var 4]])] [], .asg (.name 6) (.call 56 [.var 0, .var 1, .var 2, .var 3, .var 5]), .ite (.cmp .IsNot (.var 6) (.lit .non)) [.ret (.tup [.con 4,
      .var 5, .var 6])] [], .asg (.name 5) (.call 57 [.var 0, .var 1, .var 2, .var 3, .var 5]), .ret (.tup [.con 0, .var 5, .call 58 [.var 0, .var 1,
      .var 2, .var 3, .var 5]])]
def d_does_fit : Fd where
  name := "does_fit"
  names := ["rules", "wish", "row"]
  ps := ["rules", "wish", "row"]
  dft := []
  lams := []
  body := [.ret (.cmp .Eq (.call 20 [.var 0, .var 2]) (.var 1))]
def d_is_least_of : Fd where
  name := "is_least_of"
  names := ["width", "form", "line", "rules", "wish", "row", "weighing"]
  ps := ["width", "form", "line", "rules", "wish", "row", "weighing"]
  dft := []
  lams := []
  body := [.ite (.or (.not (.call 9 [.var 0, .var 5])) (.or (.not (.call 9 [.blt .len [.var 3], .var 6])) (.not (.call 60 [.var 3, .var 4,
      .var 5])))) [.ret (.lit (.bl false))] [], .ite (.cmp .NotEq (.call 15 [.call 20 [.var 1, .var 5], .var 2]) (.call 21 [.var 0, .var 3,
      .var 6])) [.ret (.lit (.bl false))] [], .ret (.call 47 [.call 55 [.var 0, .var 1, .call 53 [.var 0, .var 3]]])]
def d_is_fall_of : Fd where
  name := "is_fall_of"
  names := ["width", "form", "line", "rules", "wish", "row", "step", "number"]
  ps := ["width", "form", "line", "rules", "wish", "row", "step"]
  dft := []
  lams := []
  body := [.ite (.or (.not (.call 9 [.var 0, .var 5])) (.or (.not (.call 9 [.var 0, .var 6])) (.not (.call 60 [.var 3, .var 4,
      .var 5])))) [.ret (.lit (.bl false))] [], .ite (.not (.call 14 [.call 20 [.var 3, .var 6]])) [.ret (.lit (.bl false))] [],
      .asg (.name 7) (.call 37 [.var 1, .var 6]),
      .ret (.or (.cmp .Lt (.idx (.var 7) (.lit (.int 0))) (.lit (.int 0))) (.and (.cmp .Eq (.var 7) (.con 2)) (.cmp .NotEq (.call 51 [.var 1, .var 2,
      .var 5, .var 6]) (.con 2))))]
def d_is_none_of : Fd where
  name := "is_none_of"
  names := ["width", "rules", "wish", "weighing"]
  ps := ["width", "rules", "wish", "weighing"]
  dft := []
  lams := []
  body := [.ite (.or (.not (.call 9 [.blt .len [.var 1], .var 3])) (.cmp .Eq (.call 19 [.var 3, .var 2]) (.con 2))) [.ret (.lit (.bl false))] [],
      .ret (.call 14 [.call 21 [.var 0, .var 1, .var 3]])]
def d_least_paper : Fd where
  name := "least_paper"
  names := ["width", "form", "line", "rules", "wish"]
  ps := ["width", "form", "line", "rules", "wish"]
  dft := []
  lams := []
  body := [.expr (.call 49 [.var 0, .var 1, .var 2, .var 3, .var 4]), .ret (.call 59 [.var 0, .var 1, .var 2, .var 3, .var 4])]
def d_is_least_paper : Fd where
  name := "is_least_paper"
  names := ["width", "form", "line", "rules", "wish", "value"]
  ps := ["width", "form", "line", "rules", "wish", "value"]
  dft := []
  lams := []
  body := [.expr (.call 49 [.var 0, .var 1, .var 2, .var 3, .var 4]), .ite (.or (.not (.blt .isinstance [.var 5,
      .bty .tuple])) (.or (.cmp .NotIn (.blt .len [.var 5]) (.tup [.lit (.int 2), .lit (.int 3)])) (.not (.blt .isinstance [.idx (.var 5) (.lit (.int 0)),
      .bty .str])))) [.ret (.lit (.bl false))] [],
      .ite (.cmp .Eq (.blt .len [.var 5]) (.lit (.int 2))) [.ret (.and (.cmp .Eq (.idx (.var 5) (.lit (.int 0))) (.con 3)) (.call 63 [.var 0, .var 3,
      .var 4, .idx (.var 5) (.lit (.int 1))]))] [], .ite (.cmp .Eq (.idx (.var 5) (.lit (.int 0))) (.con 0)) [.ret (.call 61 [.var 0, .var 1, .var 2,
      .var 3, .var 4, .idx (.var 5) (.lit (.int 1)), .idx (.var 5) (.lit (.int 2))])] [],
      .ret (.and (.cmp .Eq (.idx (.var 5) (.lit (.int 0))) (.con 4)) (.call 62 [.var 0, .var 1, .var 2, .var 3, .var 4, .idx (.var 5) (.lit (.int 1)),
      .idx (.var 5) (.lit (.int 2))]))]
def d_least_worth : Fd where
  name := "least_worth"
  names := ["width", "form", "line", "rules", "wish", "paper"]
  ps := ["width", "form", "line", "rules", "wish"]
  dft := []
  lams := []
  body := [.expr (.call 49 [.var 0, .var 1, .var 2, .var 3, .var 4]), .asg (.name 5) (.call 59 [.var 0, .var 1, .var 2, .var 3, .var 4]),
      .ret (.ite (.cmp .Eq (.idx (.var 5) (.lit (.int 0))) (.con 0)) (.call 50 [.var 1, .var 2, .idx (.var 5) (.lit (.int 1))]) (.lit .non))]
def d_least_rows : Fd where
  name := "least_rows"
  names := ["width", "form", "line", "rules", "wish", "paper", "lot", "steps", "numbers"]
  ps := ["width", "form", "line", "rules", "wish"]
  dft := []
  lams := []
  body := [.expr (.call 49 [.var 0, .var 1, .var 2, .var 3, .var 4]), .asg (.name 5) (.call 59 [.var 0, .var 1, .var 2, .var 3, .var 4]),
      .ite (.cmp .NotEq (.idx (.var 5) (.lit (.int 0))) (.con 0)) [.ret (.lit .non)] [], .asg (.name 6) (.call 53 [.var 0, .var 3]),
      .asg (.name 7) (.comp false (.call 54 [.var 0, .var 6, .var 8]) (.name 8) (.seq (.call 46 [.blt .len [.var 6], .call 55 [.var 0, .var 1,
      .var 6]])) none [("numbers", 8)]), .ret (.tup [.idx (.var 5) (.lit (.int 1)), .call 25 [.var 7]])]
def d_worth : Fd where
  name := "worth"
  names := ["width", "form", "line", "row"]
  ps := ["width", "form", "line", "row"]
  dft := []
  lams := []
  body := [.expr (.call 30 [.var 0]), .expr (.call 34 [.var 0, .var 1]), .expr (.call 31 [.var 0, .var 2]), .expr (.call 31 [.var 0, .var 3]),
      .ret (.call 50 [.var 1, .var 2, .var 3])]
def d__law_dice : Fd where
  name := "_law_dice"
  names := ["script", "spot", "cell", "great", "seed"]
  ps := ["script", "spot"]
  dft := []
  lams := []
  body := [.asg (.name 2) (.ite (.cmp .Lt (.var 1) (.blt .len [.var 0])) (.blt .int [.idx (.var 0) (.var 1)]) (.bin .Add (.bin .Mult (.lit (.int 131)) (.var 1)) (.lit (.int 37)))),
      .asg (.name 3) (.bin .Mod (.blt .int [.blt .abs [.var 2]]) (.bin .Pow (.bin .Pow (.lit (.int 10)) (.lit (.int 53))) (.lit (.int 6)))),
      .asg (.name 4) (.bin .Add (.bin .Add (.bin .Add (.bin .Mult (.bin .Mod (.var 3) (.lit (.int 2305843009213693907))) (.lit (.int 73))) (.bin .Mult (.lit (.int 619)) (.var 1))) (.bin .Mult (.lit (.int 41)) (.blt .int [.cmp .Lt (.var 2) (.lit (.int 0))]))) (.lit (.int 17))),
      .ret (.lstR [.blt .max [.lit (.int 0), .bin .Sub (.var 3) (.bin .Pow (.lit (.int 10)) (.lit (.int 16)))], .var 4, .lit (.int 0)])]
def d__law_roll : Fd where
  name := "_law_roll"
  names := ["dice", "total", "found", "one", "two"]
  ps := ["dice", "total"]
  dft := []
  lams := []
  body := [.ite (.cmp .Gt (.idx (.var 0) (.lit (.int 0))) (.lit (.int 0))) [.asg (.name 2) (.bin .Mod (.idx (.var 0) (.lit (.int 0))) (.var 1)),
      .asg (.sub (.var 0) (.lit (.int 0))) (.bin .FloorDiv (.idx (.var 0) (.lit (.int 0))) (.var 1)), .ret (.blt .int [.var 2])] [],
      .asg (.sub (.var 0) (.lit (.int 2))) (.bin .Add (.idx (.var 0) (.lit (.int 2))) (.lit (.int 1))),
      .asg (.name 3) (.bin .Mod (.bin .Add (.idx (.var 0) (.lit (.int 1))) (.bin .Mult (.lit (.int 49979687)) (.idx (.var 0) (.lit (.int 2))))) (.lit (.int 2305843009213693951))),
      .asg (.name 4) (.bin .Add (.bin .Mult (.bin .Mod (.bin .Add (.bin .Mult (.var 3) (.var 3)) (.bin .Mult (.lit (.int 131)) (.idx (.var 0) (.lit (.int 2))))) (.lit (.int 2305843009213693921))) (.lit (.int 32452843))) (.var 3)),
      .ret (.bin .Mod (.blt .int [.bin .FloorDiv (.var 4) (.lit (.int 65587))]) (.var 1))]
def d__law_pick : Fd where
  name := "_law_pick"
  names := ["dice", "things"]
  ps := ["dice", "things"]
  dft := []
  lams := []
  body := [.ret (.idx (.var 1) (.call 70 [.var 0, .blt .len [.var 1]]))]
def d__law_word : Fd where
  name := "_law_word"
  names := ["call", "error"]
  ps := ["call"]
  dft := []
  lams := []
  body := [.try_ [.expr (.callv 0 [])] [⟨1, none, (.ret (.str "form"))⟩, ⟨0, none, (.ret (.str "row"))⟩, ⟨2, (some 1), (.retR "count " 0)⟩],
      .ret (.lit (.str "fine"))]
def d__law_right : Fd where
  name := "_law_right"
  names := ["dice", "one", "nought", "odd", "form", "row", "rules", "wish", "fine", "line", "some", "call", "calls", "words", "values", "each", "value"]
  ps := ["dice"]
  dft := []
  lams := [.callv 11 [.var 3, .var 4, .var 5, .var 6, .var 7], .callv 11 [.lit (.int 2), .var 4, .var 5, .var 6, .var 7], .callv 11 [.lit (.int 2), .var 8,
      .var 5, .var 6, .var 7], .callv 11 [.lit (.int 2), .var 8, .var 9, .var 6, .var 7], .callv 11 [.lit (.int 2), .var 8, .var 9, .var 10, .var 7],
      .callv 11 [.lit (.int 2), .var 8, .var 9, .var 10, .tup [.var 1]], .callv 11 [.lit (.int 2), .var 8, .var 9, .tup [], .tup []], .call 68 [.var 3,
      .var 4, .var 5, .var 5], .call 68 [.lit (.int 2), .var 4, .var 5, .var 5], .call 68 [.lit (.int 2), .var 8, .var 5, .var 5], .call 68 [.lit (.int 2),
      .var 8, .var 9, .var 5], .call 65 [.var 3, .var 4, .var 5, .var 6, .var 7, .lit .non], .call 65 [.lit (.int 2), .var 4, .var 5, .var 6, .var 7,
      .lit .non], .call 65 [.lit (.int 2), .var 8, .var 9, .var 10, .var 7, .lit .non]]
  body := [.asg (.tup [.name 1, .name 2]) (.tup [.tup [.lit (.int 1), .lit (.int 1)], .tup [.lit (.int 0), .lit (.int 1)]]), .asg (.name 3) (.call 71 [.var 0,
      .lst [.lit .non, .neg (.lit (.int 1)), .lit (.int 145), .lit (.bl true), .lit (.str "1"), .bin .Pow (.lit (.int 10)) (.lit (.int 20))]]),
      .asg (.name 4) (.call 71 [.var 0, .lst [.lit .non, .tup [], .tup [.tup [.var 1]], .tup [.tup [.var 1, .var 2], .tup [.var 1, .var 1]],
      .lst [.tup [.var 1, .var 2], .tup [.var 2, .var 1]], .tup [.tup [.var 1, .var 2], .tup [.var 2, .tup [.lit (.int 2), .lit (.int 2)]]],
      .tup [.tup [.var 1, .lit (.int 1)], .tup [.lit (.int 1), .var 1]], .lit (.str "form")]]), .asg (.name 5) (.call 71 [.var 0, .lst [.lit .non, .tup [],
      .tup [.var 1], .lst [.var 1, .var 1], .tup [.var 1, .tup [.lit (.int 2), .lit (.int 2)]], .tup [.var 1, .lit (.int 1)], .tup [.var 1, .var 1,
      .var 1]]]), .asg (.name 6) (.call 71 [.var 0, .lst [.lit .non, .lst [], .tup [.tup [.var 1]], .lst [.tup [.var 1, .var 1]], .tup [.tup [.var 1,
      .lit (.int 1)]], .tup [.var 5], .lit (.str "rules"), .bin .Mult (.tup [.tup [.var 1, .var 1]]) (.lit (.int 145))]]),
      .asg (.name 7) (.call 71 [.var 0, .lst [.lit .non, .tup [], .tup [.var 1, .var 1], .lst [.var 1], .tup [.lit (.int 1)], .tup [.tup [.lit (.int 2),
      .lit (.int 2)]]]]), .asg (.tup [.name 8, .name 9, .name 10]) (.tup [.tup [.tup [.var 1, .var 2], .tup [.var 2, .var 1]], .tup [.var 1, .var 2],
      .tup [.tup [.var 1, .var 1]]]), .for_ (.name 11) (.seq (.tup [.gfn 64, .gfn 66, .gfn 67])) [.asg (.name 12) (.lst [.lam 0, .lam 1, .lam 2, .lam 3,
      .lam 4, .lam 5, .lam 6]), .asg (.name 13) (.lst [.bin .Add (.lit (.str "count ")) (.blt .repr [.var 3]), .lit (.str "form"), .lit (.str "row"),
      .lit (.str "row"), .lit (.str "row"), .lit (.str "fine"), .lit (.str "fine")]),
      .ite (.cmp .NotEq (.comp false (.call 72 [.var 15]) (.name 15) (.seq (.var 12)) none [("each", 15)]) (.var 13)) [.ret (.lit (.bl false))] []],
      .asg (.name 12) (.lst [.lam 7, .lam 8, .lam 9, .lam 10, .lam 11, .lam 12, .lam 13]),
      .asg (.name 13) (.lst [.bin .Add (.lit (.str "count ")) (.blt .repr [.var 3]), .lit (.str "form"), .lit (.str "row"), .lit (.str "row"),
      .bin .Add (.lit (.str "count ")) (.blt .repr [.var 3]), .lit (.str "form"), .lit (.str "row")]),
      .ite (.cmp .NotEq (.comp false (.call 72 [.var 11]) (.name 11) (.seq (.var 12)) none [("call", 11)]) (.var 13)) [.ret (.lit (.bl false))] [],
      .asg (.name 14) (.lstR [.lit .non, .lit (.int 0), .tup [], .lit (.str "least"), .tup [.lit (.str "least")], .tup [.lit (.str "least"), .lit .non,
      .lit .non], .tup [.lit (.str "least"), .var 9], .tup [.lit (.str "falls"), .var 9, .var 9], .lit (.dic [] [])]),
      .asg (.name 14) (.catR (.var 14) (.lst [.lst [.lit (.int 1), .lit (.int 2), .lit (.int 3)], .tup [.lit (.str "none"), .tup [.var 1]],
      .tup [.lit (.str "none"), .lit .non], .tup [.lit (.str "none"), .tup []], .tup [.lit (.int 0), .lit (.int 0)], .tup [.lit (.int 0), .lit (.int 0),
      .lit (.int 0)]])), .expr (.bm (.var 14) .append [.tup [.lit (.str "falls"), .lit .non, .lit .non]]),
      .asg (.name 14) (.catR (.var 14) (.lst [.tup [.lit (.str "least"), .tup [], .tup []], .tup [.lit (.str "least"), .var 9, .tup [.var 1]],
      .tup [.lit (.str "none"), .tup [.var 2]]])), .expr (.bm (.var 14) .append [.tup [.lit (.str "falls"), .tup [.var 1, .var 1], .tup [.var 2,
      .var 2]]]), .ret (.cmp .Eq (.comp false (.var 16) (.name 16) (.seq (.frz (.var 14))) (some (.cmp .IsNot (.call 65 [.lit (.int 2), .var 8, .var 9,
      .var 10, .tup [.tup [.lit (.int 3), .lit (.int 1)]], .var 16]) (.lit (.bl false)))) [("value", 16)]) (.lst []))]
def d_law : Fd where
  name := "law"
  names := ["script", "spot", "dice", "turn", "one", "rules", "wish"]
  ps := ["script"]
  dft := []
  lams := []
  body := [.for_ (.name 1) (.rng [.blt .max [.lit (.int 1), .blt .min [.lit (.int 5), .blt .len [.var 0]]]]) [.asg (.name 2) (.call 69 [.var 0, .var 1]),
      .for_ (.name 3) (.rng [.lit (.int 5)]) [.ite (.not (.call 73 [.var 2])) [.ret (.lit (.bl false))] []]], .asg (.name 4) (.tup [.lit (.int 1),
      .lit (.int 1)]), .par [5, 6] [.bin .Mult (.tup [.tup [.var 4]]) (.lit (.int 144)), .bin .Mult (.tup [.var 4]) (.lit (.int 144))],
      .ret (.and (.cmp .Eq (.call 66 [.lit (.int 1), .tup [.tup [.var 4]], .tup [.tup [.lit (.int 0), .lit (.int 1)]], .var 5,
      .var 6]) (.var 4)) (.cmp .Eq (.call 66 [.lit (.int 0), .tup [], .tup [], .tup [], .tup []]) (.tup [.lit (.int 0), .lit (.int 1)])))]
def con : List (Str × D) :=
  [("LEAST", .str "least"), ("TWICE", .tup [.int 2, .int 1]), ("NOUGHT", .tup [.int 0, .int 1]), ("NONE", .str "none"), ("FALLS", .str "falls"), ("ONE",
      .tup [.int 1, .int 1]), ("MAX_WIDTH", .int 144)]
def T : Tab where
  fns := [d_is_integer, d_common_divisor, d_is_number, d_reduced, d_require_count, d_added, d_multiplied, d_opposite, d_divided, d_is_plain_row,
      d_is_plain_table, d_first_index, d_rest_row, d_unit_row, d_is_rest, d_sum_of_rows, d_times_row, d_less_times, d_difference_of, d_product_of,
      d_led_row, d_led_told, d_columns_of, d_rest_by, d_with_row, d_spanned, d_apart_from, d_sums_of, d_solved_by, d_weighing_of, d_require_width,
      d_require_row, d_require_rows, d_is_plain_form, d_require_form, d_nought_form, d_pair_of, d_value_of, d_sum_of_forms, d_form_by, d_less_form,
      d_led_by, d_square_of, d_first_spot, d_squares_of, d_form_of, d_null_of, d_is_not_below, d_row_below, d_require_task, d_worth_of, d_slope_of,
      d_fitting, d_free_lot, d_led_out, d_on_lot, d_falling_step, d_lowered, d_weighing_for, d_paper_for, d_does_fit, d_is_least_of, d_is_fall_of,
      d_is_none_of, d_least_paper, d_is_least_paper, d_least_worth, d_least_rows, d_worth, d__law_dice, d__law_roll, d__law_pick, d__law_word,
      d__law_right, d_law]
  cls := [⟨"InvalidRow", [0, 3], some ⟨none, false⟩, none, [], [], none⟩, ⟨"InvalidForm", [1, 3], some ⟨none, false⟩, none, [], [], none⟩, ⟨"InvalidCount", [2],
      some ⟨some 0, true⟩, none, [], [], none⟩, ⟨"CostError", [3], some ⟨none, false⟩, none, [], [], none⟩]
  con := con
  att := ["given"]
theorem c_is_integer : fdB T d_is_integer (top 9) = true := by decide +kernel
theorem c_common_divisor : fdB T d_common_divisor (top 10) = true := by decide +kernel
theorem c_is_number : fdB T d_is_number (top 11) = true := by decide +kernel
theorem c_reduced : fdB T d_reduced (top 12) = true := by decide +kernel
theorem c_require_count : fdB T d_require_count (top 13) = true := by decide +kernel
theorem c_added : fdB T d_added (top 14) = true := by decide +kernel
theorem c_multiplied : fdB T d_multiplied (top 15) = true := by decide +kernel
theorem c_opposite : fdB T d_opposite (top 16) = true := by decide +kernel
theorem c_divided : fdB T d_divided (top 17) = true := by decide +kernel
theorem c_is_plain_row : fdB T d_is_plain_row (top 19) = true := by decide +kernel
theorem c_is_plain_table : fdB T d_is_plain_table (top 20) = true := by decide +kernel
theorem c_first_index : fdB T d_first_index (top 21) = true := by decide +kernel
theorem c_rest_row : fdB T d_rest_row (top 22) = true := by decide +kernel
theorem c_unit_row : fdB T d_unit_row (top 23) = true := by decide +kernel
theorem c_is_rest : fdB T d_is_rest (top 24) = true := by decide +kernel
theorem c_sum_of_rows : fdB T d_sum_of_rows (top 25) = true := by decide +kernel
theorem c_times_row : fdB T d_times_row (top 26) = true := by decide +kernel
theorem c_less_times : fdB T d_less_times (top 27) = true := by decide +kernel
theorem c_difference_of : fdB T d_difference_of (top 28) = true := by decide +kernel
theorem c_product_of : fdB T d_product_of (top 29) = true := by decide +kernel
theorem c_led_row : fdB T d_led_row (top 30) = true := by decide +kernel
theorem c_led_told : fdB T d_led_told (top 31) = true := by decide +kernel
theorem c_columns_of : fdB T d_columns_of (top 32) = true := by decide +kernel
theorem c_rest_by : fdB T d_rest_by (top 33) = true := by decide +kernel
theorem c_with_row : fdB T d_with_row (top 34) = true := by decide +kernel
theorem c_spanned : fdB T d_spanned (top 35) = true := by decide +kernel
theorem c_apart_from : fdB T d_apart_from (top 36) = true := by decide +kernel
theorem c_sums_of : fdB T d_sums_of (top 37) = true := by decide +kernel
theorem c_solved_by : fdB T d_solved_by (top 38) = true := by decide +kernel
theorem c_weighing_of : fdB T d_weighing_of (top 39) = true := by decide +kernel
theorem c_require_width : fdB T d_require_width (top 42) = true := by decide +kernel
theorem c_require_row : fdB T d_require_row (top 43) = true := by decide +kernel
theorem c_require_rows : fdB T d_require_rows (top 44) = true := by decide +kernel
theorem c_is_plain_form : fdB T d_is_plain_form (top 46) = true := by decide +kernel
theorem c_require_form : fdB T d_require_form (top 47) = true := by decide +kernel
theorem c_nought_form : fdB T d_nought_form (top 48) = true := by decide +kernel
theorem c_pair_of : fdB T d_pair_of (top 49) = true := by decide +kernel
theorem c_value_of : fdB T d_value_of (top 50) = true := by decide +kernel
theorem c_sum_of_forms : fdB T d_sum_of_forms (top 51) = true := by decide +kernel
theorem c_form_by : fdB T d_form_by (top 52) = true := by decide +kernel
theorem c_less_form : fdB T d_less_form (top 53) = true := by decide +kernel
theorem c_led_by : fdB T d_led_by (top 54) = true := by decide +kernel
theorem c_square_of : fdB T d_square_of (top 55) = true := by decide +kernel
theorem c_first_spot : fdB T d_first_spot (top 56) = true := by decide +kernel
theorem c_squares_of : fdB T d_squares_of (top 57) = true := by decide +kernel
theorem c_form_of : fdB T d_form_of (top 58) = true := by decide +kernel
theorem c_null_of : fdB T d_null_of (top 59) = true := by decide +kernel
theorem c_is_not_below : fdB T d_is_not_below (top 60) = true := by decide +kernel
theorem c_row_below : fdB T d_row_below (top 61) = true := by decide +kernel
theorem c_require_task : fdB T d_require_task (top 67) = true := by decide +kernel
theorem c_worth_of : fdB T d_worth_of (top 68) = true := by decide +kernel
theorem c_slope_of : fdB T d_slope_of (top 69) = true := by decide +kernel
theorem c_fitting : fdB T d_fitting (top 70) = true := by decide +kernel
theorem c_free_lot : fdB T d_free_lot (top 71) = true := by decide +kernel
theorem c_led_out : fdB T d_led_out (top 72) = true := by decide +kernel
theorem c_on_lot : fdB T d_on_lot (top 73) = true := by decide +kernel
theorem c_falling_step : fdB T d_falling_step (top 74) = true := by decide +kernel
theorem c_lowered : fdB T d_lowered (top 75) = true := by decide +kernel
theorem c_weighing_for : fdB T d_weighing_for (top 76) = true := by decide +kernel
theorem c_paper_for : fdB T d_paper_for (top 77) = true := by decide +kernel
theorem c_does_fit : fdB T d_does_fit (top 78) = true := by decide +kernel
theorem c_is_least_of : fdB T d_is_least_of (top 79) = true := by decide +kernel
theorem c_is_fall_of : fdB T d_is_fall_of (top 80) = true := by decide +kernel
theorem c_is_none_of : fdB T d_is_none_of (top 81) = true := by decide +kernel
theorem c_least_paper : fdB T d_least_paper (top 82) = true := by decide +kernel
theorem c_is_least_paper : fdB T d_is_least_paper (top 83) = true := by decide +kernel
theorem c_least_worth : fdB T d_least_worth (top 84) = true := by decide +kernel
theorem c_least_rows : fdB T d_least_rows (top 85) = true := by decide +kernel
theorem c_worth : fdB T d_worth (top 86) = true := by decide +kernel
theorem c__law_dice : fdB T d__law_dice (top 88) = true := by decide +kernel
theorem c__law_roll : fdB T d__law_roll (top 89) = true := by decide +kernel
theorem c__law_pick : fdB T d__law_pick (top 90) = true := by decide +kernel
theorem c__law_word : fdB T d__law_word (top 91) = true := by decide +kernel
theorem c__law_right : fdB T d__law_right (top 92) = true := by decide +kernel
theorem c_law : fdB T d_law (top 93) = true := by decide +kernel
end L38

end
section
set_option linter.all false
set_option Elab.async false
set_option maxRecDepth 100000
/-! The law's judge; printed by gen3.py. -/
namespace L38
open Mu PySem
theorem tabP : TabP T := ⟨by decide +kernel, by decide +kernel⟩
theorem hD : IsB T 69 bDice 2 5 := ⟨_, rfl, rfl, rfl, rfl, rfl⟩
theorem hRoll : IsB T 70 bRoll 2 5 := ⟨_, rfl, rfl, rfl, rfl, rfl⟩
theorem hPick : IsB T 71 (bPick 70) 2 2 := ⟨_, rfl, rfl, rfl, rfl, rfl⟩
def s0 : S := .asg (.tup [.name 1, .name 2]) (.tup [.tup [.lit (.int 1), .lit (.int 1)], .tup [.lit (.int 0), .lit (.int 1)]])
def s1 : S := .asg (.name 3) (.call 71 [.var 0, .lst [.lit .non, .neg (.lit (.int 1)), .lit (.int 145), .lit (.bl true), .lit (.str "1"), .bin .Pow (.lit (.int 10)) (.lit (.int 20))]])
def s2 : S := .asg (.name 4) (.call 71 [.var 0, .lst [.lit .non, .tup [], .tup [.tup [.var 1]], .tup [.tup [.var 1, .var 2], .tup [.var 1, .var 1]], .lst [.tup [.var 1, .var 2], .tup [.var 2, .var 1]], .tup [.tup [.var 1, .var 2], .tup [.var 2, .tup [.lit (.int 2), .lit (.int 2)]]], .tup [.tup [.var 1, .lit (.int 1)], .tup [.lit (.int 1), .var 1]], .lit (.str "form")]])
def s3 : S := .asg (.name 5) (.call 71 [.var 0, .lst [.lit .non, .tup [], .tup [.var 1], .lst [.var 1, .var 1], .tup [.var 1, .tup [.lit (.int 2), .lit (.int 2)]], .tup [.var 1, .lit (.int 1)], .tup [.var 1, .var 1, .var 1]]])
def s4 : S := .asg (.name 6) (.call 71 [.var 0, .lst [.lit .non, .lst [], .tup [.tup [.var 1]], .lst [.tup [.var 1, .var 1]], .tup [.tup [.var 1, .lit (.int 1)]], .tup [.var 5], .lit (.str "rules"), .bin .Mult (.tup [.tup [.var 1, .var 1]]) (.lit (.int 145))]])
def s5 : S := .asg (.name 7) (.call 71 [.var 0, .lst [.lit .non, .tup [], .tup [.var 1, .var 1], .lst [.var 1], .tup [.lit (.int 1)], .tup [.tup [.lit (.int 2), .lit (.int 2)]]]])
def s6 : S := .asg (.tup [.name 8, .name 9, .name 10]) (.tup [.tup [.tup [.var 1, .var 2], .tup [.var 2, .var 1]], .tup [.var 1, .var 2], .tup [.tup [.var 1, .var 1]]])
def s7 : S := .for_ (.name 11) (.seq (.tup [.gfn 64, .gfn 66, .gfn 67])) [.asg (.name 12) (.lst [.lam 0, .lam 1, .lam 2, .lam 3, .lam 4, .lam 5, .lam 6]), .asg (.name 13) (.lst [.bin .Add (.lit (.str "count ")) (.blt .repr [.var 3]), .lit (.str "form"), .lit (.str "row"), .lit (.str "row"), .lit (.str "row"), .lit (.str "fine"), .lit (.str "fine")]), .ite (.cmp .NotEq (.comp false (.call 72 [.var 15]) (.name 15) (.seq (.var 12)) none [("each", 15)]) (.var 13)) [.ret (.lit (.bl false))] []]
def s8 : S := .asg (.name 12) (.lst [.lam 7, .lam 8, .lam 9, .lam 10, .lam 11, .lam 12, .lam 13])
def s9 : S := .asg (.name 13) (.lst [.bin .Add (.lit (.str "count ")) (.blt .repr [.var 3]), .lit (.str "form"), .lit (.str "row"), .lit (.str "row"), .bin .Add (.lit (.str "count ")) (.blt .repr [.var 3]), .lit (.str "form"), .lit (.str "row")])
def s10 : S := .ite (.cmp .NotEq (.comp false (.call 72 [.var 11]) (.name 11) (.seq (.var 12)) none [("call", 11)]) (.var 13)) [.ret (.lit (.bl false))] []
def s11 : S := .asg (.name 14) (.lstR [.lit .non, .lit (.int 0), .tup [], .lit (.str "least"), .tup [.lit (.str "least")], .tup [.lit (.str "least"), .lit .non, .lit .non], .tup [.lit (.str "least"), .var 9], .tup [.lit (.str "falls"), .var 9, .var 9], .lit (.dic [] [])])
def s12 : S := .asg (.name 14) (.catR (.var 14) (.lst [.lst [.lit (.int 1), .lit (.int 2), .lit (.int 3)], .tup [.lit (.str "none"), .tup [.var 1]], .tup [.lit (.str "none"), .lit .non], .tup [.lit (.str "none"), .tup []], .tup [.lit (.int 0), .lit (.int 0)], .tup [.lit (.int 0), .lit (.int 0), .lit (.int 0)]]))
def s13 : S := .expr (.bm (.var 14) .append [.tup [.lit (.str "falls"), .lit .non, .lit .non]])
def s14 : S := .asg (.name 14) (.catR (.var 14) (.lst [.tup [.lit (.str "least"), .tup [], .tup []], .tup [.lit (.str "least"), .var 9, .tup [.var 1]], .tup [.lit (.str "none"), .tup [.var 2]]]))
def s15 : S := .expr (.bm (.var 14) .append [.tup [.lit (.str "falls"), .tup [.var 1, .var 1], .tup [.var 2, .var 2]]])
def s16 : S := .ret (.cmp .Eq (.comp false (.var 16) (.name 16) (.seq (.frz (.var 14))) (some (.cmp .IsNot (.call 65 [.lit (.int 2), .var 8, .var 9, .var 10, .tup [.tup [.lit (.int 3), .lit (.int 1)]], .var 16]) (.lit (.bl false)))) [("value", 16)]) (.lst []))
theorem body : d__law_right.body = [s0, s1, s2, s3, s4, s5, s6, s7, s8, s9, s10, s11, s12, s13, s14, s15, s16] := rfl
def m_podd : List (D × Str) := [(.non, "None"), (.int (-1), "-1"), (.int 145, "145"), (.bl true, "True"), (.str "1", "'1'"), (.int (10 ^ 20), "100000000000000000000")]
theorem m_podd_r : (m_podd.all fun o => (match reprD o.1 with | some s => decide (s = o.2) | none => false) && decide (("count " : Str).length + o.2.length ≤ sizeLine) && PyData.strOk ("count " ++ o.2)) = true := by decide +kernel
theorem m_podd_l : (m_podd.all fun o => o.1.low 0) = true := by decide +kernel
def m_pform : List D := [.non, .tup [], .tup [.tup [.tup [.int 1, .int 1]]], .tup [.tup [.tup [.int 1, .int 1], .tup [.int 0, .int 1]], .tup [.tup [.int 1, .int 1], .tup [.int 1, .int 1]]], .lst [.tup [.tup [.int 1, .int 1], .tup [.int 0, .int 1]], .tup [.tup [.int 0, .int 1], .tup [.int 1, .int 1]]], .tup [.tup [.tup [.int 1, .int 1], .tup [.int 0, .int 1]], .tup [.tup [.int 0, .int 1], .tup [.int 2, .int 2]]], .tup [.tup [.tup [.int 1, .int 1], .int 1], .tup [.int 1, .tup [.int 1, .int 1]]], .str "form"]
theorem m_pform_l : (m_pform.all fun o => o.low 0) = true := by decide +kernel
def m_prow : List D := [.non, .tup [], .tup [.tup [.int 1, .int 1]], .lst [.tup [.int 1, .int 1], .tup [.int 1, .int 1]], .tup [.tup [.int 1, .int 1], .tup [.int 2, .int 2]], .tup [.tup [.int 1, .int 1], .int 1], .tup [.tup [.int 1, .int 1], .tup [.int 1, .int 1], .tup [.int 1, .int 1]]]
theorem m_prow_l : (m_prow.all fun o => o.low 0) = true := by decide +kernel
def m_prules (prow : D) : List D := [.non, .lst [], .tup [.tup [.tup [.int 1, .int 1]]], .lst [.tup [.tup [.int 1, .int 1], .tup [.int 1, .int 1]]], .tup [.tup [.tup [.int 1, .int 1], .int 1]], .tup [prow], .str "rules", .tup [.tup [.tup [.int 1, .int 1], .tup [.int 1, .int 1]], .tup [.tup [.int 1, .int 1], .tup [.int 1, .int 1]], .tup [.tup [.int 1, .int 1], .tup [.int 1, .int 1]], .tup [.tup [.int 1, .int 1], .tup [.int 1, .int 1]], .tup [.tup [.int 1, .int 1], .tup [.int 1, .int 1]], .tup [.tup [.int 1, .int 1], .tup [.int 1, .int 1]], .tup [.tup [.int 1, .int 1], .tup [.int 1, .int 1]], .tup [.tup [.int 1, .int 1], .tup [.int 1, .int 1]], .tup [.tup [.int 1, .int 1], .tup [.int 1, .int 1]], .tup [.tup [.int 1, .int 1], .tup [.int 1, .int 1]], .tup [.tup [.int 1, .int 1], .tup [.int 1, .int 1]], .tup [.tup [.int 1, .int 1], .tup [.int 1, .int 1]], .tup [.tup [.int 1, .int 1], .tup [.int 1, .int 1]], .tup [.tup [.int 1, .int 1], .tup [.int 1, .int 1]], .tup [.tup [.int 1, .int 1], .tup [.int 1, .int 1]], .tup [.tup [.int 1, .int 1], .tup [.int 1, .int 1]], .tup [.tup [.int 1, .int 1], .tup [.int 1, .int 1]], .tup [.tup [.int 1, .int 1], .tup [.int 1, .int 1]], .tup [.tup [.int 1, .int 1], .tup [.int 1, .int 1]], .tup [.tup [.int 1, .int 1], .tup [.int 1, .int 1]], .tup [.tup [.int 1, .int 1], .tup [.int 1, .int 1]], .tup [.tup [.int 1, .int 1], .tup [.int 1, .int 1]], .tup [.tup [.int 1, .int 1], .tup [.int 1, .int 1]], .tup [.tup [.int 1, .int 1], .tup [.int 1, .int 1]], .tup [.tup [.int 1, .int 1], .tup [.int 1, .int 1]], .tup [.tup [.int 1, .int 1], .tup [.int 1, .int 1]], .tup [.tup [.int 1, .int 1], .tup [.int 1, .int 1]], .tup [.tup [.int 1, .int 1], .tup [.int 1, .int 1]], .tup [.tup [.int 1, .int 1], .tup [.int 1, .int 1]], .tup [.tup [.int 1, .int 1], .tup [.int 1, .int 1]], .tup [.tup [.int 1, .int 1], .tup [.int 1, .int 1]], .tup [.tup [.int 1, .int 1], .tup [.int 1, .int 1]], .tup [.tup [.int 1, .int 1], .tup [.int 1, .int 1]], .tup [.tup [.int 1, .int 1], .tup [.int 1, .int 1]], .tup [.tup [.int 1, .int 1], .tup [.int 1, .int 1]], .tup [.tup [.int 1, .int 1], .tup [.int 1, .int 1]], .tup [.tup [.int 1, .int 1], .tup [.int 1, .int 1]], .tup [.tup [.int 1, .int 1], .tup [.int 1, .int 1]], .tup [.tup [.int 1, .int 1], .tup [.int 1, .int 1]], .tup [.tup [.int 1, .int 1], .tup [.int 1, .int 1]], .tup [.tup [.int 1, .int 1], .tup [.int 1, .int 1]], .tup [.tup [.int 1, .int 1], .tup [.int 1, .int 1]], .tup [.tup [.int 1, .int 1], .tup [.int 1, .int 1]], .tup [.tup [.int 1, .int 1], .tup [.int 1, .int 1]], .tup [.tup [.int 1, .int 1], .tup [.int 1, .int 1]], .tup [.tup [.int 1, .int 1], .tup [.int 1, .int 1]], .tup [.tup [.int 1, .int 1], .tup [.int 1, .int 1]], .tup [.tup [.int 1, .int 1], .tup [.int 1, .int 1]], .tup [.tup [.int 1, .int 1], .tup [.int 1, .int 1]], .tup [.tup [.int 1, .int 1], .tup [.int 1, .int 1]], .tup [.tup [.int 1, .int 1], .tup [.int 1, .int 1]], .tup [.tup [.int 1, .int 1], .tup [.int 1, .int 1]], .tup [.tup [.int 1, .int 1], .tup [.int 1, .int 1]], .tup [.tup [.int 1, .int 1], .tup [.int 1, .int 1]], .tup [.tup [.int 1, .int 1], .tup [.int 1, .int 1]], .tup [.tup [.int 1, .int 1], .tup [.int 1, .int 1]], .tup [.tup [.int 1, .int 1], .tup [.int 1, .int 1]], .tup [.tup [.int 1, .int 1], .tup [.int 1, .int 1]], .tup [.tup [.int 1, .int 1], .tup [.int 1, .int 1]], .tup [.tup [.int 1, .int 1], .tup [.int 1, .int 1]], .tup [.tup [.int 1, .int 1], .tup [.int 1, .int 1]], .tup [.tup [.int 1, .int 1], .tup [.int 1, .int 1]], .tup [.tup [.int 1, .int 1], .tup [.int 1, .int 1]], .tup [.tup [.int 1, .int 1], .tup [.int 1, .int 1]], .tup [.tup [.int 1, .int 1], .tup [.int 1, .int 1]], .tup [.tup [.int 1, .int 1], .tup [.int 1, .int 1]], .tup [.tup [.int 1, .int 1], .tup [.int 1, .int 1]], .tup [.tup [.int 1, .int 1], .tup [.int 1, .int 1]], .tup [.tup [.int 1, .int 1], .tup [.int 1, .int 1]], .tup [.tup [.int 1, .int 1], .tup [.int 1, .int 1]], .tup [.tup [.int 1, .int 1], .tup [.int 1, .int 1]], .tup [.tup [.int 1, .int 1], .tup [.int 1, .int 1]], .tup [.tup [.int 1, .int 1], .tup [.int 1, .int 1]], .tup [.tup [.int 1, .int 1], .tup [.int 1, .int 1]], .tup [.tup [.int 1, .int 1], .tup [.int 1, .int 1]], .tup [.tup [.int 1, .int 1], .tup [.int 1, .int 1]], .tup [.tup [.int 1, .int 1], .tup [.int 1, .int 1]], .tup [.tup [.int 1, .int 1], .tup [.int 1, .int 1]], .tup [.tup [.int 1, .int 1], .tup [.int 1, .int 1]], .tup [.tup [.int 1, .int 1], .tup [.int 1, .int 1]], .tup [.tup [.int 1, .int 1], .tup [.int 1, .int 1]], .tup [.tup [.int 1, .int 1], .tup [.int 1, .int 1]], .tup [.tup [.int 1, .int 1], .tup [.int 1, .int 1]], .tup [.tup [.int 1, .int 1], .tup [.int 1, .int 1]], .tup [.tup [.int 1, .int 1], .tup [.int 1, .int 1]], .tup [.tup [.int 1, .int 1], .tup [.int 1, .int 1]], .tup [.tup [.int 1, .int 1], .tup [.int 1, .int 1]], .tup [.tup [.int 1, .int 1], .tup [.int 1, .int 1]], .tup [.tup [.int 1, .int 1], .tup [.int 1, .int 1]], .tup [.tup [.int 1, .int 1], .tup [.int 1, .int 1]], .tup [.tup [.int 1, .int 1], .tup [.int 1, .int 1]], .tup [.tup [.int 1, .int 1], .tup [.int 1, .int 1]], .tup [.tup [.int 1, .int 1], .tup [.int 1, .int 1]], .tup [.tup [.int 1, .int 1], .tup [.int 1, .int 1]], .tup [.tup [.int 1, .int 1], .tup [.int 1, .int 1]], .tup [.tup [.int 1, .int 1], .tup [.int 1, .int 1]], .tup [.tup [.int 1, .int 1], .tup [.int 1, .int 1]], .tup [.tup [.int 1, .int 1], .tup [.int 1, .int 1]], .tup [.tup [.int 1, .int 1], .tup [.int 1, .int 1]], .tup [.tup [.int 1, .int 1], .tup [.int 1, .int 1]], .tup [.tup [.int 1, .int 1], .tup [.int 1, .int 1]], .tup [.tup [.int 1, .int 1], .tup [.int 1, .int 1]], .tup [.tup [.int 1, .int 1], .tup [.int 1, .int 1]], .tup [.tup [.int 1, .int 1], .tup [.int 1, .int 1]], .tup [.tup [.int 1, .int 1], .tup [.int 1, .int 1]], .tup [.tup [.int 1, .int 1], .tup [.int 1, .int 1]], .tup [.tup [.int 1, .int 1], .tup [.int 1, .int 1]], .tup [.tup [.int 1, .int 1], .tup [.int 1, .int 1]], .tup [.tup [.int 1, .int 1], .tup [.int 1, .int 1]], .tup [.tup [.int 1, .int 1], .tup [.int 1, .int 1]], .tup [.tup [.int 1, .int 1], .tup [.int 1, .int 1]], .tup [.tup [.int 1, .int 1], .tup [.int 1, .int 1]], .tup [.tup [.int 1, .int 1], .tup [.int 1, .int 1]], .tup [.tup [.int 1, .int 1], .tup [.int 1, .int 1]], .tup [.tup [.int 1, .int 1], .tup [.int 1, .int 1]], .tup [.tup [.int 1, .int 1], .tup [.int 1, .int 1]], .tup [.tup [.int 1, .int 1], .tup [.int 1, .int 1]], .tup [.tup [.int 1, .int 1], .tup [.int 1, .int 1]], .tup [.tup [.int 1, .int 1], .tup [.int 1, .int 1]], .tup [.tup [.int 1, .int 1], .tup [.int 1, .int 1]], .tup [.tup [.int 1, .int 1], .tup [.int 1, .int 1]], .tup [.tup [.int 1, .int 1], .tup [.int 1, .int 1]], .tup [.tup [.int 1, .int 1], .tup [.int 1, .int 1]], .tup [.tup [.int 1, .int 1], .tup [.int 1, .int 1]], .tup [.tup [.int 1, .int 1], .tup [.int 1, .int 1]], .tup [.tup [.int 1, .int 1], .tup [.int 1, .int 1]], .tup [.tup [.int 1, .int 1], .tup [.int 1, .int 1]], .tup [.tup [.int 1, .int 1], .tup [.int 1, .int 1]], .tup [.tup [.int 1, .int 1], .tup [.int 1, .int 1]], .tup [.tup [.int 1, .int 1], .tup [.int 1, .int 1]], .tup [.tup [.int 1, .int 1], .tup [.int 1, .int 1]], .tup [.tup [.int 1, .int 1], .tup [.int 1, .int 1]], .tup [.tup [.int 1, .int 1], .tup [.int 1, .int 1]], .tup [.tup [.int 1, .int 1], .tup [.int 1, .int 1]], .tup [.tup [.int 1, .int 1], .tup [.int 1, .int 1]], .tup [.tup [.int 1, .int 1], .tup [.int 1, .int 1]], .tup [.tup [.int 1, .int 1], .tup [.int 1, .int 1]], .tup [.tup [.int 1, .int 1], .tup [.int 1, .int 1]], .tup [.tup [.int 1, .int 1], .tup [.int 1, .int 1]], .tup [.tup [.int 1, .int 1], .tup [.int 1, .int 1]], .tup [.tup [.int 1, .int 1], .tup [.int 1, .int 1]], .tup [.tup [.int 1, .int 1], .tup [.int 1, .int 1]], .tup [.tup [.int 1, .int 1], .tup [.int 1, .int 1]], .tup [.tup [.int 1, .int 1], .tup [.int 1, .int 1]], .tup [.tup [.int 1, .int 1], .tup [.int 1, .int 1]]]]
def m_pwish : List D := [.non, .tup [], .tup [.tup [.int 1, .int 1], .tup [.int 1, .int 1]], .lst [.tup [.int 1, .int 1]], .tup [.int 1], .tup [.tup [.int 2, .int 2]]]
theorem m_pwish_l : (m_pwish.all fun o => o.low 0) = true := by decide +kernel
theorem lowOf_prules {prow : D} (low_prow : prow.low 0 = true) {prules : D} (h : prules ∈ m_prules prow) : prules.low 0 = true := by
  simp only [m_prules, List.mem_cons, List.not_mem_nil, or_false] at h
  rcases h with rfl | rfl | rfl | rfl | rfl | rfl | rfl | rfl <;> simp [D.low, D.lows, *]
def bd7 : List S := match s7 with | .for_ _ _ b => b | _ => []
theorem f7_0_2_0 (pform prow prules pwish : D) : ((m_podd).all fun podd_q => (fun podd podd_r => okB (callF T 228 [⟨d__law_right.lams, [none, none, none, some (podd), some (pform), some (prow), some (prules), some (pwish), none, none, none, some (.fn 64), none, none, none, none, none]⟩] 72 [.clo 0 0] []) (.str ("count " ++ podd_r)) []) podd_q.1 podd_q.2) = true := by kernel_rfl
theorem f7_0_2_1 (prow prules pwish : D) : ((m_pform).all fun pform => okB (callF T 228 [⟨d__law_right.lams, [none, none, none, none, some (pform), some (prow), some (prules), some (pwish), none, none, none, some (.fn 64), none, none, none, none, none]⟩] 72 [.clo 0 1] []) (.str "form") []) = true := by kernel_rfl
theorem f7_0_2_2 (prules pwish : D) : ((m_prow).all fun prow => okB (callF T 228 [⟨d__law_right.lams, [none, none, none, none, none, some (prow), some (prules), some (pwish), some (.tup [.tup [.tup [.int 1, .int 1], .tup [.int 0, .int 1]], .tup [.tup [.int 0, .int 1], .tup [.int 1, .int 1]]]), none, none, some (.fn 64), none, none, none, none, none]⟩] 72 [.clo 0 2] []) (.str "row") []) = true := by kernel_rfl
theorem f7_0_2_3 (pwish : D) : ((m_prow).all fun prow => (m_prules prow).all fun prules => okB (callF T 228 [⟨d__law_right.lams, [none, none, none, none, none, none, some (prules), some (pwish), some (.tup [.tup [.tup [.int 1, .int 1], .tup [.int 0, .int 1]], .tup [.tup [.int 0, .int 1], .tup [.int 1, .int 1]]]), some (.tup [.tup [.int 1, .int 1], .tup [.int 0, .int 1]]), none, some (.fn 64), none, none, none, none, none]⟩] 72 [.clo 0 3] []) (.str "row") []) = true := by kernel_rfl
theorem f7_0_2_4 : ((m_pwish).all fun pwish => okB (callF T 228 [⟨d__law_right.lams, [none, none, none, none, none, none, none, some (pwish), some (.tup [.tup [.tup [.int 1, .int 1], .tup [.int 0, .int 1]], .tup [.tup [.int 0, .int 1], .tup [.int 1, .int 1]]]), some (.tup [.tup [.int 1, .int 1], .tup [.int 0, .int 1]]), some (.tup [.tup [.tup [.int 1, .int 1], .tup [.int 1, .int 1]]]), some (.fn 64), none, none, none, none, none]⟩] 72 [.clo 0 4] []) (.str "row") []) = true := by decide +kernel
theorem f7_0_2_5 : (okB (callF T 228 [⟨d__law_right.lams, [none, some (.tup [.int 1, .int 1]), none, none, none, none, none, none, some (.tup [.tup [.tup [.int 1, .int 1], .tup [.int 0, .int 1]], .tup [.tup [.int 0, .int 1], .tup [.int 1, .int 1]]]), some (.tup [.tup [.int 1, .int 1], .tup [.int 0, .int 1]]), some (.tup [.tup [.tup [.int 1, .int 1], .tup [.int 1, .int 1]]]), some (.fn 64), none, none, none, none, none]⟩] 72 [.clo 0 5] []) (.str "fine") []) = true := by decide +kernel
theorem f7_0_2_6 : (okB (callF T 228 [⟨d__law_right.lams, [none, none, none, none, none, none, none, none, some (.tup [.tup [.tup [.int 1, .int 1], .tup [.int 0, .int 1]], .tup [.tup [.int 0, .int 1], .tup [.int 1, .int 1]]]), some (.tup [.tup [.int 1, .int 1], .tup [.int 0, .int 1]]), none, some (.fn 64), none, none, none, none, none]⟩] 72 [.clo 0 6] []) (.str "fine") []) = true := by decide +kernel
theorem f7_1_2_0 (pform prow prules pwish : D) : ((m_podd).all fun podd_q => (fun podd podd_r => okB (callF T 228 [⟨d__law_right.lams, [none, none, none, some (podd), some (pform), some (prow), some (prules), some (pwish), none, none, none, some (.fn 66), none, none, none, none, none]⟩] 72 [.clo 0 0] []) (.str ("count " ++ podd_r)) []) podd_q.1 podd_q.2) = true := by kernel_rfl
theorem f7_1_2_1 (prow prules pwish : D) : ((m_pform).all fun pform => okB (callF T 228 [⟨d__law_right.lams, [none, none, none, none, some (pform), some (prow), some (prules), some (pwish), none, none, none, some (.fn 66), none, none, none, none, none]⟩] 72 [.clo 0 1] []) (.str "form") []) = true := by kernel_rfl
theorem f7_1_2_2 (prules pwish : D) : ((m_prow).all fun prow => okB (callF T 228 [⟨d__law_right.lams, [none, none, none, none, none, some (prow), some (prules), some (pwish), some (.tup [.tup [.tup [.int 1, .int 1], .tup [.int 0, .int 1]], .tup [.tup [.int 0, .int 1], .tup [.int 1, .int 1]]]), none, none, some (.fn 66), none, none, none, none, none]⟩] 72 [.clo 0 2] []) (.str "row") []) = true := by kernel_rfl
theorem f7_1_2_3 (pwish : D) : ((m_prow).all fun prow => (m_prules prow).all fun prules => okB (callF T 228 [⟨d__law_right.lams, [none, none, none, none, none, none, some (prules), some (pwish), some (.tup [.tup [.tup [.int 1, .int 1], .tup [.int 0, .int 1]], .tup [.tup [.int 0, .int 1], .tup [.int 1, .int 1]]]), some (.tup [.tup [.int 1, .int 1], .tup [.int 0, .int 1]]), none, some (.fn 66), none, none, none, none, none]⟩] 72 [.clo 0 3] []) (.str "row") []) = true := by kernel_rfl
theorem f7_1_2_4 : ((m_pwish).all fun pwish => okB (callF T 228 [⟨d__law_right.lams, [none, none, none, none, none, none, none, some (pwish), some (.tup [.tup [.tup [.int 1, .int 1], .tup [.int 0, .int 1]], .tup [.tup [.int 0, .int 1], .tup [.int 1, .int 1]]]), some (.tup [.tup [.int 1, .int 1], .tup [.int 0, .int 1]]), some (.tup [.tup [.tup [.int 1, .int 1], .tup [.int 1, .int 1]]]), some (.fn 66), none, none, none, none, none]⟩] 72 [.clo 0 4] []) (.str "row") []) = true := by decide +kernel
theorem f7_1_2_5 : (okB (callF T 228 [⟨d__law_right.lams, [none, some (.tup [.int 1, .int 1]), none, none, none, none, none, none, some (.tup [.tup [.tup [.int 1, .int 1], .tup [.int 0, .int 1]], .tup [.tup [.int 0, .int 1], .tup [.int 1, .int 1]]]), some (.tup [.tup [.int 1, .int 1], .tup [.int 0, .int 1]]), some (.tup [.tup [.tup [.int 1, .int 1], .tup [.int 1, .int 1]]]), some (.fn 66), none, none, none, none, none]⟩] 72 [.clo 0 5] []) (.str "fine") []) = true := by decide +kernel
theorem f7_1_2_6 : (okB (callF T 228 [⟨d__law_right.lams, [none, none, none, none, none, none, none, none, some (.tup [.tup [.tup [.int 1, .int 1], .tup [.int 0, .int 1]], .tup [.tup [.int 0, .int 1], .tup [.int 1, .int 1]]]), some (.tup [.tup [.int 1, .int 1], .tup [.int 0, .int 1]]), none, some (.fn 66), none, none, none, none, none]⟩] 72 [.clo 0 6] []) (.str "fine") []) = true := by decide +kernel
theorem f7_2_2_0 (pform prow prules pwish : D) : ((m_podd).all fun podd_q => (fun podd podd_r => okB (callF T 228 [⟨d__law_right.lams, [none, none, none, some (podd), some (pform), some (prow), some (prules), some (pwish), none, none, none, some (.fn 67), none, none, none, none, none]⟩] 72 [.clo 0 0] []) (.str ("count " ++ podd_r)) []) podd_q.1 podd_q.2) = true := by kernel_rfl
theorem f7_2_2_1 (prow prules pwish : D) : ((m_pform).all fun pform => okB (callF T 228 [⟨d__law_right.lams, [none, none, none, none, some (pform), some (prow), some (prules), some (pwish), none, none, none, some (.fn 67), none, none, none, none, none]⟩] 72 [.clo 0 1] []) (.str "form") []) = true := by kernel_rfl
theorem f7_2_2_2 (prules pwish : D) : ((m_prow).all fun prow => okB (callF T 228 [⟨d__law_right.lams, [none, none, none, none, none, some (prow), some (prules), some (pwish), some (.tup [.tup [.tup [.int 1, .int 1], .tup [.int 0, .int 1]], .tup [.tup [.int 0, .int 1], .tup [.int 1, .int 1]]]), none, none, some (.fn 67), none, none, none, none, none]⟩] 72 [.clo 0 2] []) (.str "row") []) = true := by kernel_rfl
theorem f7_2_2_3 (pwish : D) : ((m_prow).all fun prow => (m_prules prow).all fun prules => okB (callF T 228 [⟨d__law_right.lams, [none, none, none, none, none, none, some (prules), some (pwish), some (.tup [.tup [.tup [.int 1, .int 1], .tup [.int 0, .int 1]], .tup [.tup [.int 0, .int 1], .tup [.int 1, .int 1]]]), some (.tup [.tup [.int 1, .int 1], .tup [.int 0, .int 1]]), none, some (.fn 67), none, none, none, none, none]⟩] 72 [.clo 0 3] []) (.str "row") []) = true := by kernel_rfl
theorem f7_2_2_4 : ((m_pwish).all fun pwish => okB (callF T 228 [⟨d__law_right.lams, [none, none, none, none, none, none, none, some (pwish), some (.tup [.tup [.tup [.int 1, .int 1], .tup [.int 0, .int 1]], .tup [.tup [.int 0, .int 1], .tup [.int 1, .int 1]]]), some (.tup [.tup [.int 1, .int 1], .tup [.int 0, .int 1]]), some (.tup [.tup [.tup [.int 1, .int 1], .tup [.int 1, .int 1]]]), some (.fn 67), none, none, none, none, none]⟩] 72 [.clo 0 4] []) (.str "row") []) = true := by decide +kernel
theorem f7_2_2_5 : (okB (callF T 228 [⟨d__law_right.lams, [none, some (.tup [.int 1, .int 1]), none, none, none, none, none, none, some (.tup [.tup [.tup [.int 1, .int 1], .tup [.int 0, .int 1]], .tup [.tup [.int 0, .int 1], .tup [.int 1, .int 1]]]), some (.tup [.tup [.int 1, .int 1], .tup [.int 0, .int 1]]), some (.tup [.tup [.tup [.int 1, .int 1], .tup [.int 1, .int 1]]]), some (.fn 67), none, none, none, none, none]⟩] 72 [.clo 0 5] []) (.str "fine") []) = true := by decide +kernel
theorem f7_2_2_6 : (okB (callF T 228 [⟨d__law_right.lams, [none, none, none, none, none, none, none, none, some (.tup [.tup [.tup [.int 1, .int 1], .tup [.int 0, .int 1]], .tup [.tup [.int 0, .int 1], .tup [.int 1, .int 1]]]), some (.tup [.tup [.int 1, .int 1], .tup [.int 0, .int 1]]), none, some (.fn 67), none, none, none, none, none]⟩] 72 [.clo 0 6] []) (.str "fine") []) = true := by decide +kernel
theorem f10_0 (pform prow : D) : ((m_podd).all fun podd_q => (fun podd podd_r => okB (callF T 228 [⟨d__law_right.lams, [none, none, none, some (podd), some (pform), some (prow), none, none, none, none, none, none, none, none, none, none, none]⟩] 72 [.clo 0 7] []) (.str ("count " ++ podd_r)) []) podd_q.1 podd_q.2) = true := by kernel_rfl
theorem f10_1 (prow : D) : ((m_pform).all fun pform => okB (callF T 228 [⟨d__law_right.lams, [none, none, none, none, some (pform), some (prow), none, none, none, none, none, none, none, none, none, none, none]⟩] 72 [.clo 0 8] []) (.str "form") []) = true := by kernel_rfl
theorem f10_2 : ((m_prow).all fun prow => okB (callF T 228 [⟨d__law_right.lams, [none, none, none, none, none, some (prow), none, none, some (.tup [.tup [.tup [.int 1, .int 1], .tup [.int 0, .int 1]], .tup [.tup [.int 0, .int 1], .tup [.int 1, .int 1]]]), none, none, none, none, none, none, none, none]⟩] 72 [.clo 0 9] []) (.str "row") []) = true := by decide +kernel
theorem f10_3 : ((m_prow).all fun prow => okB (callF T 228 [⟨d__law_right.lams, [none, none, none, none, none, some (prow), none, none, some (.tup [.tup [.tup [.int 1, .int 1], .tup [.int 0, .int 1]], .tup [.tup [.int 0, .int 1], .tup [.int 1, .int 1]]]), some (.tup [.tup [.int 1, .int 1], .tup [.int 0, .int 1]]), none, none, none, none, none, none, none]⟩] 72 [.clo 0 10] []) (.str "row") []) = true := by decide +kernel
theorem f10_4 (pform prow prules pwish : D) : ((m_podd).all fun podd_q => (fun podd podd_r => okB (callF T 228 [⟨d__law_right.lams, [none, none, none, some (podd), some (pform), some (prow), some (prules), some (pwish), none, none, none, none, none, none, none, none, none]⟩] 72 [.clo 0 11] []) (.str ("count " ++ podd_r)) []) podd_q.1 podd_q.2) = true := by kernel_rfl
theorem f10_5 (prow prules pwish : D) : ((m_pform).all fun pform => okB (callF T 228 [⟨d__law_right.lams, [none, none, none, none, some (pform), some (prow), some (prules), some (pwish), none, none, none, none, none, none, none, none, none]⟩] 72 [.clo 0 12] []) (.str "form") []) = true := by kernel_rfl
theorem f10_6 : ((m_pwish).all fun pwish => okB (callF T 228 [⟨d__law_right.lams, [none, none, none, none, none, none, none, some (pwish), some (.tup [.tup [.tup [.int 1, .int 1], .tup [.int 0, .int 1]], .tup [.tup [.int 0, .int 1], .tup [.int 1, .int 1]]]), some (.tup [.tup [.int 1, .int 1], .tup [.int 0, .int 1]]), some (.tup [.tup [.tup [.int 1, .int 1], .tup [.int 1, .int 1]]]), none, none, none, none, none, none]⟩] 72 [.clo 0 13] []) (.str "row") []) = true := by decide +kernel
def tl : List S := [s11, s12, s13, s14, s15, s16]
theorem tail : retT (exL (ex (cfOf T 228 [] d__law_right.lams (callF T 228) (cloF T 228)) 60) tl [none, some (.tup [.int 1, .int 1]), some (.tup [.int 0, .int 1]), none, none, none, none, none, some (.tup [.tup [.tup [.int 1, .int 1], .tup [.int 0, .int 1]], .tup [.tup [.int 0, .int 1], .tup [.int 1, .int 1]]]), some (.tup [.tup [.int 1, .int 1], .tup [.int 0, .int 1]]), some (.tup [.tup [.tup [.int 1, .int 1], .tup [.int 1, .int 1]]]), some (.fn 67), some (.lst [.clo 0 7, .clo 0 8, .clo 0 9, .clo 0 10, .clo 0 11, .clo 0 12, .clo 0 13]), none, none, none, none] []) = true := by decide +kernel
end L38

end
section
set_option linter.all false
set_option Elab.async false
set_option maxRecDepth 100000
/-! The law's end; the sums of 144 rows in pieces. Printed by mkE38.py. -/
namespace L38
open Mu PySem
theorem hNum : Num T 0 1 2 3 5 6 2 := ⟨⟨_, rfl, rfl, rfl, rfl, rfl⟩, ⟨_, rfl, rfl, rfl, rfl, rfl⟩, ⟨_, rfl, rfl, rfl, rfl, rfl⟩, ⟨_, rfl, rfl, rfl, rfl, rfl⟩, ⟨_, rfl, rfl, rfl, rfl, rfl⟩, ⟨_, rfl, rfl, rfl, rfl, rfl⟩, rfl⟩
def oN : List Frm → Sto → Nat → List D → Option D := fun _ _ => numO 5 6 7 8
theorem oN_ok : OrS T oN 42 := (numO_ok hNum ⟨_, rfl, rfl, rfl, rfl, rfl⟩ ⟨_, rfl, rfl, rfl, rfl, rfl⟩).s
def z0 : D := .tup [.int 0, .int 1]
def z1 : D := .tup [.int 1, .int 1]
def zm : D := .tup [.int (-1), .int 1]
def CS : Cf := cfOf T 60 [] d_sums_of.lams (callO T oN 60) (cloO T oN 60)
def xs : D := .tup [.tup [z1], .tup [z1], .tup [z1], .tup [z1], .tup [z1], .tup [z1], .tup [z1], .tup [z1], .tup [z1], .tup [z1], .tup [z1], .tup [z1], .tup [z1], .tup [z1], .tup [z1], .tup [z1], .tup [z1], .tup [z1], .tup [z1], .tup [z1], .tup [z1], .tup [z1], .tup [z1], .tup [z1], .tup [z1], .tup [z1], .tup [z1], .tup [z1], .tup [z1], .tup [z1], .tup [z1], .tup [z1], .tup [z1], .tup [z1], .tup [z1], .tup [z1], .tup [z1], .tup [z1], .tup [z1], .tup [z1], .tup [z1], .tup [z1], .tup [z1], .tup [z1], .tup [z1], .tup [z1], .tup [z1], .tup [z1], .tup [z1], .tup [z1], .tup [z1], .tup [z1], .tup [z1], .tup [z1], .tup [z1], .tup [z1], .tup [z1], .tup [z1], .tup [z1], .tup [z1], .tup [z1], .tup [z1], .tup [z1], .tup [z1], .tup [z1], .tup [z1], .tup [z1], .tup [z1], .tup [z1], .tup [z1], .tup [z1], .tup [z1], .tup [z1], .tup [z1], .tup [z1], .tup [z1], .tup [z1], .tup [z1], .tup [z1], .tup [z1], .tup [z1], .tup [z1], .tup [z1], .tup [z1], .tup [z1], .tup [z1], .tup [z1], .tup [z1], .tup [z1], .tup [z1], .tup [z1], .tup [z1], .tup [z1], .tup [z1], .tup [z1], .tup [z1], .tup [z1], .tup [z1], .tup [z1], .tup [z1], .tup [z1], .tup [z1], .tup [z1], .tup [z1], .tup [z1], .tup [z1], .tup [z1], .tup [z1], .tup [z1], .tup [z1], .tup [z1], .tup [z1], .tup [z1], .tup [z1], .tup [z1], .tup [z1], .tup [z1], .tup [z1], .tup [z1], .tup [z1], .tup [z1], .tup [z1], .tup [z1], .tup [z1], .tup [z1], .tup [z1], .tup [z1], .tup [z1], .tup [z1], .tup [z1], .tup [z1], .tup [z1], .tup [z1], .tup [z1], .tup [z1], .tup [z1], .tup [z1], .tup [z1], .tup [z1], .tup [z1], .tup [z1], .tup [z1], .tup [z1], .tup [z1]]
def ys : D := .tup [z1]
def rs : D := .tup [z1, z0, z0, z0, z0, z0, z0, z0, z0, z0, z0, z0, z0, z0, z0, z0, z0, z0, z0, z0, z0, z0, z0, z0, z0, z0, z0, z0, z0, z0, z0, z0, z0, z0, z0, z0, z0, z0, z0, z0, z0, z0, z0, z0, z0, z0, z0, z0, z0, z0, z0, z0, z0, z0, z0, z0, z0, z0, z0, z0, z0, z0, z0, z0, z0, z0, z0, z0, z0, z0, z0, z0, z0, z0, z0, z0, z0, z0, z0, z0, z0, z0, z0, z0, z0, z0, z0, z0, z0, z0, z0, z0, z0, z0, z0, z0, z0, z0, z0, z0, z0, z0, z0, z0, z0, z0, z0, z0, z0, z0, z0, z0, z0, z0, z0, z0, z0, z0, z0, z0, z0, z0, z0, z0, z0, z0, z0, z0, z0, z0, z0, z0, z0, z0, z0, z0, z0, z0, z0, z0, z0, z0, z0, z0]
def args : List D := [.int 1, xs, ys]
def e0 : Mu.Env := [some (.int 1), some xs, some ys, some (.int 144), some (.tup []), none, none, none, none, none]
def e1 : Mu.Env := [some (.int 1), some xs, some ys, some (.int 144), some (.tup [.tup [z1, z1, z0, z0, z0, z0, z0, z0, z0, z0, z0, z0, z0, z0, z0, z0, z0, z0, z0, z0, z0, z0, z0, z0, z0, z0, z0, z0, z0, z0, z0, z0, z0, z0, z0, z0, z0, z0, z0, z0, z0, z0, z0, z0, z0, z0, z0, z0, z0, z0, z0, z0, z0, z0, z0, z0, z0, z0, z0, z0, z0, z0, z0, z0, z0, z0, z0, z0, z0, z0, z0, z0, z0, z0, z0, z0, z0, z0, z0, z0, z0, z0, z0, z0, z0, z0, z0, z0, z0, z0, z0, z0, z0, z0, z0, z0, z0, z0, z0, z0, z0, z0, z0, z0, z0, z0, z0, z0, z0, z0, z0, z0, z0, z0, z0, z0, z0, z0, z0, z0, z0, z0, z0, z0, z0, z0, z0, z0, z0, z0, z0, z0, z0, z0, z0, z0, z0, z0, z0, z0, z0, z0, z0, z0, z0]]), some (.int 11), some (.tup [z1]), some (.tup [z0, zm, z0, z0, z0, z0, z0, z0, z0, z0, z0, z0, z1, z0, z0, z0, z0, z0, z0, z0, z0, z0, z0, z0, z0, z0, z0, z0, z0, z0, z0, z0, z0, z0, z0, z0, z0, z0, z0, z0, z0, z0, z0, z0, z0, z0, z0, z0, z0, z0, z0, z0, z0, z0, z0, z0, z0, z0, z0, z0, z0, z0, z0, z0, z0, z0, z0, z0, z0, z0, z0, z0, z0, z0, z0, z0, z0, z0, z0, z0, z0, z0, z0, z0, z0, z0, z0, z0, z0, z0, z0, z0, z0, z0, z0, z0, z0, z0, z0, z0, z0, z0, z0, z0, z0, z0, z0, z0, z0, z0, z0, z0, z0, z0, z0, z0, z0, z0, z0, z0, z0, z0, z0, z0, z0, z0, z0, z0, z0, z0, z0, z0, z0, z0, z0, z0, z0, z0, z0, z0, z0, z0, z0, z0, z0]), some (.int 1), none]
def e2 : Mu.Env := [some (.int 1), some xs, some ys, some (.int 144), some (.tup [.tup [z1, z1, z0, z0, z0, z0, z0, z0, z0, z0, z0, z0, z0, z0, z0, z0, z0, z0, z0, z0, z0, z0, z0, z0, z0, z0, z0, z0, z0, z0, z0, z0, z0, z0, z0, z0, z0, z0, z0, z0, z0, z0, z0, z0, z0, z0, z0, z0, z0, z0, z0, z0, z0, z0, z0, z0, z0, z0, z0, z0, z0, z0, z0, z0, z0, z0, z0, z0, z0, z0, z0, z0, z0, z0, z0, z0, z0, z0, z0, z0, z0, z0, z0, z0, z0, z0, z0, z0, z0, z0, z0, z0, z0, z0, z0, z0, z0, z0, z0, z0, z0, z0, z0, z0, z0, z0, z0, z0, z0, z0, z0, z0, z0, z0, z0, z0, z0, z0, z0, z0, z0, z0, z0, z0, z0, z0, z0, z0, z0, z0, z0, z0, z0, z0, z0, z0, z0, z0, z0, z0, z0, z0, z0, z0, z0]]), some (.int 23), some (.tup [z1]), some (.tup [z0, zm, z0, z0, z0, z0, z0, z0, z0, z0, z0, z0, z0, z0, z0, z0, z0, z0, z0, z0, z0, z0, z0, z0, z1, z0, z0, z0, z0, z0, z0, z0, z0, z0, z0, z0, z0, z0, z0, z0, z0, z0, z0, z0, z0, z0, z0, z0, z0, z0, z0, z0, z0, z0, z0, z0, z0, z0, z0, z0, z0, z0, z0, z0, z0, z0, z0, z0, z0, z0, z0, z0, z0, z0, z0, z0, z0, z0, z0, z0, z0, z0, z0, z0, z0, z0, z0, z0, z0, z0, z0, z0, z0, z0, z0, z0, z0, z0, z0, z0, z0, z0, z0, z0, z0, z0, z0, z0, z0, z0, z0, z0, z0, z0, z0, z0, z0, z0, z0, z0, z0, z0, z0, z0, z0, z0, z0, z0, z0, z0, z0, z0, z0, z0, z0, z0, z0, z0, z0, z0, z0, z0, z0, z0, z0]), some (.int 1), none]
def e3 : Mu.Env := [some (.int 1), some xs, some ys, some (.int 144), some (.tup [.tup [z1, z1, z0, z0, z0, z0, z0, z0, z0, z0, z0, z0, z0, z0, z0, z0, z0, z0, z0, z0, z0, z0, z0, z0, z0, z0, z0, z0, z0, z0, z0, z0, z0, z0, z0, z0, z0, z0, z0, z0, z0, z0, z0, z0, z0, z0, z0, z0, z0, z0, z0, z0, z0, z0, z0, z0, z0, z0, z0, z0, z0, z0, z0, z0, z0, z0, z0, z0, z0, z0, z0, z0, z0, z0, z0, z0, z0, z0, z0, z0, z0, z0, z0, z0, z0, z0, z0, z0, z0, z0, z0, z0, z0, z0, z0, z0, z0, z0, z0, z0, z0, z0, z0, z0, z0, z0, z0, z0, z0, z0, z0, z0, z0, z0, z0, z0, z0, z0, z0, z0, z0, z0, z0, z0, z0, z0, z0, z0, z0, z0, z0, z0, z0, z0, z0, z0, z0, z0, z0, z0, z0, z0, z0, z0, z0]]), some (.int 35), some (.tup [z1]), some (.tup [z0, zm, z0, z0, z0, z0, z0, z0, z0, z0, z0, z0, z0, z0, z0, z0, z0, z0, z0, z0, z0, z0, z0, z0, z0, z0, z0, z0, z0, z0, z0, z0, z0, z0, z0, z0, z1, z0, z0, z0, z0, z0, z0, z0, z0, z0, z0, z0, z0, z0, z0, z0, z0, z0, z0, z0, z0, z0, z0, z0, z0, z0, z0, z0, z0, z0, z0, z0, z0, z0, z0, z0, z0, z0, z0, z0, z0, z0, z0, z0, z0, z0, z0, z0, z0, z0, z0, z0, z0, z0, z0, z0, z0, z0, z0, z0, z0, z0, z0, z0, z0, z0, z0, z0, z0, z0, z0, z0, z0, z0, z0, z0, z0, z0, z0, z0, z0, z0, z0, z0, z0, z0, z0, z0, z0, z0, z0, z0, z0, z0, z0, z0, z0, z0, z0, z0, z0, z0, z0, z0, z0, z0, z0, z0, z0]), some (.int 1), none]
def e4 : Mu.Env := [some (.int 1), some xs, some ys, some (.int 144), some (.tup [.tup [z1, z1, z0, z0, z0, z0, z0, z0, z0, z0, z0, z0, z0, z0, z0, z0, z0, z0, z0, z0, z0, z0, z0, z0, z0, z0, z0, z0, z0, z0, z0, z0, z0, z0, z0, z0, z0, z0, z0, z0, z0, z0, z0, z0, z0, z0, z0, z0, z0, z0, z0, z0, z0, z0, z0, z0, z0, z0, z0, z0, z0, z0, z0, z0, z0, z0, z0, z0, z0, z0, z0, z0, z0, z0, z0, z0, z0, z0, z0, z0, z0, z0, z0, z0, z0, z0, z0, z0, z0, z0, z0, z0, z0, z0, z0, z0, z0, z0, z0, z0, z0, z0, z0, z0, z0, z0, z0, z0, z0, z0, z0, z0, z0, z0, z0, z0, z0, z0, z0, z0, z0, z0, z0, z0, z0, z0, z0, z0, z0, z0, z0, z0, z0, z0, z0, z0, z0, z0, z0, z0, z0, z0, z0, z0, z0]]), some (.int 47), some (.tup [z1]), some (.tup [z0, zm, z0, z0, z0, z0, z0, z0, z0, z0, z0, z0, z0, z0, z0, z0, z0, z0, z0, z0, z0, z0, z0, z0, z0, z0, z0, z0, z0, z0, z0, z0, z0, z0, z0, z0, z0, z0, z0, z0, z0, z0, z0, z0, z0, z0, z0, z0, z1, z0, z0, z0, z0, z0, z0, z0, z0, z0, z0, z0, z0, z0, z0, z0, z0, z0, z0, z0, z0, z0, z0, z0, z0, z0, z0, z0, z0, z0, z0, z0, z0, z0, z0, z0, z0, z0, z0, z0, z0, z0, z0, z0, z0, z0, z0, z0, z0, z0, z0, z0, z0, z0, z0, z0, z0, z0, z0, z0, z0, z0, z0, z0, z0, z0, z0, z0, z0, z0, z0, z0, z0, z0, z0, z0, z0, z0, z0, z0, z0, z0, z0, z0, z0, z0, z0, z0, z0, z0, z0, z0, z0, z0, z0, z0, z0]), some (.int 1), none]
def e5 : Mu.Env := [some (.int 1), some xs, some ys, some (.int 144), some (.tup [.tup [z1, z1, z0, z0, z0, z0, z0, z0, z0, z0, z0, z0, z0, z0, z0, z0, z0, z0, z0, z0, z0, z0, z0, z0, z0, z0, z0, z0, z0, z0, z0, z0, z0, z0, z0, z0, z0, z0, z0, z0, z0, z0, z0, z0, z0, z0, z0, z0, z0, z0, z0, z0, z0, z0, z0, z0, z0, z0, z0, z0, z0, z0, z0, z0, z0, z0, z0, z0, z0, z0, z0, z0, z0, z0, z0, z0, z0, z0, z0, z0, z0, z0, z0, z0, z0, z0, z0, z0, z0, z0, z0, z0, z0, z0, z0, z0, z0, z0, z0, z0, z0, z0, z0, z0, z0, z0, z0, z0, z0, z0, z0, z0, z0, z0, z0, z0, z0, z0, z0, z0, z0, z0, z0, z0, z0, z0, z0, z0, z0, z0, z0, z0, z0, z0, z0, z0, z0, z0, z0, z0, z0, z0, z0, z0, z0]]), some (.int 59), some (.tup [z1]), some (.tup [z0, zm, z0, z0, z0, z0, z0, z0, z0, z0, z0, z0, z0, z0, z0, z0, z0, z0, z0, z0, z0, z0, z0, z0, z0, z0, z0, z0, z0, z0, z0, z0, z0, z0, z0, z0, z0, z0, z0, z0, z0, z0, z0, z0, z0, z0, z0, z0, z0, z0, z0, z0, z0, z0, z0, z0, z0, z0, z0, z0, z1, z0, z0, z0, z0, z0, z0, z0, z0, z0, z0, z0, z0, z0, z0, z0, z0, z0, z0, z0, z0, z0, z0, z0, z0, z0, z0, z0, z0, z0, z0, z0, z0, z0, z0, z0, z0, z0, z0, z0, z0, z0, z0, z0, z0, z0, z0, z0, z0, z0, z0, z0, z0, z0, z0, z0, z0, z0, z0, z0, z0, z0, z0, z0, z0, z0, z0, z0, z0, z0, z0, z0, z0, z0, z0, z0, z0, z0, z0, z0, z0, z0, z0, z0, z0]), some (.int 1), none]
def e6 : Mu.Env := [some (.int 1), some xs, some ys, some (.int 144), some (.tup [.tup [z1, z1, z0, z0, z0, z0, z0, z0, z0, z0, z0, z0, z0, z0, z0, z0, z0, z0, z0, z0, z0, z0, z0, z0, z0, z0, z0, z0, z0, z0, z0, z0, z0, z0, z0, z0, z0, z0, z0, z0, z0, z0, z0, z0, z0, z0, z0, z0, z0, z0, z0, z0, z0, z0, z0, z0, z0, z0, z0, z0, z0, z0, z0, z0, z0, z0, z0, z0, z0, z0, z0, z0, z0, z0, z0, z0, z0, z0, z0, z0, z0, z0, z0, z0, z0, z0, z0, z0, z0, z0, z0, z0, z0, z0, z0, z0, z0, z0, z0, z0, z0, z0, z0, z0, z0, z0, z0, z0, z0, z0, z0, z0, z0, z0, z0, z0, z0, z0, z0, z0, z0, z0, z0, z0, z0, z0, z0, z0, z0, z0, z0, z0, z0, z0, z0, z0, z0, z0, z0, z0, z0, z0, z0, z0, z0]]), some (.int 71), some (.tup [z1]), some (.tup [z0, zm, z0, z0, z0, z0, z0, z0, z0, z0, z0, z0, z0, z0, z0, z0, z0, z0, z0, z0, z0, z0, z0, z0, z0, z0, z0, z0, z0, z0, z0, z0, z0, z0, z0, z0, z0, z0, z0, z0, z0, z0, z0, z0, z0, z0, z0, z0, z0, z0, z0, z0, z0, z0, z0, z0, z0, z0, z0, z0, z0, z0, z0, z0, z0, z0, z0, z0, z0, z0, z0, z0, z1, z0, z0, z0, z0, z0, z0, z0, z0, z0, z0, z0, z0, z0, z0, z0, z0, z0, z0, z0, z0, z0, z0, z0, z0, z0, z0, z0, z0, z0, z0, z0, z0, z0, z0, z0, z0, z0, z0, z0, z0, z0, z0, z0, z0, z0, z0, z0, z0, z0, z0, z0, z0, z0, z0, z0, z0, z0, z0, z0, z0, z0, z0, z0, z0, z0, z0, z0, z0, z0, z0, z0, z0]), some (.int 1), none]
def e7 : Mu.Env := [some (.int 1), some xs, some ys, some (.int 144), some (.tup [.tup [z1, z1, z0, z0, z0, z0, z0, z0, z0, z0, z0, z0, z0, z0, z0, z0, z0, z0, z0, z0, z0, z0, z0, z0, z0, z0, z0, z0, z0, z0, z0, z0, z0, z0, z0, z0, z0, z0, z0, z0, z0, z0, z0, z0, z0, z0, z0, z0, z0, z0, z0, z0, z0, z0, z0, z0, z0, z0, z0, z0, z0, z0, z0, z0, z0, z0, z0, z0, z0, z0, z0, z0, z0, z0, z0, z0, z0, z0, z0, z0, z0, z0, z0, z0, z0, z0, z0, z0, z0, z0, z0, z0, z0, z0, z0, z0, z0, z0, z0, z0, z0, z0, z0, z0, z0, z0, z0, z0, z0, z0, z0, z0, z0, z0, z0, z0, z0, z0, z0, z0, z0, z0, z0, z0, z0, z0, z0, z0, z0, z0, z0, z0, z0, z0, z0, z0, z0, z0, z0, z0, z0, z0, z0, z0, z0]]), some (.int 83), some (.tup [z1]), some (.tup [z0, zm, z0, z0, z0, z0, z0, z0, z0, z0, z0, z0, z0, z0, z0, z0, z0, z0, z0, z0, z0, z0, z0, z0, z0, z0, z0, z0, z0, z0, z0, z0, z0, z0, z0, z0, z0, z0, z0, z0, z0, z0, z0, z0, z0, z0, z0, z0, z0, z0, z0, z0, z0, z0, z0, z0, z0, z0, z0, z0, z0, z0, z0, z0, z0, z0, z0, z0, z0, z0, z0, z0, z0, z0, z0, z0, z0, z0, z0, z0, z0, z0, z0, z0, z1, z0, z0, z0, z0, z0, z0, z0, z0, z0, z0, z0, z0, z0, z0, z0, z0, z0, z0, z0, z0, z0, z0, z0, z0, z0, z0, z0, z0, z0, z0, z0, z0, z0, z0, z0, z0, z0, z0, z0, z0, z0, z0, z0, z0, z0, z0, z0, z0, z0, z0, z0, z0, z0, z0, z0, z0, z0, z0, z0, z0]), some (.int 1), none]
def e8 : Mu.Env := [some (.int 1), some xs, some ys, some (.int 144), some (.tup [.tup [z1, z1, z0, z0, z0, z0, z0, z0, z0, z0, z0, z0, z0, z0, z0, z0, z0, z0, z0, z0, z0, z0, z0, z0, z0, z0, z0, z0, z0, z0, z0, z0, z0, z0, z0, z0, z0, z0, z0, z0, z0, z0, z0, z0, z0, z0, z0, z0, z0, z0, z0, z0, z0, z0, z0, z0, z0, z0, z0, z0, z0, z0, z0, z0, z0, z0, z0, z0, z0, z0, z0, z0, z0, z0, z0, z0, z0, z0, z0, z0, z0, z0, z0, z0, z0, z0, z0, z0, z0, z0, z0, z0, z0, z0, z0, z0, z0, z0, z0, z0, z0, z0, z0, z0, z0, z0, z0, z0, z0, z0, z0, z0, z0, z0, z0, z0, z0, z0, z0, z0, z0, z0, z0, z0, z0, z0, z0, z0, z0, z0, z0, z0, z0, z0, z0, z0, z0, z0, z0, z0, z0, z0, z0, z0, z0]]), some (.int 95), some (.tup [z1]), some (.tup [z0, zm, z0, z0, z0, z0, z0, z0, z0, z0, z0, z0, z0, z0, z0, z0, z0, z0, z0, z0, z0, z0, z0, z0, z0, z0, z0, z0, z0, z0, z0, z0, z0, z0, z0, z0, z0, z0, z0, z0, z0, z0, z0, z0, z0, z0, z0, z0, z0, z0, z0, z0, z0, z0, z0, z0, z0, z0, z0, z0, z0, z0, z0, z0, z0, z0, z0, z0, z0, z0, z0, z0, z0, z0, z0, z0, z0, z0, z0, z0, z0, z0, z0, z0, z0, z0, z0, z0, z0, z0, z0, z0, z0, z0, z0, z0, z1, z0, z0, z0, z0, z0, z0, z0, z0, z0, z0, z0, z0, z0, z0, z0, z0, z0, z0, z0, z0, z0, z0, z0, z0, z0, z0, z0, z0, z0, z0, z0, z0, z0, z0, z0, z0, z0, z0, z0, z0, z0, z0, z0, z0, z0, z0, z0, z0]), some (.int 1), none]
def e9 : Mu.Env := [some (.int 1), some xs, some ys, some (.int 144), some (.tup [.tup [z1, z1, z0, z0, z0, z0, z0, z0, z0, z0, z0, z0, z0, z0, z0, z0, z0, z0, z0, z0, z0, z0, z0, z0, z0, z0, z0, z0, z0, z0, z0, z0, z0, z0, z0, z0, z0, z0, z0, z0, z0, z0, z0, z0, z0, z0, z0, z0, z0, z0, z0, z0, z0, z0, z0, z0, z0, z0, z0, z0, z0, z0, z0, z0, z0, z0, z0, z0, z0, z0, z0, z0, z0, z0, z0, z0, z0, z0, z0, z0, z0, z0, z0, z0, z0, z0, z0, z0, z0, z0, z0, z0, z0, z0, z0, z0, z0, z0, z0, z0, z0, z0, z0, z0, z0, z0, z0, z0, z0, z0, z0, z0, z0, z0, z0, z0, z0, z0, z0, z0, z0, z0, z0, z0, z0, z0, z0, z0, z0, z0, z0, z0, z0, z0, z0, z0, z0, z0, z0, z0, z0, z0, z0, z0, z0]]), some (.int 107), some (.tup [z1]), some (.tup [z0, zm, z0, z0, z0, z0, z0, z0, z0, z0, z0, z0, z0, z0, z0, z0, z0, z0, z0, z0, z0, z0, z0, z0, z0, z0, z0, z0, z0, z0, z0, z0, z0, z0, z0, z0, z0, z0, z0, z0, z0, z0, z0, z0, z0, z0, z0, z0, z0, z0, z0, z0, z0, z0, z0, z0, z0, z0, z0, z0, z0, z0, z0, z0, z0, z0, z0, z0, z0, z0, z0, z0, z0, z0, z0, z0, z0, z0, z0, z0, z0, z0, z0, z0, z0, z0, z0, z0, z0, z0, z0, z0, z0, z0, z0, z0, z0, z0, z0, z0, z0, z0, z0, z0, z0, z0, z0, z0, z1, z0, z0, z0, z0, z0, z0, z0, z0, z0, z0, z0, z0, z0, z0, z0, z0, z0, z0, z0, z0, z0, z0, z0, z0, z0, z0, z0, z0, z0, z0, z0, z0, z0, z0, z0, z0]), some (.int 1), none]
def e10 : Mu.Env := [some (.int 1), some xs, some ys, some (.int 144), some (.tup [.tup [z1, z1, z0, z0, z0, z0, z0, z0, z0, z0, z0, z0, z0, z0, z0, z0, z0, z0, z0, z0, z0, z0, z0, z0, z0, z0, z0, z0, z0, z0, z0, z0, z0, z0, z0, z0, z0, z0, z0, z0, z0, z0, z0, z0, z0, z0, z0, z0, z0, z0, z0, z0, z0, z0, z0, z0, z0, z0, z0, z0, z0, z0, z0, z0, z0, z0, z0, z0, z0, z0, z0, z0, z0, z0, z0, z0, z0, z0, z0, z0, z0, z0, z0, z0, z0, z0, z0, z0, z0, z0, z0, z0, z0, z0, z0, z0, z0, z0, z0, z0, z0, z0, z0, z0, z0, z0, z0, z0, z0, z0, z0, z0, z0, z0, z0, z0, z0, z0, z0, z0, z0, z0, z0, z0, z0, z0, z0, z0, z0, z0, z0, z0, z0, z0, z0, z0, z0, z0, z0, z0, z0, z0, z0, z0, z0]]), some (.int 119), some (.tup [z1]), some (.tup [z0, zm, z0, z0, z0, z0, z0, z0, z0, z0, z0, z0, z0, z0, z0, z0, z0, z0, z0, z0, z0, z0, z0, z0, z0, z0, z0, z0, z0, z0, z0, z0, z0, z0, z0, z0, z0, z0, z0, z0, z0, z0, z0, z0, z0, z0, z0, z0, z0, z0, z0, z0, z0, z0, z0, z0, z0, z0, z0, z0, z0, z0, z0, z0, z0, z0, z0, z0, z0, z0, z0, z0, z0, z0, z0, z0, z0, z0, z0, z0, z0, z0, z0, z0, z0, z0, z0, z0, z0, z0, z0, z0, z0, z0, z0, z0, z0, z0, z0, z0, z0, z0, z0, z0, z0, z0, z0, z0, z0, z0, z0, z0, z0, z0, z0, z0, z0, z0, z0, z0, z1, z0, z0, z0, z0, z0, z0, z0, z0, z0, z0, z0, z0, z0, z0, z0, z0, z0, z0, z0, z0, z0, z0, z0, z0]), some (.int 1), none]
def e11 : Mu.Env := [some (.int 1), some xs, some ys, some (.int 144), some (.tup [.tup [z1, z1, z0, z0, z0, z0, z0, z0, z0, z0, z0, z0, z0, z0, z0, z0, z0, z0, z0, z0, z0, z0, z0, z0, z0, z0, z0, z0, z0, z0, z0, z0, z0, z0, z0, z0, z0, z0, z0, z0, z0, z0, z0, z0, z0, z0, z0, z0, z0, z0, z0, z0, z0, z0, z0, z0, z0, z0, z0, z0, z0, z0, z0, z0, z0, z0, z0, z0, z0, z0, z0, z0, z0, z0, z0, z0, z0, z0, z0, z0, z0, z0, z0, z0, z0, z0, z0, z0, z0, z0, z0, z0, z0, z0, z0, z0, z0, z0, z0, z0, z0, z0, z0, z0, z0, z0, z0, z0, z0, z0, z0, z0, z0, z0, z0, z0, z0, z0, z0, z0, z0, z0, z0, z0, z0, z0, z0, z0, z0, z0, z0, z0, z0, z0, z0, z0, z0, z0, z0, z0, z0, z0, z0, z0, z0]]), some (.int 131), some (.tup [z1]), some (.tup [z0, zm, z0, z0, z0, z0, z0, z0, z0, z0, z0, z0, z0, z0, z0, z0, z0, z0, z0, z0, z0, z0, z0, z0, z0, z0, z0, z0, z0, z0, z0, z0, z0, z0, z0, z0, z0, z0, z0, z0, z0, z0, z0, z0, z0, z0, z0, z0, z0, z0, z0, z0, z0, z0, z0, z0, z0, z0, z0, z0, z0, z0, z0, z0, z0, z0, z0, z0, z0, z0, z0, z0, z0, z0, z0, z0, z0, z0, z0, z0, z0, z0, z0, z0, z0, z0, z0, z0, z0, z0, z0, z0, z0, z0, z0, z0, z0, z0, z0, z0, z0, z0, z0, z0, z0, z0, z0, z0, z0, z0, z0, z0, z0, z0, z0, z0, z0, z0, z0, z0, z0, z0, z0, z0, z0, z0, z0, z0, z0, z0, z0, z0, z1, z0, z0, z0, z0, z0, z0, z0, z0, z0, z0, z0, z0]), some (.int 1), none]
def e12 : Mu.Env := [some (.int 1), some xs, some ys, some (.int 144), some (.tup [.tup [z1, z1, z0, z0, z0, z0, z0, z0, z0, z0, z0, z0, z0, z0, z0, z0, z0, z0, z0, z0, z0, z0, z0, z0, z0, z0, z0, z0, z0, z0, z0, z0, z0, z0, z0, z0, z0, z0, z0, z0, z0, z0, z0, z0, z0, z0, z0, z0, z0, z0, z0, z0, z0, z0, z0, z0, z0, z0, z0, z0, z0, z0, z0, z0, z0, z0, z0, z0, z0, z0, z0, z0, z0, z0, z0, z0, z0, z0, z0, z0, z0, z0, z0, z0, z0, z0, z0, z0, z0, z0, z0, z0, z0, z0, z0, z0, z0, z0, z0, z0, z0, z0, z0, z0, z0, z0, z0, z0, z0, z0, z0, z0, z0, z0, z0, z0, z0, z0, z0, z0, z0, z0, z0, z0, z0, z0, z0, z0, z0, z0, z0, z0, z0, z0, z0, z0, z0, z0, z0, z0, z0, z0, z0, z0, z0]]), some (.int 143), some (.tup [z1]), some (.tup [z0, zm, z0, z0, z0, z0, z0, z0, z0, z0, z0, z0, z0, z0, z0, z0, z0, z0, z0, z0, z0, z0, z0, z0, z0, z0, z0, z0, z0, z0, z0, z0, z0, z0, z0, z0, z0, z0, z0, z0, z0, z0, z0, z0, z0, z0, z0, z0, z0, z0, z0, z0, z0, z0, z0, z0, z0, z0, z0, z0, z0, z0, z0, z0, z0, z0, z0, z0, z0, z0, z0, z0, z0, z0, z0, z0, z0, z0, z0, z0, z0, z0, z0, z0, z0, z0, z0, z0, z0, z0, z0, z0, z0, z0, z0, z0, z0, z0, z0, z0, z0, z0, z0, z0, z0, z0, z0, z0, z0, z0, z0, z0, z0, z0, z0, z0, z0, z0, z0, z0, z0, z0, z0, z0, z0, z0, z0, z0, z0, z0, z0, z0, z0, z0, z0, z0, z0, z0, z0, z0, z0, z0, z0, z0, z1]), some (.int 1), none]
def x0 : List D := [.tup [.int 0, .tup [z1]], .tup [.int 1, .tup [z1]], .tup [.int 2, .tup [z1]], .tup [.int 3, .tup [z1]], .tup [.int 4, .tup [z1]], .tup [.int 5, .tup [z1]], .tup [.int 6, .tup [z1]], .tup [.int 7, .tup [z1]], .tup [.int 8, .tup [z1]], .tup [.int 9, .tup [z1]], .tup [.int 10, .tup [z1]], .tup [.int 11, .tup [z1]]]
def x1 : List D := [.tup [.int 12, .tup [z1]], .tup [.int 13, .tup [z1]], .tup [.int 14, .tup [z1]], .tup [.int 15, .tup [z1]], .tup [.int 16, .tup [z1]], .tup [.int 17, .tup [z1]], .tup [.int 18, .tup [z1]], .tup [.int 19, .tup [z1]], .tup [.int 20, .tup [z1]], .tup [.int 21, .tup [z1]], .tup [.int 22, .tup [z1]], .tup [.int 23, .tup [z1]]]
def x2 : List D := [.tup [.int 24, .tup [z1]], .tup [.int 25, .tup [z1]], .tup [.int 26, .tup [z1]], .tup [.int 27, .tup [z1]], .tup [.int 28, .tup [z1]], .tup [.int 29, .tup [z1]], .tup [.int 30, .tup [z1]], .tup [.int 31, .tup [z1]], .tup [.int 32, .tup [z1]], .tup [.int 33, .tup [z1]], .tup [.int 34, .tup [z1]], .tup [.int 35, .tup [z1]]]
def x3 : List D := [.tup [.int 36, .tup [z1]], .tup [.int 37, .tup [z1]], .tup [.int 38, .tup [z1]], .tup [.int 39, .tup [z1]], .tup [.int 40, .tup [z1]], .tup [.int 41, .tup [z1]], .tup [.int 42, .tup [z1]], .tup [.int 43, .tup [z1]], .tup [.int 44, .tup [z1]], .tup [.int 45, .tup [z1]], .tup [.int 46, .tup [z1]], .tup [.int 47, .tup [z1]]]
def x4 : List D := [.tup [.int 48, .tup [z1]], .tup [.int 49, .tup [z1]], .tup [.int 50, .tup [z1]], .tup [.int 51, .tup [z1]], .tup [.int 52, .tup [z1]], .tup [.int 53, .tup [z1]], .tup [.int 54, .tup [z1]], .tup [.int 55, .tup [z1]], .tup [.int 56, .tup [z1]], .tup [.int 57, .tup [z1]], .tup [.int 58, .tup [z1]], .tup [.int 59, .tup [z1]]]
def x5 : List D := [.tup [.int 60, .tup [z1]], .tup [.int 61, .tup [z1]], .tup [.int 62, .tup [z1]], .tup [.int 63, .tup [z1]], .tup [.int 64, .tup [z1]], .tup [.int 65, .tup [z1]], .tup [.int 66, .tup [z1]], .tup [.int 67, .tup [z1]], .tup [.int 68, .tup [z1]], .tup [.int 69, .tup [z1]], .tup [.int 70, .tup [z1]], .tup [.int 71, .tup [z1]]]
def x6 : List D := [.tup [.int 72, .tup [z1]], .tup [.int 73, .tup [z1]], .tup [.int 74, .tup [z1]], .tup [.int 75, .tup [z1]], .tup [.int 76, .tup [z1]], .tup [.int 77, .tup [z1]], .tup [.int 78, .tup [z1]], .tup [.int 79, .tup [z1]], .tup [.int 80, .tup [z1]], .tup [.int 81, .tup [z1]], .tup [.int 82, .tup [z1]], .tup [.int 83, .tup [z1]]]
def x7 : List D := [.tup [.int 84, .tup [z1]], .tup [.int 85, .tup [z1]], .tup [.int 86, .tup [z1]], .tup [.int 87, .tup [z1]], .tup [.int 88, .tup [z1]], .tup [.int 89, .tup [z1]], .tup [.int 90, .tup [z1]], .tup [.int 91, .tup [z1]], .tup [.int 92, .tup [z1]], .tup [.int 93, .tup [z1]], .tup [.int 94, .tup [z1]], .tup [.int 95, .tup [z1]]]
def x8 : List D := [.tup [.int 96, .tup [z1]], .tup [.int 97, .tup [z1]], .tup [.int 98, .tup [z1]], .tup [.int 99, .tup [z1]], .tup [.int 100, .tup [z1]], .tup [.int 101, .tup [z1]], .tup [.int 102, .tup [z1]], .tup [.int 103, .tup [z1]], .tup [.int 104, .tup [z1]], .tup [.int 105, .tup [z1]], .tup [.int 106, .tup [z1]], .tup [.int 107, .tup [z1]]]
def x9 : List D := [.tup [.int 108, .tup [z1]], .tup [.int 109, .tup [z1]], .tup [.int 110, .tup [z1]], .tup [.int 111, .tup [z1]], .tup [.int 112, .tup [z1]], .tup [.int 113, .tup [z1]], .tup [.int 114, .tup [z1]], .tup [.int 115, .tup [z1]], .tup [.int 116, .tup [z1]], .tup [.int 117, .tup [z1]], .tup [.int 118, .tup [z1]], .tup [.int 119, .tup [z1]]]
def x10 : List D := [.tup [.int 120, .tup [z1]], .tup [.int 121, .tup [z1]], .tup [.int 122, .tup [z1]], .tup [.int 123, .tup [z1]], .tup [.int 124, .tup [z1]], .tup [.int 125, .tup [z1]], .tup [.int 126, .tup [z1]], .tup [.int 127, .tup [z1]], .tup [.int 128, .tup [z1]], .tup [.int 129, .tup [z1]], .tup [.int 130, .tup [z1]], .tup [.int 131, .tup [z1]]]
def x11 : List D := [.tup [.int 132, .tup [z1]], .tup [.int 133, .tup [z1]], .tup [.int 134, .tup [z1]], .tup [.int 135, .tup [z1]], .tup [.int 136, .tup [z1]], .tup [.int 137, .tup [z1]], .tup [.int 138, .tup [z1]], .tup [.int 139, .tup [z1]], .tup [.int 140, .tup [z1]], .tup [.int 141, .tup [z1]], .tup [.int 142, .tup [z1]], .tup [.int 143, .tup [z1]]]
def okL (r : Res (List D)) (xs : List D) : Bool := match r with
  | .ok ys st => D.beqs ys xs && stoB st []
  | _ => false
theorem okL_eq {r : Res (List D)} {xs : List D} (h : okL r xs = true) : r = .ok xs [] := by
  unfold okL at h
  split at h
  · rw [Bool.and_eq_true] at h
    rw [D.beqs_eq h.1, stoB_eq h.2]
  · cases h
def fbody : D → Mu.Env → Sto → SR := fun x env st => (tgD (fun e env st => ev CS 59 e env st) (.tup [.name 5, .name 6]) x env st).still.run env fun env st => exL (ex CS 59) [.asg (.name 7) (.call 23 [.var 4, .bin .Add (.var 6) (.call 13 [.var 3, .var 5])]), .asg (.name 8) (.call 11 [.var 7]), .ite (.cmp .Lt (.var 8) (.var 0)) [.asg (.name 7) (.call 16 [.call 8 [.con 5, .idx (.var 7) (.var 8)], .var 7]), .asg (.name 4) (.tupS [(true, .var 4), (false, .var 7)])] []] env st
theorem c0 : nextB (forS fbody x0 e0 []) e1 [] = true := by decide +kernel
theorem c1 : nextB (forS fbody x1 e1 []) e2 [] = true := by decide +kernel
theorem c2 : nextB (forS fbody x2 e2 []) e3 [] = true := by decide +kernel
theorem c3 : nextB (forS fbody x3 e3 []) e4 [] = true := by decide +kernel
theorem c4 : nextB (forS fbody x4 e4 []) e5 [] = true := by decide +kernel
theorem c5 : nextB (forS fbody x5 e5 []) e6 [] = true := by decide +kernel
theorem c6 : nextB (forS fbody x6 e6 []) e7 [] = true := by decide +kernel
theorem c7 : nextB (forS fbody x7 e7 []) e8 [] = true := by decide +kernel
theorem c8 : nextB (forS fbody x8 e8 []) e9 [] = true := by decide +kernel
theorem c9 : nextB (forS fbody x9 e9 []) e10 [] = true := by decide +kernel
theorem c10 : nextB (forS fbody x10 e10 []) e11 [] = true := by decide +kernel
theorem c11 : nextB (forS fbody x11 e11 []) e12 [] = true := by decide +kernel
theorem first : nextB (ex CS 60 (.par [3, 4] [.blt .len [.var 1], .tup []]) [some (.int 1), some xs, some ys, none, none, none, none, none, none, none] []) e0 [] = true := by decide +kernel
theorem walked : okL (itD (fun e st => ev CS 59 e e0 st) (.enum (.var 1)) []) (x0 ++ (x1 ++ (x2 ++ (x3 ++ (x4 ++ (x5 ++ (x6 ++ (x7 ++ (x8 ++ (x9 ++ (x10 ++ (x11 ++ [])))))))))))) = true := by decide +kernel
theorem last : retB (exL (ex CS 60) [.asg (.name 7) (.call 23 [.var 4, .bin .Add (.var 2) (.call 12 [.var 3])]), .ite (.not (.call 14 [.slc (.var 7) none (some (.var 0))])) [.ret (.lit .non)] [], .ret (.blt .tuple [.comp false (.call 7 [.var 9]) (.name 9) (.seq (.slc (.var 7) (some (.var 0)) none)) none [("one", 9)]])] e12 []) rs [] = true := by decide +kernel
theorem loop : ex CS 60 (.for_ (.tup [.name 5, .name 6]) (.enum (.var 1)) [.asg (.name 7) (.call 23 [.var 4, .bin .Add (.var 6) (.call 13 [.var 3, .var 5])]), .asg (.name 8) (.call 11 [.var 7]), .ite (.cmp .Lt (.var 8) (.var 0)) [.asg (.name 7) (.call 16 [.call 8 [.con 5, .idx (.var 7) (.var 8)], .var 7]), .asg (.name 4) (.tupS [(true, .var 4), (false, .var 7)])] []]) e0 [] = .next e12 [] := by
  show (itD (fun e st => ev CS 59 e e0 st) (.enum (.var 1)) []).run e0 (fun xs st => forL fbody xs e0 st) = _
  rw [okL_eq walked, Res.run_ok, forS_app (nextB_eq c0), forS_app (nextB_eq c1), forS_app (nextB_eq c2), forS_app (nextB_eq c3), forS_app (nextB_eq c4), forS_app (nextB_eq c5), forS_app (nextB_eq c6), forS_app (nextB_eq c7), forS_app (nextB_eq c8), forS_app (nextB_eq c9), forS_app (nextB_eq c10), forS_app (nextB_eq c11)]
  rfl
theorem low_a : D.lows 0 args = true := by decide +kernel
theorem low_r : rs.low 0 = true := by decide +kernel
theorem sums : callO T oN 61 [] 27 args [] = .ok rs [] := by
  rw [callO_run (F := d_sums_of) rfl rfl rfl]
  show finish none 0 (exL (ex CS 60) [.par [3, 4] [.blt .len [.var 1], .tup []], .for_ (.tup [.name 5, .name 6]) (.enum (.var 1)) [.asg (.name 7) (.call 23 [.var 4, .bin .Add (.var 6) (.call 13 [.var 3, .var 5])]), .asg (.name 8) (.call 11 [.var 7]), .ite (.cmp .Lt (.var 8) (.var 0)) [.asg (.name 7) (.call 16 [.call 8 [.con 5, .idx (.var 7) (.var 8)], .var 7]), .asg (.name 4) (.tupS [(true, .var 4), (false, .var 7)])] []], .asg (.name 7) (.call 23 [.var 4, .bin .Add (.var 2) (.call 12 [.var 3])]), .ite (.not (.call 14 [.slc (.var 7) none (some (.var 0))])) [.ret (.lit .non)] [], .ret (.blt .tuple [.comp false (.call 7 [.var 9]) (.name 9) (.seq (.slc (.var 7) (some (.var 0)) none)) none [("one", 9)]])] [some (.int 1), some xs, some ys, none, none, none, none, none, none, none] []) = _
  rw [xL_cons, nextB_eq first, SR.then_next, xL_cons, loop, SR.then_next, retB_eq last]
  show trim 0 rs [] = _
  unfold trim
  rw [low_r]
  rfl
def oE : List Frm → Sto → Nat → List D → Option D := orS oN (memoS [(27, args, rs)])
theorem oE_ok : OrS T oE 103 := orS_ok (oN_ok.mono (by omega)) (memoS_ok (k0 := 42) (k := 61) tabP oN_ok fun p h => by
  cases List.mem_singleton.mp h
  exact ⟨low_a, low_r, sums⟩)
theorem endq : retT (exL (ex (cfOf T 126 [] d_law.lams (callO T oE 126) (cloO T oE 126)) deep) (d_law.body.drop 1) (List.replicate 7 none) []) = true := by decide +kernel
theorem end_ok : endB T 229 7 (d_law.body.drop 1) d_law.lams = true := endO_of (k0 := 103) (k := 126) tabP oE_ok endq
end L38

end
section
set_option linter.all false
set_option Elab.async false
set_option maxRecDepth 100000
/-! The steps of the judge. -/
namespace L38
open Mu PySem
theorem st0 (E : Mu.Env) {st : Sto} {j : Nat}  : ex (cfOf T 228 (pushF [] [] E) d__law_right.lams (callF T 228) (cloF T 228)) 60 s0 [some (.ref j), none, none, none, none, none, none, none, none, none, none, none, none, none, none, none, none] st = .next [some (.ref j), some (.tup [.int 1, .int 1]), some (.tup [.int 0, .int 1]), none, none, none, none, none, none, none, none, none, none, none, none, none, none] st := by kernel_rfl
theorem st6 (E : Mu.Env) {st : Sto} {j : Nat} {podd : D} {podd_r : Str} (h_podd : (podd, podd_r) ∈ m_podd) {pform : D} (h_pform : pform ∈ m_pform) {prow : D} (h_prow : prow ∈ m_prow) {prules : D} (h_prules : prules ∈ m_prules prow) {pwish : D} (h_pwish : pwish ∈ m_pwish) : ex (cfOf T 228 (pushF [] [] E) d__law_right.lams (callF T 228) (cloF T 228)) 60 s6 [some (.ref j), some (.tup [.int 1, .int 1]), some (.tup [.int 0, .int 1]), some (podd), some (pform), some (prow), some (prules), some (pwish), none, none, none, none, none, none, none, none, none] st = .next [some (.ref j), some (.tup [.int 1, .int 1]), some (.tup [.int 0, .int 1]), some (podd), some (pform), some (prow), some (prules), some (pwish), some (.tup [.tup [.tup [.int 1, .int 1], .tup [.int 0, .int 1]], .tup [.tup [.int 0, .int 1], .tup [.int 1, .int 1]]]), some (.tup [.tup [.int 1, .int 1], .tup [.int 0, .int 1]]), some (.tup [.tup [.tup [.int 1, .int 1], .tup [.int 1, .int 1]]]), none, none, none, none, none, none] st := by kernel_rfl
theorem st7_0_0 (E : Mu.Env) {st : Sto} {j : Nat} {podd : D} {podd_r : Str} (h_podd : (podd, podd_r) ∈ m_podd) {pform : D} (h_pform : pform ∈ m_pform) {prow : D} (h_prow : prow ∈ m_prow) {prules : D} (h_prules : prules ∈ m_prules prow) {pwish : D} (h_pwish : pwish ∈ m_pwish) : ex (cfOf T 228 (pushF [] [] E) d__law_right.lams (callF T 228) (cloF T 228)) 59 (bd7.getD 0 .pass) [some (.ref j), some (.tup [.int 1, .int 1]), some (.tup [.int 0, .int 1]), some (podd), some (pform), some (prow), some (prules), some (pwish), some (.tup [.tup [.tup [.int 1, .int 1], .tup [.int 0, .int 1]], .tup [.tup [.int 0, .int 1], .tup [.int 1, .int 1]]]), some (.tup [.tup [.int 1, .int 1], .tup [.int 0, .int 1]]), some (.tup [.tup [.tup [.int 1, .int 1], .tup [.int 1, .int 1]]]), some (.fn 64), none, none, none, none, none] st = .next [some (.ref j), some (.tup [.int 1, .int 1]), some (.tup [.int 0, .int 1]), some (podd), some (pform), some (prow), some (prules), some (pwish), some (.tup [.tup [.tup [.int 1, .int 1], .tup [.int 0, .int 1]], .tup [.tup [.int 0, .int 1], .tup [.int 1, .int 1]]]), some (.tup [.tup [.int 1, .int 1], .tup [.int 0, .int 1]]), some (.tup [.tup [.tup [.int 1, .int 1], .tup [.int 1, .int 1]]]), some (.fn 64), some (.lst [.clo 0 0, .clo 0 1, .clo 0 2, .clo 0 3, .clo 0 4, .clo 0 5, .clo 0 6]), none, none, none, none] st := by kernel_rfl
theorem st7_0_1 (E : Mu.Env) {st : Sto} {j : Nat} {podd : D} {podd_r : Str} (h_podd : (podd, podd_r) ∈ m_podd) {pform : D} (h_pform : pform ∈ m_pform) {prow : D} (h_prow : prow ∈ m_prow) {prules : D} (h_prules : prules ∈ m_prules prow) {pwish : D} (h_pwish : pwish ∈ m_pwish) : ex (cfOf T 228 (pushF [] [] E) d__law_right.lams (callF T 228) (cloF T 228)) 59 (bd7.getD 1 .pass) [some (.ref j), some (.tup [.int 1, .int 1]), some (.tup [.int 0, .int 1]), some (podd), some (pform), some (prow), some (prules), some (pwish), some (.tup [.tup [.tup [.int 1, .int 1], .tup [.int 0, .int 1]], .tup [.tup [.int 0, .int 1], .tup [.int 1, .int 1]]]), some (.tup [.tup [.int 1, .int 1], .tup [.int 0, .int 1]]), some (.tup [.tup [.tup [.int 1, .int 1], .tup [.int 1, .int 1]]]), some (.fn 64), some (.lst [.clo 0 0, .clo 0 1, .clo 0 2, .clo 0 3, .clo 0 4, .clo 0 5, .clo 0 6]), none, none, none, none] st = .next [some (.ref j), some (.tup [.int 1, .int 1]), some (.tup [.int 0, .int 1]), some (podd), some (pform), some (prow), some (prules), some (pwish), some (.tup [.tup [.tup [.int 1, .int 1], .tup [.int 0, .int 1]], .tup [.tup [.int 0, .int 1], .tup [.int 1, .int 1]]]), some (.tup [.tup [.int 1, .int 1], .tup [.int 0, .int 1]]), some (.tup [.tup [.tup [.int 1, .int 1], .tup [.int 1, .int 1]]]), some (.fn 64), some (.lst [.clo 0 0, .clo 0 1, .clo 0 2, .clo 0 3, .clo 0 4, .clo 0 5, .clo 0 6]), some (.lst [.str ("count " ++ podd_r), .str "form", .str "row", .str "row", .str "row", .str "fine", .str "fine"]), none, none, none] st := by
  have rr_podd := rOf (List.all_eq_true.mp m_podd_r _ h_podd)
  have so_podd := rr_podd.2.2
  obtain ⟨C, hC⟩ : ∃ C, C = cfOf T 228 (pushF [] [] E) d__law_right.lams (callF T 228) (cloF T 228) := ⟨_, rfl⟩
  rw [← hC]
  have a2 : ev C 57 (.bin .Add (.lit (.str "count ")) (.blt .repr [.var 3])) [some (.ref j), some (.tup [.int 1, .int 1]), some (.tup [.int 0, .int 1]), some (podd), some (pform), some (prow), some (prules), some (pwish), some (.tup [.tup [.tup [.int 1, .int 1], .tup [.int 0, .int 1]], .tup [.tup [.int 0, .int 1], .tup [.int 1, .int 1]]]), some (.tup [.tup [.int 1, .int 1], .tup [.int 0, .int 1]]), some (.tup [.tup [.tup [.int 1, .int 1], .tup [.int 1, .int 1]]]), some (.fn 64), some (.lst [.clo 0 0, .clo 0 1, .clo 0 2, .clo 0 3, .clo 0 4, .clo 0 5, .clo 0 6]), none, none, none, none] st = .ok (.str ("count " ++ podd_r)) st := cnt_ev (n := 54) (d := podd) rfl rr_podd.1 rr_podd.2.1
  have a3 : ev C 57 (.lit (.str "form")) [some (.ref j), some (.tup [.int 1, .int 1]), some (.tup [.int 0, .int 1]), some (podd), some (pform), some (prow), some (prules), some (pwish), some (.tup [.tup [.tup [.int 1, .int 1], .tup [.int 0, .int 1]], .tup [.tup [.int 0, .int 1], .tup [.int 1, .int 1]]]), some (.tup [.tup [.int 1, .int 1], .tup [.int 0, .int 1]]), some (.tup [.tup [.tup [.int 1, .int 1], .tup [.int 1, .int 1]]]), some (.fn 64), some (.lst [.clo 0 0, .clo 0 1, .clo 0 2, .clo 0 3, .clo 0 4, .clo 0 5, .clo 0 6]), none, none, none, none] st = .ok (.str "form") st := by kernel_rfl
  have a4 : ev C 57 (.lit (.str "row")) [some (.ref j), some (.tup [.int 1, .int 1]), some (.tup [.int 0, .int 1]), some (podd), some (pform), some (prow), some (prules), some (pwish), some (.tup [.tup [.tup [.int 1, .int 1], .tup [.int 0, .int 1]], .tup [.tup [.int 0, .int 1], .tup [.int 1, .int 1]]]), some (.tup [.tup [.int 1, .int 1], .tup [.int 0, .int 1]]), some (.tup [.tup [.tup [.int 1, .int 1], .tup [.int 1, .int 1]]]), some (.fn 64), some (.lst [.clo 0 0, .clo 0 1, .clo 0 2, .clo 0 3, .clo 0 4, .clo 0 5, .clo 0 6]), none, none, none, none] st = .ok (.str "row") st := by kernel_rfl
  have a5 : ev C 57 (.lit (.str "row")) [some (.ref j), some (.tup [.int 1, .int 1]), some (.tup [.int 0, .int 1]), some (podd), some (pform), some (prow), some (prules), some (pwish), some (.tup [.tup [.tup [.int 1, .int 1], .tup [.int 0, .int 1]], .tup [.tup [.int 0, .int 1], .tup [.int 1, .int 1]]]), some (.tup [.tup [.int 1, .int 1], .tup [.int 0, .int 1]]), some (.tup [.tup [.tup [.int 1, .int 1], .tup [.int 1, .int 1]]]), some (.fn 64), some (.lst [.clo 0 0, .clo 0 1, .clo 0 2, .clo 0 3, .clo 0 4, .clo 0 5, .clo 0 6]), none, none, none, none] st = .ok (.str "row") st := by kernel_rfl
  have a6 : ev C 57 (.lit (.str "row")) [some (.ref j), some (.tup [.int 1, .int 1]), some (.tup [.int 0, .int 1]), some (podd), some (pform), some (prow), some (prules), some (pwish), some (.tup [.tup [.tup [.int 1, .int 1], .tup [.int 0, .int 1]], .tup [.tup [.int 0, .int 1], .tup [.int 1, .int 1]]]), some (.tup [.tup [.int 1, .int 1], .tup [.int 0, .int 1]]), some (.tup [.tup [.tup [.int 1, .int 1], .tup [.int 1, .int 1]]]), some (.fn 64), some (.lst [.clo 0 0, .clo 0 1, .clo 0 2, .clo 0 3, .clo 0 4, .clo 0 5, .clo 0 6]), none, none, none, none] st = .ok (.str "row") st := by kernel_rfl
  have a7 : ev C 57 (.lit (.str "fine")) [some (.ref j), some (.tup [.int 1, .int 1]), some (.tup [.int 0, .int 1]), some (podd), some (pform), some (prow), some (prules), some (pwish), some (.tup [.tup [.tup [.int 1, .int 1], .tup [.int 0, .int 1]], .tup [.tup [.int 0, .int 1], .tup [.int 1, .int 1]]]), some (.tup [.tup [.int 1, .int 1], .tup [.int 0, .int 1]]), some (.tup [.tup [.tup [.int 1, .int 1], .tup [.int 1, .int 1]]]), some (.fn 64), some (.lst [.clo 0 0, .clo 0 1, .clo 0 2, .clo 0 3, .clo 0 4, .clo 0 5, .clo 0 6]), none, none, none, none] st = .ok (.str "fine") st := by kernel_rfl
  have a8 : ev C 57 (.lit (.str "fine")) [some (.ref j), some (.tup [.int 1, .int 1]), some (.tup [.int 0, .int 1]), some (podd), some (pform), some (prow), some (prules), some (pwish), some (.tup [.tup [.tup [.int 1, .int 1], .tup [.int 0, .int 1]], .tup [.tup [.int 0, .int 1], .tup [.int 1, .int 1]]]), some (.tup [.tup [.int 1, .int 1], .tup [.int 0, .int 1]]), some (.tup [.tup [.tup [.int 1, .int 1], .tup [.int 1, .int 1]]]), some (.fn 64), some (.lst [.clo 0 0, .clo 0 1, .clo 0 2, .clo 0 3, .clo 0 4, .clo 0 5, .clo 0 6]), none, none, none, none] st = .ok (.str "fine") st := by kernel_rfl
  have a1 : ev C 58 (.lst [.bin .Add (.lit (.str "count ")) (.blt .repr [.var 3]), .lit (.str "form"), .lit (.str "row"), .lit (.str "row"), .lit (.str "row"), .lit (.str "fine"), .lit (.str "fine")]) [some (.ref j), some (.tup [.int 1, .int 1]), some (.tup [.int 0, .int 1]), some (podd), some (pform), some (prow), some (prules), some (pwish), some (.tup [.tup [.tup [.int 1, .int 1], .tup [.int 0, .int 1]], .tup [.tup [.int 0, .int 1], .tup [.int 1, .int 1]]]), some (.tup [.tup [.int 1, .int 1], .tup [.int 0, .int 1]]), some (.tup [.tup [.tup [.int 1, .int 1], .tup [.int 1, .int 1]]]), some (.fn 64), some (.lst [.clo 0 0, .clo 0 1, .clo 0 2, .clo 0 3, .clo 0 4, .clo 0 5, .clo 0 6]), none, none, none, none] st = .ok (.lst [.str ("count " ++ podd_r), .str "form", .str "row", .str "row", .str "row", .str "fine", .str "fine"]) st := by
    rw [z_lst, qL_cons, a2, Res.bind_ok, qL_cons, a3, Res.bind_ok, qL_cons, a4, Res.bind_ok, qL_cons, a5, Res.bind_ok, qL_cons, a6, Res.bind_ok, qL_cons, a7, Res.bind_ok, qL_cons, a8, Res.bind_ok, qL_nil]
    simp
  show ex C 59 (.asg (.name 13) (.lst [.bin .Add (.lit (.str "count ")) (.blt .repr [.var 3]), .lit (.str "form"), .lit (.str "row"), .lit (.str "row"), .lit (.str "row"), .lit (.str "fine"), .lit (.str "fine")])) [some (.ref j), some (.tup [.int 1, .int 1]), some (.tup [.int 0, .int 1]), some (podd), some (pform), some (prow), some (prules), some (pwish), some (.tup [.tup [.tup [.int 1, .int 1], .tup [.int 0, .int 1]], .tup [.tup [.int 0, .int 1], .tup [.int 1, .int 1]]]), some (.tup [.tup [.int 1, .int 1], .tup [.int 0, .int 1]]), some (.tup [.tup [.tup [.int 1, .int 1], .tup [.int 1, .int 1]]]), some (.fn 64), some (.lst [.clo 0 0, .clo 0 1, .clo 0 2, .clo 0 3, .clo 0 4, .clo 0 5, .clo 0 6]), none, none, none, none] st = _
  rw [x_asg, a1]
  simp
theorem st7_0_2 (E : Mu.Env) {st : Sto} {j : Nat} (B : Base st) {podd : D} {podd_r : Str} (h_podd : (podd, podd_r) ∈ m_podd) {pform : D} (h_pform : pform ∈ m_pform) {prow : D} (h_prow : prow ∈ m_prow) {prules : D} (h_prules : prules ∈ m_prules prow) {pwish : D} (h_pwish : pwish ∈ m_pwish) : ex (cfOf T 228 (pushF [] [] E) d__law_right.lams (callF T 228) (cloF T 228)) 59 (bd7.getD 2 .pass) [some (.ref j), some (.tup [.int 1, .int 1]), some (.tup [.int 0, .int 1]), some (podd), some (pform), some (prow), some (prules), some (pwish), some (.tup [.tup [.tup [.int 1, .int 1], .tup [.int 0, .int 1]], .tup [.tup [.int 0, .int 1], .tup [.int 1, .int 1]]]), some (.tup [.tup [.int 1, .int 1], .tup [.int 0, .int 1]]), some (.tup [.tup [.tup [.int 1, .int 1], .tup [.int 1, .int 1]]]), some (.fn 64), some (.lst [.clo 0 0, .clo 0 1, .clo 0 2, .clo 0 3, .clo 0 4, .clo 0 5, .clo 0 6]), some (.lst [.str ("count " ++ podd_r), .str "form", .str "row", .str "row", .str "row", .str "fine", .str "fine"]), none, none, none] st = .next [some (.ref j), some (.tup [.int 1, .int 1]), some (.tup [.int 0, .int 1]), some (podd), some (pform), some (prow), some (prules), some (pwish), some (.tup [.tup [.tup [.int 1, .int 1], .tup [.int 0, .int 1]], .tup [.tup [.int 0, .int 1], .tup [.int 1, .int 1]]]), some (.tup [.tup [.int 1, .int 1], .tup [.int 0, .int 1]]), some (.tup [.tup [.tup [.int 1, .int 1], .tup [.int 1, .int 1]]]), some (.fn 64), some (.lst [.clo 0 0, .clo 0 1, .clo 0 2, .clo 0 3, .clo 0 4, .clo 0 5, .clo 0 6]), some (.lst [.str ("count " ++ podd_r), .str "form", .str "row", .str "row", .str "row", .str "fine", .str "fine"]), none, none, none] st := by
  have low_podd : podd.low 0 = true := List.all_eq_true.mp m_podd_l _ h_podd
  have rr_podd := rOf (List.all_eq_true.mp m_podd_r _ h_podd)
  have so_podd := rr_podd.2.2
  have low_pform : pform.low 0 = true := List.all_eq_true.mp m_pform_l _ h_pform
  have low_prow : prow.low 0 = true := List.all_eq_true.mp m_prow_l _ h_prow
  have low_prules : prules.low 0 = true := lowOf_prules low_prow h_prules
  have low_pwish : pwish.low 0 = true := List.all_eq_true.mp m_pwish_l _ h_pwish
  have y0_0 := all_mem (f7_0_2_0 pform prow prules pwish) _ h_podd
  have w0 : callF T 228 (pushF [] d__law_right.lams [some (.ref j), some (.tup [.int 1, .int 1]), some (.tup [.int 0, .int 1]), some (podd), some (pform), some (prow), some (prules), some (pwish), some (.tup [.tup [.tup [.int 1, .int 1], .tup [.int 0, .int 1]], .tup [.tup [.int 0, .int 1], .tup [.int 1, .int 1]]]), some (.tup [.tup [.int 1, .int 1], .tup [.int 0, .int 1]]), some (.tup [.tup [.tup [.int 1, .int 1], .tup [.int 1, .int 1]]]), some (.fn 64), some (.lst [.clo 0 0, .clo 0 1, .clo 0 2, .clo 0 3, .clo 0 4, .clo 0 5, .clo 0 6]), some (.lst [.str ("count " ++ podd_r), .str "form", .str "row", .str "row", .str "row", .str "fine", .str "fine"]), none, none, none]) 72 [.clo 0 0] st = .ok (.str ("count " ++ podd_r)) st := call_up tabP B (frR_sub (.no (.no (.no (.an low_podd (.an low_pform (.an low_prow (.an low_prules (.an low_pwish (.no (.no (.no (.an rfl (.no (.no (.no (.no (.no (Sub.nil))))))))))))))))))) rfl rfl (okB_eq y0_0)
  have y1_0 := all_mem (f7_0_2_1 prow prules pwish) _ h_pform
  have w1 : callF T 228 (pushF [] d__law_right.lams [some (.ref j), some (.tup [.int 1, .int 1]), some (.tup [.int 0, .int 1]), some (podd), some (pform), some (prow), some (prules), some (pwish), some (.tup [.tup [.tup [.int 1, .int 1], .tup [.int 0, .int 1]], .tup [.tup [.int 0, .int 1], .tup [.int 1, .int 1]]]), some (.tup [.tup [.int 1, .int 1], .tup [.int 0, .int 1]]), some (.tup [.tup [.tup [.int 1, .int 1], .tup [.int 1, .int 1]]]), some (.fn 64), some (.lst [.clo 0 0, .clo 0 1, .clo 0 2, .clo 0 3, .clo 0 4, .clo 0 5, .clo 0 6]), some (.lst [.str ("count " ++ podd_r), .str "form", .str "row", .str "row", .str "row", .str "fine", .str "fine"]), none, none, none]) 72 [.clo 0 1] st = .ok (.str "form") st := call_up tabP B (frR_sub (.no (.no (.no (.no (.an low_pform (.an low_prow (.an low_prules (.an low_pwish (.no (.no (.no (.an rfl (.no (.no (.no (.no (.no (Sub.nil))))))))))))))))))) rfl rfl (okB_eq y1_0)
  have y2_0 := all_mem (f7_0_2_2 prules pwish) _ h_prow
  have w2 : callF T 228 (pushF [] d__law_right.lams [some (.ref j), some (.tup [.int 1, .int 1]), some (.tup [.int 0, .int 1]), some (podd), some (pform), some (prow), some (prules), some (pwish), some (.tup [.tup [.tup [.int 1, .int 1], .tup [.int 0, .int 1]], .tup [.tup [.int 0, .int 1], .tup [.int 1, .int 1]]]), some (.tup [.tup [.int 1, .int 1], .tup [.int 0, .int 1]]), some (.tup [.tup [.tup [.int 1, .int 1], .tup [.int 1, .int 1]]]), some (.fn 64), some (.lst [.clo 0 0, .clo 0 1, .clo 0 2, .clo 0 3, .clo 0 4, .clo 0 5, .clo 0 6]), some (.lst [.str ("count " ++ podd_r), .str "form", .str "row", .str "row", .str "row", .str "fine", .str "fine"]), none, none, none]) 72 [.clo 0 2] st = .ok (.str "row") st := call_up tabP B (frR_sub (.no (.no (.no (.no (.no (.an low_prow (.an low_prules (.an low_pwish (.an rfl (.no (.no (.an rfl (.no (.no (.no (.no (.no (Sub.nil))))))))))))))))))) rfl rfl (okB_eq y2_0)
  have y3_0 := all_mem (f7_0_2_3 pwish) _ h_prow
  have y3_1 := all_mem y3_0 _ h_prules
  have w3 : callF T 228 (pushF [] d__law_right.lams [some (.ref j), some (.tup [.int 1, .int 1]), some (.tup [.int 0, .int 1]), some (podd), some (pform), some (prow), some (prules), some (pwish), some (.tup [.tup [.tup [.int 1, .int 1], .tup [.int 0, .int 1]], .tup [.tup [.int 0, .int 1], .tup [.int 1, .int 1]]]), some (.tup [.tup [.int 1, .int 1], .tup [.int 0, .int 1]]), some (.tup [.tup [.tup [.int 1, .int 1], .tup [.int 1, .int 1]]]), some (.fn 64), some (.lst [.clo 0 0, .clo 0 1, .clo 0 2, .clo 0 3, .clo 0 4, .clo 0 5, .clo 0 6]), some (.lst [.str ("count " ++ podd_r), .str "form", .str "row", .str "row", .str "row", .str "fine", .str "fine"]), none, none, none]) 72 [.clo 0 3] st = .ok (.str "row") st := call_up tabP B (frR_sub (.no (.no (.no (.no (.no (.no (.an low_prules (.an low_pwish (.an rfl (.an rfl (.no (.an rfl (.no (.no (.no (.no (.no (Sub.nil))))))))))))))))))) rfl rfl (okB_eq y3_1)
  have y4_0 := all_mem f7_0_2_4 _ h_pwish
  have w4 : callF T 228 (pushF [] d__law_right.lams [some (.ref j), some (.tup [.int 1, .int 1]), some (.tup [.int 0, .int 1]), some (podd), some (pform), some (prow), some (prules), some (pwish), some (.tup [.tup [.tup [.int 1, .int 1], .tup [.int 0, .int 1]], .tup [.tup [.int 0, .int 1], .tup [.int 1, .int 1]]]), some (.tup [.tup [.int 1, .int 1], .tup [.int 0, .int 1]]), some (.tup [.tup [.tup [.int 1, .int 1], .tup [.int 1, .int 1]]]), some (.fn 64), some (.lst [.clo 0 0, .clo 0 1, .clo 0 2, .clo 0 3, .clo 0 4, .clo 0 5, .clo 0 6]), some (.lst [.str ("count " ++ podd_r), .str "form", .str "row", .str "row", .str "row", .str "fine", .str "fine"]), none, none, none]) 72 [.clo 0 4] st = .ok (.str "row") st := call_up tabP B (frR_sub (.no (.no (.no (.no (.no (.no (.no (.an low_pwish (.an rfl (.an rfl (.an rfl (.an rfl (.no (.no (.no (.no (.no (Sub.nil))))))))))))))))))) rfl rfl (okB_eq y4_0)
  have w5 : callF T 228 (pushF [] d__law_right.lams [some (.ref j), some (.tup [.int 1, .int 1]), some (.tup [.int 0, .int 1]), some (podd), some (pform), some (prow), some (prules), some (pwish), some (.tup [.tup [.tup [.int 1, .int 1], .tup [.int 0, .int 1]], .tup [.tup [.int 0, .int 1], .tup [.int 1, .int 1]]]), some (.tup [.tup [.int 1, .int 1], .tup [.int 0, .int 1]]), some (.tup [.tup [.tup [.int 1, .int 1], .tup [.int 1, .int 1]]]), some (.fn 64), some (.lst [.clo 0 0, .clo 0 1, .clo 0 2, .clo 0 3, .clo 0 4, .clo 0 5, .clo 0 6]), some (.lst [.str ("count " ++ podd_r), .str "form", .str "row", .str "row", .str "row", .str "fine", .str "fine"]), none, none, none]) 72 [.clo 0 5] st = .ok (.str "fine") st := call_up tabP B (frR_sub (.no (.an rfl (.no (.no (.no (.no (.no (.no (.an rfl (.an rfl (.an rfl (.an rfl (.no (.no (.no (.no (.no (Sub.nil))))))))))))))))))) rfl rfl (okB_eq f7_0_2_5)
  have w6 : callF T 228 (pushF [] d__law_right.lams [some (.ref j), some (.tup [.int 1, .int 1]), some (.tup [.int 0, .int 1]), some (podd), some (pform), some (prow), some (prules), some (pwish), some (.tup [.tup [.tup [.int 1, .int 1], .tup [.int 0, .int 1]], .tup [.tup [.int 0, .int 1], .tup [.int 1, .int 1]]]), some (.tup [.tup [.int 1, .int 1], .tup [.int 0, .int 1]]), some (.tup [.tup [.tup [.int 1, .int 1], .tup [.int 1, .int 1]]]), some (.fn 64), some (.lst [.clo 0 0, .clo 0 1, .clo 0 2, .clo 0 3, .clo 0 4, .clo 0 5, .clo 0 6]), some (.lst [.str ("count " ++ podd_r), .str "form", .str "row", .str "row", .str "row", .str "fine", .str "fine"]), none, none, none]) 72 [.clo 0 6] st = .ok (.str "fine") st := call_up tabP B (frR_sub (.no (.no (.no (.no (.no (.no (.no (.no (.an rfl (.an rfl (.no (.an rfl (.no (.no (.no (.no (.no (Sub.nil))))))))))))))))))) rfl rfl (okB_eq f7_0_2_6)
  exact words_okK (T := T) (k := 228) (fr := pushF [] [] E) (lams := d__law_right.lams) (n := 52) (W := 72) (v := 15) (c := 12) (d := 0) [(0, ("count " ++ podd_r)), (1, "form"), (2, "row"), (3, "row"), (4, "row"), (5, "fine"), (6, "fine")] rfl (of_decide_eq_true rfl) (of_decide_eq_true rfl) (List.forall_mem_cons.mpr ⟨so_podd, List.forall_mem_cons.mpr ⟨by decide +kernel, List.forall_mem_cons.mpr ⟨by decide +kernel, List.forall_mem_cons.mpr ⟨by decide +kernel, List.forall_mem_cons.mpr ⟨by decide +kernel, List.forall_mem_cons.mpr ⟨by decide +kernel, List.forall_mem_cons.mpr ⟨by decide +kernel, fun _ h => nomatch h⟩⟩⟩⟩⟩⟩⟩) (List.forall_mem_cons.mpr ⟨w0, List.forall_mem_cons.mpr ⟨w1, List.forall_mem_cons.mpr ⟨w2, List.forall_mem_cons.mpr ⟨w3, List.forall_mem_cons.mpr ⟨w4, List.forall_mem_cons.mpr ⟨w5, List.forall_mem_cons.mpr ⟨w6, fun _ h => nomatch h⟩⟩⟩⟩⟩⟩⟩) (by kernel_rfl)
theorem st7_1_0 (E : Mu.Env) {st : Sto} {j : Nat} {podd : D} {podd_r : Str} (h_podd : (podd, podd_r) ∈ m_podd) {pform : D} (h_pform : pform ∈ m_pform) {prow : D} (h_prow : prow ∈ m_prow) {prules : D} (h_prules : prules ∈ m_prules prow) {pwish : D} (h_pwish : pwish ∈ m_pwish) : ex (cfOf T 228 (pushF [] [] E) d__law_right.lams (callF T 228) (cloF T 228)) 59 (bd7.getD 0 .pass) [some (.ref j), some (.tup [.int 1, .int 1]), some (.tup [.int 0, .int 1]), some (podd), some (pform), some (prow), some (prules), some (pwish), some (.tup [.tup [.tup [.int 1, .int 1], .tup [.int 0, .int 1]], .tup [.tup [.int 0, .int 1], .tup [.int 1, .int 1]]]), some (.tup [.tup [.int 1, .int 1], .tup [.int 0, .int 1]]), some (.tup [.tup [.tup [.int 1, .int 1], .tup [.int 1, .int 1]]]), some (.fn 66), some (.lst [.clo 0 0, .clo 0 1, .clo 0 2, .clo 0 3, .clo 0 4, .clo 0 5, .clo 0 6]), some (.lst [.str ("count " ++ podd_r), .str "form", .str "row", .str "row", .str "row", .str "fine", .str "fine"]), none, none, none] st = .next [some (.ref j), some (.tup [.int 1, .int 1]), some (.tup [.int 0, .int 1]), some (podd), some (pform), some (prow), some (prules), some (pwish), some (.tup [.tup [.tup [.int 1, .int 1], .tup [.int 0, .int 1]], .tup [.tup [.int 0, .int 1], .tup [.int 1, .int 1]]]), some (.tup [.tup [.int 1, .int 1], .tup [.int 0, .int 1]]), some (.tup [.tup [.tup [.int 1, .int 1], .tup [.int 1, .int 1]]]), some (.fn 66), some (.lst [.clo 0 0, .clo 0 1, .clo 0 2, .clo 0 3, .clo 0 4, .clo 0 5, .clo 0 6]), some (.lst [.str ("count " ++ podd_r), .str "form", .str "row", .str "row", .str "row", .str "fine", .str "fine"]), none, none, none] st := by kernel_rfl
theorem st7_1_1 (E : Mu.Env) {st : Sto} {j : Nat} {podd : D} {podd_r : Str} (h_podd : (podd, podd_r) ∈ m_podd) {pform : D} (h_pform : pform ∈ m_pform) {prow : D} (h_prow : prow ∈ m_prow) {prules : D} (h_prules : prules ∈ m_prules prow) {pwish : D} (h_pwish : pwish ∈ m_pwish) : ex (cfOf T 228 (pushF [] [] E) d__law_right.lams (callF T 228) (cloF T 228)) 59 (bd7.getD 1 .pass) [some (.ref j), some (.tup [.int 1, .int 1]), some (.tup [.int 0, .int 1]), some (podd), some (pform), some (prow), some (prules), some (pwish), some (.tup [.tup [.tup [.int 1, .int 1], .tup [.int 0, .int 1]], .tup [.tup [.int 0, .int 1], .tup [.int 1, .int 1]]]), some (.tup [.tup [.int 1, .int 1], .tup [.int 0, .int 1]]), some (.tup [.tup [.tup [.int 1, .int 1], .tup [.int 1, .int 1]]]), some (.fn 66), some (.lst [.clo 0 0, .clo 0 1, .clo 0 2, .clo 0 3, .clo 0 4, .clo 0 5, .clo 0 6]), some (.lst [.str ("count " ++ podd_r), .str "form", .str "row", .str "row", .str "row", .str "fine", .str "fine"]), none, none, none] st = .next [some (.ref j), some (.tup [.int 1, .int 1]), some (.tup [.int 0, .int 1]), some (podd), some (pform), some (prow), some (prules), some (pwish), some (.tup [.tup [.tup [.int 1, .int 1], .tup [.int 0, .int 1]], .tup [.tup [.int 0, .int 1], .tup [.int 1, .int 1]]]), some (.tup [.tup [.int 1, .int 1], .tup [.int 0, .int 1]]), some (.tup [.tup [.tup [.int 1, .int 1], .tup [.int 1, .int 1]]]), some (.fn 66), some (.lst [.clo 0 0, .clo 0 1, .clo 0 2, .clo 0 3, .clo 0 4, .clo 0 5, .clo 0 6]), some (.lst [.str ("count " ++ podd_r), .str "form", .str "row", .str "row", .str "row", .str "fine", .str "fine"]), none, none, none] st := by
  have rr_podd := rOf (List.all_eq_true.mp m_podd_r _ h_podd)
  have so_podd := rr_podd.2.2
  obtain ⟨C, hC⟩ : ∃ C, C = cfOf T 228 (pushF [] [] E) d__law_right.lams (callF T 228) (cloF T 228) := ⟨_, rfl⟩
  rw [← hC]
  have a2 : ev C 57 (.bin .Add (.lit (.str "count ")) (.blt .repr [.var 3])) [some (.ref j), some (.tup [.int 1, .int 1]), some (.tup [.int 0, .int 1]), some (podd), some (pform), some (prow), some (prules), some (pwish), some (.tup [.tup [.tup [.int 1, .int 1], .tup [.int 0, .int 1]], .tup [.tup [.int 0, .int 1], .tup [.int 1, .int 1]]]), some (.tup [.tup [.int 1, .int 1], .tup [.int 0, .int 1]]), some (.tup [.tup [.tup [.int 1, .int 1], .tup [.int 1, .int 1]]]), some (.fn 66), some (.lst [.clo 0 0, .clo 0 1, .clo 0 2, .clo 0 3, .clo 0 4, .clo 0 5, .clo 0 6]), some (.lst [.str ("count " ++ podd_r), .str "form", .str "row", .str "row", .str "row", .str "fine", .str "fine"]), none, none, none] st = .ok (.str ("count " ++ podd_r)) st := cnt_ev (n := 54) (d := podd) rfl rr_podd.1 rr_podd.2.1
  have a3 : ev C 57 (.lit (.str "form")) [some (.ref j), some (.tup [.int 1, .int 1]), some (.tup [.int 0, .int 1]), some (podd), some (pform), some (prow), some (prules), some (pwish), some (.tup [.tup [.tup [.int 1, .int 1], .tup [.int 0, .int 1]], .tup [.tup [.int 0, .int 1], .tup [.int 1, .int 1]]]), some (.tup [.tup [.int 1, .int 1], .tup [.int 0, .int 1]]), some (.tup [.tup [.tup [.int 1, .int 1], .tup [.int 1, .int 1]]]), some (.fn 66), some (.lst [.clo 0 0, .clo 0 1, .clo 0 2, .clo 0 3, .clo 0 4, .clo 0 5, .clo 0 6]), some (.lst [.str ("count " ++ podd_r), .str "form", .str "row", .str "row", .str "row", .str "fine", .str "fine"]), none, none, none] st = .ok (.str "form") st := by kernel_rfl
  have a4 : ev C 57 (.lit (.str "row")) [some (.ref j), some (.tup [.int 1, .int 1]), some (.tup [.int 0, .int 1]), some (podd), some (pform), some (prow), some (prules), some (pwish), some (.tup [.tup [.tup [.int 1, .int 1], .tup [.int 0, .int 1]], .tup [.tup [.int 0, .int 1], .tup [.int 1, .int 1]]]), some (.tup [.tup [.int 1, .int 1], .tup [.int 0, .int 1]]), some (.tup [.tup [.tup [.int 1, .int 1], .tup [.int 1, .int 1]]]), some (.fn 66), some (.lst [.clo 0 0, .clo 0 1, .clo 0 2, .clo 0 3, .clo 0 4, .clo 0 5, .clo 0 6]), some (.lst [.str ("count " ++ podd_r), .str "form", .str "row", .str "row", .str "row", .str "fine", .str "fine"]), none, none, none] st = .ok (.str "row") st := by kernel_rfl
  have a5 : ev C 57 (.lit (.str "row")) [some (.ref j), some (.tup [.int 1, .int 1]), some (.tup [.int 0, .int 1]), some (podd), some (pform), some (prow), some (prules), some (pwish), some (.tup [.tup [.tup [.int 1, .int 1], .tup [.int 0, .int 1]], .tup [.tup [.int 0, .int 1], .tup [.int 1, .int 1]]]), some (.tup [.tup [.int 1, .int 1], .tup [.int 0, .int 1]]), some (.tup [.tup [.tup [.int 1, .int 1], .tup [.int 1, .int 1]]]), some (.fn 66), some (.lst [.clo 0 0, .clo 0 1, .clo 0 2, .clo 0 3, .clo 0 4, .clo 0 5, .clo 0 6]), some (.lst [.str ("count " ++ podd_r), .str "form", .str "row", .str "row", .str "row", .str "fine", .str "fine"]), none, none, none] st = .ok (.str "row") st := by kernel_rfl
  have a6 : ev C 57 (.lit (.str "row")) [some (.ref j), some (.tup [.int 1, .int 1]), some (.tup [.int 0, .int 1]), some (podd), some (pform), some (prow), some (prules), some (pwish), some (.tup [.tup [.tup [.int 1, .int 1], .tup [.int 0, .int 1]], .tup [.tup [.int 0, .int 1], .tup [.int 1, .int 1]]]), some (.tup [.tup [.int 1, .int 1], .tup [.int 0, .int 1]]), some (.tup [.tup [.tup [.int 1, .int 1], .tup [.int 1, .int 1]]]), some (.fn 66), some (.lst [.clo 0 0, .clo 0 1, .clo 0 2, .clo 0 3, .clo 0 4, .clo 0 5, .clo 0 6]), some (.lst [.str ("count " ++ podd_r), .str "form", .str "row", .str "row", .str "row", .str "fine", .str "fine"]), none, none, none] st = .ok (.str "row") st := by kernel_rfl
  have a7 : ev C 57 (.lit (.str "fine")) [some (.ref j), some (.tup [.int 1, .int 1]), some (.tup [.int 0, .int 1]), some (podd), some (pform), some (prow), some (prules), some (pwish), some (.tup [.tup [.tup [.int 1, .int 1], .tup [.int 0, .int 1]], .tup [.tup [.int 0, .int 1], .tup [.int 1, .int 1]]]), some (.tup [.tup [.int 1, .int 1], .tup [.int 0, .int 1]]), some (.tup [.tup [.tup [.int 1, .int 1], .tup [.int 1, .int 1]]]), some (.fn 66), some (.lst [.clo 0 0, .clo 0 1, .clo 0 2, .clo 0 3, .clo 0 4, .clo 0 5, .clo 0 6]), some (.lst [.str ("count " ++ podd_r), .str "form", .str "row", .str "row", .str "row", .str "fine", .str "fine"]), none, none, none] st = .ok (.str "fine") st := by kernel_rfl
  have a8 : ev C 57 (.lit (.str "fine")) [some (.ref j), some (.tup [.int 1, .int 1]), some (.tup [.int 0, .int 1]), some (podd), some (pform), some (prow), some (prules), some (pwish), some (.tup [.tup [.tup [.int 1, .int 1], .tup [.int 0, .int 1]], .tup [.tup [.int 0, .int 1], .tup [.int 1, .int 1]]]), some (.tup [.tup [.int 1, .int 1], .tup [.int 0, .int 1]]), some (.tup [.tup [.tup [.int 1, .int 1], .tup [.int 1, .int 1]]]), some (.fn 66), some (.lst [.clo 0 0, .clo 0 1, .clo 0 2, .clo 0 3, .clo 0 4, .clo 0 5, .clo 0 6]), some (.lst [.str ("count " ++ podd_r), .str "form", .str "row", .str "row", .str "row", .str "fine", .str "fine"]), none, none, none] st = .ok (.str "fine") st := by kernel_rfl
  have a1 : ev C 58 (.lst [.bin .Add (.lit (.str "count ")) (.blt .repr [.var 3]), .lit (.str "form"), .lit (.str "row"), .lit (.str "row"), .lit (.str "row"), .lit (.str "fine"), .lit (.str "fine")]) [some (.ref j), some (.tup [.int 1, .int 1]), some (.tup [.int 0, .int 1]), some (podd), some (pform), some (prow), some (prules), some (pwish), some (.tup [.tup [.tup [.int 1, .int 1], .tup [.int 0, .int 1]], .tup [.tup [.int 0, .int 1], .tup [.int 1, .int 1]]]), some (.tup [.tup [.int 1, .int 1], .tup [.int 0, .int 1]]), some (.tup [.tup [.tup [.int 1, .int 1], .tup [.int 1, .int 1]]]), some (.fn 66), some (.lst [.clo 0 0, .clo 0 1, .clo 0 2, .clo 0 3, .clo 0 4, .clo 0 5, .clo 0 6]), some (.lst [.str ("count " ++ podd_r), .str "form", .str "row", .str "row", .str "row", .str "fine", .str "fine"]), none, none, none] st = .ok (.lst [.str ("count " ++ podd_r), .str "form", .str "row", .str "row", .str "row", .str "fine", .str "fine"]) st := by
    rw [z_lst, qL_cons, a2, Res.bind_ok, qL_cons, a3, Res.bind_ok, qL_cons, a4, Res.bind_ok, qL_cons, a5, Res.bind_ok, qL_cons, a6, Res.bind_ok, qL_cons, a7, Res.bind_ok, qL_cons, a8, Res.bind_ok, qL_nil]
    simp
  show ex C 59 (.asg (.name 13) (.lst [.bin .Add (.lit (.str "count ")) (.blt .repr [.var 3]), .lit (.str "form"), .lit (.str "row"), .lit (.str "row"), .lit (.str "row"), .lit (.str "fine"), .lit (.str "fine")])) [some (.ref j), some (.tup [.int 1, .int 1]), some (.tup [.int 0, .int 1]), some (podd), some (pform), some (prow), some (prules), some (pwish), some (.tup [.tup [.tup [.int 1, .int 1], .tup [.int 0, .int 1]], .tup [.tup [.int 0, .int 1], .tup [.int 1, .int 1]]]), some (.tup [.tup [.int 1, .int 1], .tup [.int 0, .int 1]]), some (.tup [.tup [.tup [.int 1, .int 1], .tup [.int 1, .int 1]]]), some (.fn 66), some (.lst [.clo 0 0, .clo 0 1, .clo 0 2, .clo 0 3, .clo 0 4, .clo 0 5, .clo 0 6]), some (.lst [.str ("count " ++ podd_r), .str "form", .str "row", .str "row", .str "row", .str "fine", .str "fine"]), none, none, none] st = _
  rw [x_asg, a1]
  simp
theorem st7_1_2 (E : Mu.Env) {st : Sto} {j : Nat} (B : Base st) {podd : D} {podd_r : Str} (h_podd : (podd, podd_r) ∈ m_podd) {pform : D} (h_pform : pform ∈ m_pform) {prow : D} (h_prow : prow ∈ m_prow) {prules : D} (h_prules : prules ∈ m_prules prow) {pwish : D} (h_pwish : pwish ∈ m_pwish) : ex (cfOf T 228 (pushF [] [] E) d__law_right.lams (callF T 228) (cloF T 228)) 59 (bd7.getD 2 .pass) [some (.ref j), some (.tup [.int 1, .int 1]), some (.tup [.int 0, .int 1]), some (podd), some (pform), some (prow), some (prules), some (pwish), some (.tup [.tup [.tup [.int 1, .int 1], .tup [.int 0, .int 1]], .tup [.tup [.int 0, .int 1], .tup [.int 1, .int 1]]]), some (.tup [.tup [.int 1, .int 1], .tup [.int 0, .int 1]]), some (.tup [.tup [.tup [.int 1, .int 1], .tup [.int 1, .int 1]]]), some (.fn 66), some (.lst [.clo 0 0, .clo 0 1, .clo 0 2, .clo 0 3, .clo 0 4, .clo 0 5, .clo 0 6]), some (.lst [.str ("count " ++ podd_r), .str "form", .str "row", .str "row", .str "row", .str "fine", .str "fine"]), none, none, none] st = .next [some (.ref j), some (.tup [.int 1, .int 1]), some (.tup [.int 0, .int 1]), some (podd), some (pform), some (prow), some (prules), some (pwish), some (.tup [.tup [.tup [.int 1, .int 1], .tup [.int 0, .int 1]], .tup [.tup [.int 0, .int 1], .tup [.int 1, .int 1]]]), some (.tup [.tup [.int 1, .int 1], .tup [.int 0, .int 1]]), some (.tup [.tup [.tup [.int 1, .int 1], .tup [.int 1, .int 1]]]), some (.fn 66), some (.lst [.clo 0 0, .clo 0 1, .clo 0 2, .clo 0 3, .clo 0 4, .clo 0 5, .clo 0 6]), some (.lst [.str ("count " ++ podd_r), .str "form", .str "row", .str "row", .str "row", .str "fine", .str "fine"]), none, none, none] st := by
  have low_podd : podd.low 0 = true := List.all_eq_true.mp m_podd_l _ h_podd
  have rr_podd := rOf (List.all_eq_true.mp m_podd_r _ h_podd)
  have so_podd := rr_podd.2.2
  have low_pform : pform.low 0 = true := List.all_eq_true.mp m_pform_l _ h_pform
  have low_prow : prow.low 0 = true := List.all_eq_true.mp m_prow_l _ h_prow
  have low_prules : prules.low 0 = true := lowOf_prules low_prow h_prules
  have low_pwish : pwish.low 0 = true := List.all_eq_true.mp m_pwish_l _ h_pwish
  have y0_0 := all_mem (f7_1_2_0 pform prow prules pwish) _ h_podd
  have w0 : callF T 228 (pushF [] d__law_right.lams [some (.ref j), some (.tup [.int 1, .int 1]), some (.tup [.int 0, .int 1]), some (podd), some (pform), some (prow), some (prules), some (pwish), some (.tup [.tup [.tup [.int 1, .int 1], .tup [.int 0, .int 1]], .tup [.tup [.int 0, .int 1], .tup [.int 1, .int 1]]]), some (.tup [.tup [.int 1, .int 1], .tup [.int 0, .int 1]]), some (.tup [.tup [.tup [.int 1, .int 1], .tup [.int 1, .int 1]]]), some (.fn 66), some (.lst [.clo 0 0, .clo 0 1, .clo 0 2, .clo 0 3, .clo 0 4, .clo 0 5, .clo 0 6]), some (.lst [.str ("count " ++ podd_r), .str "form", .str "row", .str "row", .str "row", .str "fine", .str "fine"]), none, none, none]) 72 [.clo 0 0] st = .ok (.str ("count " ++ podd_r)) st := call_up tabP B (frR_sub (.no (.no (.no (.an low_podd (.an low_pform (.an low_prow (.an low_prules (.an low_pwish (.no (.no (.no (.an rfl (.no (.no (.no (.no (.no (Sub.nil))))))))))))))))))) rfl rfl (okB_eq y0_0)
  have y1_0 := all_mem (f7_1_2_1 prow prules pwish) _ h_pform
  have w1 : callF T 228 (pushF [] d__law_right.lams [some (.ref j), some (.tup [.int 1, .int 1]), some (.tup [.int 0, .int 1]), some (podd), some (pform), some (prow), some (prules), some (pwish), some (.tup [.tup [.tup [.int 1, .int 1], .tup [.int 0, .int 1]], .tup [.tup [.int 0, .int 1], .tup [.int 1, .int 1]]]), some (.tup [.tup [.int 1, .int 1], .tup [.int 0, .int 1]]), some (.tup [.tup [.tup [.int 1, .int 1], .tup [.int 1, .int 1]]]), some (.fn 66), some (.lst [.clo 0 0, .clo 0 1, .clo 0 2, .clo 0 3, .clo 0 4, .clo 0 5, .clo 0 6]), some (.lst [.str ("count " ++ podd_r), .str "form", .str "row", .str "row", .str "row", .str "fine", .str "fine"]), none, none, none]) 72 [.clo 0 1] st = .ok (.str "form") st := call_up tabP B (frR_sub (.no (.no (.no (.no (.an low_pform (.an low_prow (.an low_prules (.an low_pwish (.no (.no (.no (.an rfl (.no (.no (.no (.no (.no (Sub.nil))))))))))))))))))) rfl rfl (okB_eq y1_0)
  have y2_0 := all_mem (f7_1_2_2 prules pwish) _ h_prow
  have w2 : callF T 228 (pushF [] d__law_right.lams [some (.ref j), some (.tup [.int 1, .int 1]), some (.tup [.int 0, .int 1]), some (podd), some (pform), some (prow), some (prules), some (pwish), some (.tup [.tup [.tup [.int 1, .int 1], .tup [.int 0, .int 1]], .tup [.tup [.int 0, .int 1], .tup [.int 1, .int 1]]]), some (.tup [.tup [.int 1, .int 1], .tup [.int 0, .int 1]]), some (.tup [.tup [.tup [.int 1, .int 1], .tup [.int 1, .int 1]]]), some (.fn 66), some (.lst [.clo 0 0, .clo 0 1, .clo 0 2, .clo 0 3, .clo 0 4, .clo 0 5, .clo 0 6]), some (.lst [.str ("count " ++ podd_r), .str "form", .str "row", .str "row", .str "row", .str "fine", .str "fine"]), none, none, none]) 72 [.clo 0 2] st = .ok (.str "row") st := call_up tabP B (frR_sub (.no (.no (.no (.no (.no (.an low_prow (.an low_prules (.an low_pwish (.an rfl (.no (.no (.an rfl (.no (.no (.no (.no (.no (Sub.nil))))))))))))))))))) rfl rfl (okB_eq y2_0)
  have y3_0 := all_mem (f7_1_2_3 pwish) _ h_prow
  have y3_1 := all_mem y3_0 _ h_prules
  have w3 : callF T 228 (pushF [] d__law_right.lams [some (.ref j), some (.tup [.int 1, .int 1]), some (.tup [.int 0, .int 1]), some (podd), some (pform), some (prow), some (prules), some (pwish), some (.tup [.tup [.tup [.int 1, .int 1], .tup [.int 0, .int 1]], .tup [.tup [.int 0, .int 1], .tup [.int 1, .int 1]]]), some (.tup [.tup [.int 1, .int 1], .tup [.int 0, .int 1]]), some (.tup [.tup [.tup [.int 1, .int 1], .tup [.int 1, .int 1]]]), some (.fn 66), some (.lst [.clo 0 0, .clo 0 1, .clo 0 2, .clo 0 3, .clo 0 4, .clo 0 5, .clo 0 6]), some (.lst [.str ("count " ++ podd_r), .str "form", .str "row", .str "row", .str "row", .str "fine", .str "fine"]), none, none, none]) 72 [.clo 0 3] st = .ok (.str "row") st := call_up tabP B (frR_sub (.no (.no (.no (.no (.no (.no (.an low_prules (.an low_pwish (.an rfl (.an rfl (.no (.an rfl (.no (.no (.no (.no (.no (Sub.nil))))))))))))))))))) rfl rfl (okB_eq y3_1)
  have y4_0 := all_mem f7_1_2_4 _ h_pwish
  have w4 : callF T 228 (pushF [] d__law_right.lams [some (.ref j), some (.tup [.int 1, .int 1]), some (.tup [.int 0, .int 1]), some (podd), some (pform), some (prow), some (prules), some (pwish), some (.tup [.tup [.tup [.int 1, .int 1], .tup [.int 0, .int 1]], .tup [.tup [.int 0, .int 1], .tup [.int 1, .int 1]]]), some (.tup [.tup [.int 1, .int 1], .tup [.int 0, .int 1]]), some (.tup [.tup [.tup [.int 1, .int 1], .tup [.int 1, .int 1]]]), some (.fn 66), some (.lst [.clo 0 0, .clo 0 1, .clo 0 2, .clo 0 3, .clo 0 4, .clo 0 5, .clo 0 6]), some (.lst [.str ("count " ++ podd_r), .str "form", .str "row", .str "row", .str "row", .str "fine", .str "fine"]), none, none, none]) 72 [.clo 0 4] st = .ok (.str "row") st := call_up tabP B (frR_sub (.no (.no (.no (.no (.no (.no (.no (.an low_pwish (.an rfl (.an rfl (.an rfl (.an rfl (.no (.no (.no (.no (.no (Sub.nil))))))))))))))))))) rfl rfl (okB_eq y4_0)
  have w5 : callF T 228 (pushF [] d__law_right.lams [some (.ref j), some (.tup [.int 1, .int 1]), some (.tup [.int 0, .int 1]), some (podd), some (pform), some (prow), some (prules), some (pwish), some (.tup [.tup [.tup [.int 1, .int 1], .tup [.int 0, .int 1]], .tup [.tup [.int 0, .int 1], .tup [.int 1, .int 1]]]), some (.tup [.tup [.int 1, .int 1], .tup [.int 0, .int 1]]), some (.tup [.tup [.tup [.int 1, .int 1], .tup [.int 1, .int 1]]]), some (.fn 66), some (.lst [.clo 0 0, .clo 0 1, .clo 0 2, .clo 0 3, .clo 0 4, .clo 0 5, .clo 0 6]), some (.lst [.str ("count " ++ podd_r), .str "form", .str "row", .str "row", .str "row", .str "fine", .str "fine"]), none, none, none]) 72 [.clo 0 5] st = .ok (.str "fine") st := call_up tabP B (frR_sub (.no (.an rfl (.no (.no (.no (.no (.no (.no (.an rfl (.an rfl (.an rfl (.an rfl (.no (.no (.no (.no (.no (Sub.nil))))))))))))))))))) rfl rfl (okB_eq f7_1_2_5)
  have w6 : callF T 228 (pushF [] d__law_right.lams [some (.ref j), some (.tup [.int 1, .int 1]), some (.tup [.int 0, .int 1]), some (podd), some (pform), some (prow), some (prules), some (pwish), some (.tup [.tup [.tup [.int 1, .int 1], .tup [.int 0, .int 1]], .tup [.tup [.int 0, .int 1], .tup [.int 1, .int 1]]]), some (.tup [.tup [.int 1, .int 1], .tup [.int 0, .int 1]]), some (.tup [.tup [.tup [.int 1, .int 1], .tup [.int 1, .int 1]]]), some (.fn 66), some (.lst [.clo 0 0, .clo 0 1, .clo 0 2, .clo 0 3, .clo 0 4, .clo 0 5, .clo 0 6]), some (.lst [.str ("count " ++ podd_r), .str "form", .str "row", .str "row", .str "row", .str "fine", .str "fine"]), none, none, none]) 72 [.clo 0 6] st = .ok (.str "fine") st := call_up tabP B (frR_sub (.no (.no (.no (.no (.no (.no (.no (.no (.an rfl (.an rfl (.no (.an rfl (.no (.no (.no (.no (.no (Sub.nil))))))))))))))))))) rfl rfl (okB_eq f7_1_2_6)
  exact words_okK (T := T) (k := 228) (fr := pushF [] [] E) (lams := d__law_right.lams) (n := 52) (W := 72) (v := 15) (c := 12) (d := 0) [(0, ("count " ++ podd_r)), (1, "form"), (2, "row"), (3, "row"), (4, "row"), (5, "fine"), (6, "fine")] rfl (of_decide_eq_true rfl) (of_decide_eq_true rfl) (List.forall_mem_cons.mpr ⟨so_podd, List.forall_mem_cons.mpr ⟨by decide +kernel, List.forall_mem_cons.mpr ⟨by decide +kernel, List.forall_mem_cons.mpr ⟨by decide +kernel, List.forall_mem_cons.mpr ⟨by decide +kernel, List.forall_mem_cons.mpr ⟨by decide +kernel, List.forall_mem_cons.mpr ⟨by decide +kernel, fun _ h => nomatch h⟩⟩⟩⟩⟩⟩⟩) (List.forall_mem_cons.mpr ⟨w0, List.forall_mem_cons.mpr ⟨w1, List.forall_mem_cons.mpr ⟨w2, List.forall_mem_cons.mpr ⟨w3, List.forall_mem_cons.mpr ⟨w4, List.forall_mem_cons.mpr ⟨w5, List.forall_mem_cons.mpr ⟨w6, fun _ h => nomatch h⟩⟩⟩⟩⟩⟩⟩) (by kernel_rfl)
theorem st7_2_0 (E : Mu.Env) {st : Sto} {j : Nat} {podd : D} {podd_r : Str} (h_podd : (podd, podd_r) ∈ m_podd) {pform : D} (h_pform : pform ∈ m_pform) {prow : D} (h_prow : prow ∈ m_prow) {prules : D} (h_prules : prules ∈ m_prules prow) {pwish : D} (h_pwish : pwish ∈ m_pwish) : ex (cfOf T 228 (pushF [] [] E) d__law_right.lams (callF T 228) (cloF T 228)) 59 (bd7.getD 0 .pass) [some (.ref j), some (.tup [.int 1, .int 1]), some (.tup [.int 0, .int 1]), some (podd), some (pform), some (prow), some (prules), some (pwish), some (.tup [.tup [.tup [.int 1, .int 1], .tup [.int 0, .int 1]], .tup [.tup [.int 0, .int 1], .tup [.int 1, .int 1]]]), some (.tup [.tup [.int 1, .int 1], .tup [.int 0, .int 1]]), some (.tup [.tup [.tup [.int 1, .int 1], .tup [.int 1, .int 1]]]), some (.fn 67), some (.lst [.clo 0 0, .clo 0 1, .clo 0 2, .clo 0 3, .clo 0 4, .clo 0 5, .clo 0 6]), some (.lst [.str ("count " ++ podd_r), .str "form", .str "row", .str "row", .str "row", .str "fine", .str "fine"]), none, none, none] st = .next [some (.ref j), some (.tup [.int 1, .int 1]), some (.tup [.int 0, .int 1]), some (podd), some (pform), some (prow), some (prules), some (pwish), some (.tup [.tup [.tup [.int 1, .int 1], .tup [.int 0, .int 1]], .tup [.tup [.int 0, .int 1], .tup [.int 1, .int 1]]]), some (.tup [.tup [.int 1, .int 1], .tup [.int 0, .int 1]]), some (.tup [.tup [.tup [.int 1, .int 1], .tup [.int 1, .int 1]]]), some (.fn 67), some (.lst [.clo 0 0, .clo 0 1, .clo 0 2, .clo 0 3, .clo 0 4, .clo 0 5, .clo 0 6]), some (.lst [.str ("count " ++ podd_r), .str "form", .str "row", .str "row", .str "row", .str "fine", .str "fine"]), none, none, none] st := by kernel_rfl
theorem st7_2_1 (E : Mu.Env) {st : Sto} {j : Nat} {podd : D} {podd_r : Str} (h_podd : (podd, podd_r) ∈ m_podd) {pform : D} (h_pform : pform ∈ m_pform) {prow : D} (h_prow : prow ∈ m_prow) {prules : D} (h_prules : prules ∈ m_prules prow) {pwish : D} (h_pwish : pwish ∈ m_pwish) : ex (cfOf T 228 (pushF [] [] E) d__law_right.lams (callF T 228) (cloF T 228)) 59 (bd7.getD 1 .pass) [some (.ref j), some (.tup [.int 1, .int 1]), some (.tup [.int 0, .int 1]), some (podd), some (pform), some (prow), some (prules), some (pwish), some (.tup [.tup [.tup [.int 1, .int 1], .tup [.int 0, .int 1]], .tup [.tup [.int 0, .int 1], .tup [.int 1, .int 1]]]), some (.tup [.tup [.int 1, .int 1], .tup [.int 0, .int 1]]), some (.tup [.tup [.tup [.int 1, .int 1], .tup [.int 1, .int 1]]]), some (.fn 67), some (.lst [.clo 0 0, .clo 0 1, .clo 0 2, .clo 0 3, .clo 0 4, .clo 0 5, .clo 0 6]), some (.lst [.str ("count " ++ podd_r), .str "form", .str "row", .str "row", .str "row", .str "fine", .str "fine"]), none, none, none] st = .next [some (.ref j), some (.tup [.int 1, .int 1]), some (.tup [.int 0, .int 1]), some (podd), some (pform), some (prow), some (prules), some (pwish), some (.tup [.tup [.tup [.int 1, .int 1], .tup [.int 0, .int 1]], .tup [.tup [.int 0, .int 1], .tup [.int 1, .int 1]]]), some (.tup [.tup [.int 1, .int 1], .tup [.int 0, .int 1]]), some (.tup [.tup [.tup [.int 1, .int 1], .tup [.int 1, .int 1]]]), some (.fn 67), some (.lst [.clo 0 0, .clo 0 1, .clo 0 2, .clo 0 3, .clo 0 4, .clo 0 5, .clo 0 6]), some (.lst [.str ("count " ++ podd_r), .str "form", .str "row", .str "row", .str "row", .str "fine", .str "fine"]), none, none, none] st := by
  have rr_podd := rOf (List.all_eq_true.mp m_podd_r _ h_podd)
  have so_podd := rr_podd.2.2
  obtain ⟨C, hC⟩ : ∃ C, C = cfOf T 228 (pushF [] [] E) d__law_right.lams (callF T 228) (cloF T 228) := ⟨_, rfl⟩
  rw [← hC]
  have a2 : ev C 57 (.bin .Add (.lit (.str "count ")) (.blt .repr [.var 3])) [some (.ref j), some (.tup [.int 1, .int 1]), some (.tup [.int 0, .int 1]), some (podd), some (pform), some (prow), some (prules), some (pwish), some (.tup [.tup [.tup [.int 1, .int 1], .tup [.int 0, .int 1]], .tup [.tup [.int 0, .int 1], .tup [.int 1, .int 1]]]), some (.tup [.tup [.int 1, .int 1], .tup [.int 0, .int 1]]), some (.tup [.tup [.tup [.int 1, .int 1], .tup [.int 1, .int 1]]]), some (.fn 67), some (.lst [.clo 0 0, .clo 0 1, .clo 0 2, .clo 0 3, .clo 0 4, .clo 0 5, .clo 0 6]), some (.lst [.str ("count " ++ podd_r), .str "form", .str "row", .str "row", .str "row", .str "fine", .str "fine"]), none, none, none] st = .ok (.str ("count " ++ podd_r)) st := cnt_ev (n := 54) (d := podd) rfl rr_podd.1 rr_podd.2.1
  have a3 : ev C 57 (.lit (.str "form")) [some (.ref j), some (.tup [.int 1, .int 1]), some (.tup [.int 0, .int 1]), some (podd), some (pform), some (prow), some (prules), some (pwish), some (.tup [.tup [.tup [.int 1, .int 1], .tup [.int 0, .int 1]], .tup [.tup [.int 0, .int 1], .tup [.int 1, .int 1]]]), some (.tup [.tup [.int 1, .int 1], .tup [.int 0, .int 1]]), some (.tup [.tup [.tup [.int 1, .int 1], .tup [.int 1, .int 1]]]), some (.fn 67), some (.lst [.clo 0 0, .clo 0 1, .clo 0 2, .clo 0 3, .clo 0 4, .clo 0 5, .clo 0 6]), some (.lst [.str ("count " ++ podd_r), .str "form", .str "row", .str "row", .str "row", .str "fine", .str "fine"]), none, none, none] st = .ok (.str "form") st := by kernel_rfl
  have a4 : ev C 57 (.lit (.str "row")) [some (.ref j), some (.tup [.int 1, .int 1]), some (.tup [.int 0, .int 1]), some (podd), some (pform), some (prow), some (prules), some (pwish), some (.tup [.tup [.tup [.int 1, .int 1], .tup [.int 0, .int 1]], .tup [.tup [.int 0, .int 1], .tup [.int 1, .int 1]]]), some (.tup [.tup [.int 1, .int 1], .tup [.int 0, .int 1]]), some (.tup [.tup [.tup [.int 1, .int 1], .tup [.int 1, .int 1]]]), some (.fn 67), some (.lst [.clo 0 0, .clo 0 1, .clo 0 2, .clo 0 3, .clo 0 4, .clo 0 5, .clo 0 6]), some (.lst [.str ("count " ++ podd_r), .str "form", .str "row", .str "row", .str "row", .str "fine", .str "fine"]), none, none, none] st = .ok (.str "row") st := by kernel_rfl
  have a5 : ev C 57 (.lit (.str "row")) [some (.ref j), some (.tup [.int 1, .int 1]), some (.tup [.int 0, .int 1]), some (podd), some (pform), some (prow), some (prules), some (pwish), some (.tup [.tup [.tup [.int 1, .int 1], .tup [.int 0, .int 1]], .tup [.tup [.int 0, .int 1], .tup [.int 1, .int 1]]]), some (.tup [.tup [.int 1, .int 1], .tup [.int 0, .int 1]]), some (.tup [.tup [.tup [.int 1, .int 1], .tup [.int 1, .int 1]]]), some (.fn 67), some (.lst [.clo 0 0, .clo 0 1, .clo 0 2, .clo 0 3, .clo 0 4, .clo 0 5, .clo 0 6]), some (.lst [.str ("count " ++ podd_r), .str "form", .str "row", .str "row", .str "row", .str "fine", .str "fine"]), none, none, none] st = .ok (.str "row") st := by kernel_rfl
  have a6 : ev C 57 (.lit (.str "row")) [some (.ref j), some (.tup [.int 1, .int 1]), some (.tup [.int 0, .int 1]), some (podd), some (pform), some (prow), some (prules), some (pwish), some (.tup [.tup [.tup [.int 1, .int 1], .tup [.int 0, .int 1]], .tup [.tup [.int 0, .int 1], .tup [.int 1, .int 1]]]), some (.tup [.tup [.int 1, .int 1], .tup [.int 0, .int 1]]), some (.tup [.tup [.tup [.int 1, .int 1], .tup [.int 1, .int 1]]]), some (.fn 67), some (.lst [.clo 0 0, .clo 0 1, .clo 0 2, .clo 0 3, .clo 0 4, .clo 0 5, .clo 0 6]), some (.lst [.str ("count " ++ podd_r), .str "form", .str "row", .str "row", .str "row", .str "fine", .str "fine"]), none, none, none] st = .ok (.str "row") st := by kernel_rfl
  have a7 : ev C 57 (.lit (.str "fine")) [some (.ref j), some (.tup [.int 1, .int 1]), some (.tup [.int 0, .int 1]), some (podd), some (pform), some (prow), some (prules), some (pwish), some (.tup [.tup [.tup [.int 1, .int 1], .tup [.int 0, .int 1]], .tup [.tup [.int 0, .int 1], .tup [.int 1, .int 1]]]), some (.tup [.tup [.int 1, .int 1], .tup [.int 0, .int 1]]), some (.tup [.tup [.tup [.int 1, .int 1], .tup [.int 1, .int 1]]]), some (.fn 67), some (.lst [.clo 0 0, .clo 0 1, .clo 0 2, .clo 0 3, .clo 0 4, .clo 0 5, .clo 0 6]), some (.lst [.str ("count " ++ podd_r), .str "form", .str "row", .str "row", .str "row", .str "fine", .str "fine"]), none, none, none] st = .ok (.str "fine") st := by kernel_rfl
  have a8 : ev C 57 (.lit (.str "fine")) [some (.ref j), some (.tup [.int 1, .int 1]), some (.tup [.int 0, .int 1]), some (podd), some (pform), some (prow), some (prules), some (pwish), some (.tup [.tup [.tup [.int 1, .int 1], .tup [.int 0, .int 1]], .tup [.tup [.int 0, .int 1], .tup [.int 1, .int 1]]]), some (.tup [.tup [.int 1, .int 1], .tup [.int 0, .int 1]]), some (.tup [.tup [.tup [.int 1, .int 1], .tup [.int 1, .int 1]]]), some (.fn 67), some (.lst [.clo 0 0, .clo 0 1, .clo 0 2, .clo 0 3, .clo 0 4, .clo 0 5, .clo 0 6]), some (.lst [.str ("count " ++ podd_r), .str "form", .str "row", .str "row", .str "row", .str "fine", .str "fine"]), none, none, none] st = .ok (.str "fine") st := by kernel_rfl
  have a1 : ev C 58 (.lst [.bin .Add (.lit (.str "count ")) (.blt .repr [.var 3]), .lit (.str "form"), .lit (.str "row"), .lit (.str "row"), .lit (.str "row"), .lit (.str "fine"), .lit (.str "fine")]) [some (.ref j), some (.tup [.int 1, .int 1]), some (.tup [.int 0, .int 1]), some (podd), some (pform), some (prow), some (prules), some (pwish), some (.tup [.tup [.tup [.int 1, .int 1], .tup [.int 0, .int 1]], .tup [.tup [.int 0, .int 1], .tup [.int 1, .int 1]]]), some (.tup [.tup [.int 1, .int 1], .tup [.int 0, .int 1]]), some (.tup [.tup [.tup [.int 1, .int 1], .tup [.int 1, .int 1]]]), some (.fn 67), some (.lst [.clo 0 0, .clo 0 1, .clo 0 2, .clo 0 3, .clo 0 4, .clo 0 5, .clo 0 6]), some (.lst [.str ("count " ++ podd_r), .str "form", .str "row", .str "row", .str "row", .str "fine", .str "fine"]), none, none, none] st = .ok (.lst [.str ("count " ++ podd_r), .str "form", .str "row", .str "row", .str "row", .str "fine", .str "fine"]) st := by
    rw [z_lst, qL_cons, a2, Res.bind_ok, qL_cons, a3, Res.bind_ok, qL_cons, a4, Res.bind_ok, qL_cons, a5, Res.bind_ok, qL_cons, a6, Res.bind_ok, qL_cons, a7, Res.bind_ok, qL_cons, a8, Res.bind_ok, qL_nil]
    simp
  show ex C 59 (.asg (.name 13) (.lst [.bin .Add (.lit (.str "count ")) (.blt .repr [.var 3]), .lit (.str "form"), .lit (.str "row"), .lit (.str "row"), .lit (.str "row"), .lit (.str "fine"), .lit (.str "fine")])) [some (.ref j), some (.tup [.int 1, .int 1]), some (.tup [.int 0, .int 1]), some (podd), some (pform), some (prow), some (prules), some (pwish), some (.tup [.tup [.tup [.int 1, .int 1], .tup [.int 0, .int 1]], .tup [.tup [.int 0, .int 1], .tup [.int 1, .int 1]]]), some (.tup [.tup [.int 1, .int 1], .tup [.int 0, .int 1]]), some (.tup [.tup [.tup [.int 1, .int 1], .tup [.int 1, .int 1]]]), some (.fn 67), some (.lst [.clo 0 0, .clo 0 1, .clo 0 2, .clo 0 3, .clo 0 4, .clo 0 5, .clo 0 6]), some (.lst [.str ("count " ++ podd_r), .str "form", .str "row", .str "row", .str "row", .str "fine", .str "fine"]), none, none, none] st = _
  rw [x_asg, a1]
  simp
theorem st7_2_2 (E : Mu.Env) {st : Sto} {j : Nat} (B : Base st) {podd : D} {podd_r : Str} (h_podd : (podd, podd_r) ∈ m_podd) {pform : D} (h_pform : pform ∈ m_pform) {prow : D} (h_prow : prow ∈ m_prow) {prules : D} (h_prules : prules ∈ m_prules prow) {pwish : D} (h_pwish : pwish ∈ m_pwish) : ex (cfOf T 228 (pushF [] [] E) d__law_right.lams (callF T 228) (cloF T 228)) 59 (bd7.getD 2 .pass) [some (.ref j), some (.tup [.int 1, .int 1]), some (.tup [.int 0, .int 1]), some (podd), some (pform), some (prow), some (prules), some (pwish), some (.tup [.tup [.tup [.int 1, .int 1], .tup [.int 0, .int 1]], .tup [.tup [.int 0, .int 1], .tup [.int 1, .int 1]]]), some (.tup [.tup [.int 1, .int 1], .tup [.int 0, .int 1]]), some (.tup [.tup [.tup [.int 1, .int 1], .tup [.int 1, .int 1]]]), some (.fn 67), some (.lst [.clo 0 0, .clo 0 1, .clo 0 2, .clo 0 3, .clo 0 4, .clo 0 5, .clo 0 6]), some (.lst [.str ("count " ++ podd_r), .str "form", .str "row", .str "row", .str "row", .str "fine", .str "fine"]), none, none, none] st = .next [some (.ref j), some (.tup [.int 1, .int 1]), some (.tup [.int 0, .int 1]), some (podd), some (pform), some (prow), some (prules), some (pwish), some (.tup [.tup [.tup [.int 1, .int 1], .tup [.int 0, .int 1]], .tup [.tup [.int 0, .int 1], .tup [.int 1, .int 1]]]), some (.tup [.tup [.int 1, .int 1], .tup [.int 0, .int 1]]), some (.tup [.tup [.tup [.int 1, .int 1], .tup [.int 1, .int 1]]]), some (.fn 67), some (.lst [.clo 0 0, .clo 0 1, .clo 0 2, .clo 0 3, .clo 0 4, .clo 0 5, .clo 0 6]), some (.lst [.str ("count " ++ podd_r), .str "form", .str "row", .str "row", .str "row", .str "fine", .str "fine"]), none, none, none] st := by
  have low_podd : podd.low 0 = true := List.all_eq_true.mp m_podd_l _ h_podd
  have rr_podd := rOf (List.all_eq_true.mp m_podd_r _ h_podd)
  have so_podd := rr_podd.2.2
  have low_pform : pform.low 0 = true := List.all_eq_true.mp m_pform_l _ h_pform
  have low_prow : prow.low 0 = true := List.all_eq_true.mp m_prow_l _ h_prow
  have low_prules : prules.low 0 = true := lowOf_prules low_prow h_prules
  have low_pwish : pwish.low 0 = true := List.all_eq_true.mp m_pwish_l _ h_pwish
  have y0_0 := all_mem (f7_2_2_0 pform prow prules pwish) _ h_podd
  have w0 : callF T 228 (pushF [] d__law_right.lams [some (.ref j), some (.tup [.int 1, .int 1]), some (.tup [.int 0, .int 1]), some (podd), some (pform), some (prow), some (prules), some (pwish), some (.tup [.tup [.tup [.int 1, .int 1], .tup [.int 0, .int 1]], .tup [.tup [.int 0, .int 1], .tup [.int 1, .int 1]]]), some (.tup [.tup [.int 1, .int 1], .tup [.int 0, .int 1]]), some (.tup [.tup [.tup [.int 1, .int 1], .tup [.int 1, .int 1]]]), some (.fn 67), some (.lst [.clo 0 0, .clo 0 1, .clo 0 2, .clo 0 3, .clo 0 4, .clo 0 5, .clo 0 6]), some (.lst [.str ("count " ++ podd_r), .str "form", .str "row", .str "row", .str "row", .str "fine", .str "fine"]), none, none, none]) 72 [.clo 0 0] st = .ok (.str ("count " ++ podd_r)) st := call_up tabP B (frR_sub (.no (.no (.no (.an low_podd (.an low_pform (.an low_prow (.an low_prules (.an low_pwish (.no (.no (.no (.an rfl (.no (.no (.no (.no (.no (Sub.nil))))))))))))))))))) rfl rfl (okB_eq y0_0)
  have y1_0 := all_mem (f7_2_2_1 prow prules pwish) _ h_pform
  have w1 : callF T 228 (pushF [] d__law_right.lams [some (.ref j), some (.tup [.int 1, .int 1]), some (.tup [.int 0, .int 1]), some (podd), some (pform), some (prow), some (prules), some (pwish), some (.tup [.tup [.tup [.int 1, .int 1], .tup [.int 0, .int 1]], .tup [.tup [.int 0, .int 1], .tup [.int 1, .int 1]]]), some (.tup [.tup [.int 1, .int 1], .tup [.int 0, .int 1]]), some (.tup [.tup [.tup [.int 1, .int 1], .tup [.int 1, .int 1]]]), some (.fn 67), some (.lst [.clo 0 0, .clo 0 1, .clo 0 2, .clo 0 3, .clo 0 4, .clo 0 5, .clo 0 6]), some (.lst [.str ("count " ++ podd_r), .str "form", .str "row", .str "row", .str "row", .str "fine", .str "fine"]), none, none, none]) 72 [.clo 0 1] st = .ok (.str "form") st := call_up tabP B (frR_sub (.no (.no (.no (.no (.an low_pform (.an low_prow (.an low_prules (.an low_pwish (.no (.no (.no (.an rfl (.no (.no (.no (.no (.no (Sub.nil))))))))))))))))))) rfl rfl (okB_eq y1_0)
  have y2_0 := all_mem (f7_2_2_2 prules pwish) _ h_prow
  have w2 : callF T 228 (pushF [] d__law_right.lams [some (.ref j), some (.tup [.int 1, .int 1]), some (.tup [.int 0, .int 1]), some (podd), some (pform), some (prow), some (prules), some (pwish), some (.tup [.tup [.tup [.int 1, .int 1], .tup [.int 0, .int 1]], .tup [.tup [.int 0, .int 1], .tup [.int 1, .int 1]]]), some (.tup [.tup [.int 1, .int 1], .tup [.int 0, .int 1]]), some (.tup [.tup [.tup [.int 1, .int 1], .tup [.int 1, .int 1]]]), some (.fn 67), some (.lst [.clo 0 0, .clo 0 1, .clo 0 2, .clo 0 3, .clo 0 4, .clo 0 5, .clo 0 6]), some (.lst [.str ("count " ++ podd_r), .str "form", .str "row", .str "row", .str "row", .str "fine", .str "fine"]), none, none, none]) 72 [.clo 0 2] st = .ok (.str "row") st := call_up tabP B (frR_sub (.no (.no (.no (.no (.no (.an low_prow (.an low_prules (.an low_pwish (.an rfl (.no (.no (.an rfl (.no (.no (.no (.no (.no (Sub.nil))))))))))))))))))) rfl rfl (okB_eq y2_0)
  have y3_0 := all_mem (f7_2_2_3 pwish) _ h_prow
  have y3_1 := all_mem y3_0 _ h_prules
  have w3 : callF T 228 (pushF [] d__law_right.lams [some (.ref j), some (.tup [.int 1, .int 1]), some (.tup [.int 0, .int 1]), some (podd), some (pform), some (prow), some (prules), some (pwish), some (.tup [.tup [.tup [.int 1, .int 1], .tup [.int 0, .int 1]], .tup [.tup [.int 0, .int 1], .tup [.int 1, .int 1]]]), some (.tup [.tup [.int 1, .int 1], .tup [.int 0, .int 1]]), some (.tup [.tup [.tup [.int 1, .int 1], .tup [.int 1, .int 1]]]), some (.fn 67), some (.lst [.clo 0 0, .clo 0 1, .clo 0 2, .clo 0 3, .clo 0 4, .clo 0 5, .clo 0 6]), some (.lst [.str ("count " ++ podd_r), .str "form", .str "row", .str "row", .str "row", .str "fine", .str "fine"]), none, none, none]) 72 [.clo 0 3] st = .ok (.str "row") st := call_up tabP B (frR_sub (.no (.no (.no (.no (.no (.no (.an low_prules (.an low_pwish (.an rfl (.an rfl (.no (.an rfl (.no (.no (.no (.no (.no (Sub.nil))))))))))))))))))) rfl rfl (okB_eq y3_1)
  have y4_0 := all_mem f7_2_2_4 _ h_pwish
  have w4 : callF T 228 (pushF [] d__law_right.lams [some (.ref j), some (.tup [.int 1, .int 1]), some (.tup [.int 0, .int 1]), some (podd), some (pform), some (prow), some (prules), some (pwish), some (.tup [.tup [.tup [.int 1, .int 1], .tup [.int 0, .int 1]], .tup [.tup [.int 0, .int 1], .tup [.int 1, .int 1]]]), some (.tup [.tup [.int 1, .int 1], .tup [.int 0, .int 1]]), some (.tup [.tup [.tup [.int 1, .int 1], .tup [.int 1, .int 1]]]), some (.fn 67), some (.lst [.clo 0 0, .clo 0 1, .clo 0 2, .clo 0 3, .clo 0 4, .clo 0 5, .clo 0 6]), some (.lst [.str ("count " ++ podd_r), .str "form", .str "row", .str "row", .str "row", .str "fine", .str "fine"]), none, none, none]) 72 [.clo 0 4] st = .ok (.str "row") st := call_up tabP B (frR_sub (.no (.no (.no (.no (.no (.no (.no (.an low_pwish (.an rfl (.an rfl (.an rfl (.an rfl (.no (.no (.no (.no (.no (Sub.nil))))))))))))))))))) rfl rfl (okB_eq y4_0)
  have w5 : callF T 228 (pushF [] d__law_right.lams [some (.ref j), some (.tup [.int 1, .int 1]), some (.tup [.int 0, .int 1]), some (podd), some (pform), some (prow), some (prules), some (pwish), some (.tup [.tup [.tup [.int 1, .int 1], .tup [.int 0, .int 1]], .tup [.tup [.int 0, .int 1], .tup [.int 1, .int 1]]]), some (.tup [.tup [.int 1, .int 1], .tup [.int 0, .int 1]]), some (.tup [.tup [.tup [.int 1, .int 1], .tup [.int 1, .int 1]]]), some (.fn 67), some (.lst [.clo 0 0, .clo 0 1, .clo 0 2, .clo 0 3, .clo 0 4, .clo 0 5, .clo 0 6]), some (.lst [.str ("count " ++ podd_r), .str "form", .str "row", .str "row", .str "row", .str "fine", .str "fine"]), none, none, none]) 72 [.clo 0 5] st = .ok (.str "fine") st := call_up tabP B (frR_sub (.no (.an rfl (.no (.no (.no (.no (.no (.no (.an rfl (.an rfl (.an rfl (.an rfl (.no (.no (.no (.no (.no (Sub.nil))))))))))))))))))) rfl rfl (okB_eq f7_2_2_5)
  have w6 : callF T 228 (pushF [] d__law_right.lams [some (.ref j), some (.tup [.int 1, .int 1]), some (.tup [.int 0, .int 1]), some (podd), some (pform), some (prow), some (prules), some (pwish), some (.tup [.tup [.tup [.int 1, .int 1], .tup [.int 0, .int 1]], .tup [.tup [.int 0, .int 1], .tup [.int 1, .int 1]]]), some (.tup [.tup [.int 1, .int 1], .tup [.int 0, .int 1]]), some (.tup [.tup [.tup [.int 1, .int 1], .tup [.int 1, .int 1]]]), some (.fn 67), some (.lst [.clo 0 0, .clo 0 1, .clo 0 2, .clo 0 3, .clo 0 4, .clo 0 5, .clo 0 6]), some (.lst [.str ("count " ++ podd_r), .str "form", .str "row", .str "row", .str "row", .str "fine", .str "fine"]), none, none, none]) 72 [.clo 0 6] st = .ok (.str "fine") st := call_up tabP B (frR_sub (.no (.no (.no (.no (.no (.no (.no (.no (.an rfl (.an rfl (.no (.an rfl (.no (.no (.no (.no (.no (Sub.nil))))))))))))))))))) rfl rfl (okB_eq f7_2_2_6)
  exact words_okK (T := T) (k := 228) (fr := pushF [] [] E) (lams := d__law_right.lams) (n := 52) (W := 72) (v := 15) (c := 12) (d := 0) [(0, ("count " ++ podd_r)), (1, "form"), (2, "row"), (3, "row"), (4, "row"), (5, "fine"), (6, "fine")] rfl (of_decide_eq_true rfl) (of_decide_eq_true rfl) (List.forall_mem_cons.mpr ⟨so_podd, List.forall_mem_cons.mpr ⟨by decide +kernel, List.forall_mem_cons.mpr ⟨by decide +kernel, List.forall_mem_cons.mpr ⟨by decide +kernel, List.forall_mem_cons.mpr ⟨by decide +kernel, List.forall_mem_cons.mpr ⟨by decide +kernel, List.forall_mem_cons.mpr ⟨by decide +kernel, fun _ h => nomatch h⟩⟩⟩⟩⟩⟩⟩) (List.forall_mem_cons.mpr ⟨w0, List.forall_mem_cons.mpr ⟨w1, List.forall_mem_cons.mpr ⟨w2, List.forall_mem_cons.mpr ⟨w3, List.forall_mem_cons.mpr ⟨w4, List.forall_mem_cons.mpr ⟨w5, List.forall_mem_cons.mpr ⟨w6, fun _ h => nomatch h⟩⟩⟩⟩⟩⟩⟩) (by kernel_rfl)
theorem st7 (E : Mu.Env) {st : Sto} {j : Nat} (B : Base st) {podd : D} {podd_r : Str} (h_podd : (podd, podd_r) ∈ m_podd) {pform : D} (h_pform : pform ∈ m_pform) {prow : D} (h_prow : prow ∈ m_prow) {prules : D} (h_prules : prules ∈ m_prules prow) {pwish : D} (h_pwish : pwish ∈ m_pwish) : ex (cfOf T 228 (pushF [] [] E) d__law_right.lams (callF T 228) (cloF T 228)) 60 s7 [some (.ref j), some (.tup [.int 1, .int 1]), some (.tup [.int 0, .int 1]), some (podd), some (pform), some (prow), some (prules), some (pwish), some (.tup [.tup [.tup [.int 1, .int 1], .tup [.int 0, .int 1]], .tup [.tup [.int 0, .int 1], .tup [.int 1, .int 1]]]), some (.tup [.tup [.int 1, .int 1], .tup [.int 0, .int 1]]), some (.tup [.tup [.tup [.int 1, .int 1], .tup [.int 1, .int 1]]]), none, none, none, none, none, none] st = .next [some (.ref j), some (.tup [.int 1, .int 1]), some (.tup [.int 0, .int 1]), some (podd), some (pform), some (prow), some (prules), some (pwish), some (.tup [.tup [.tup [.int 1, .int 1], .tup [.int 0, .int 1]], .tup [.tup [.int 0, .int 1], .tup [.int 1, .int 1]]]), some (.tup [.tup [.int 1, .int 1], .tup [.int 0, .int 1]]), some (.tup [.tup [.tup [.int 1, .int 1], .tup [.int 1, .int 1]]]), some (.fn 67), some (.lst [.clo 0 0, .clo 0 1, .clo 0 2, .clo 0 3, .clo 0 4, .clo 0 5, .clo 0 6]), some (.lst [.str ("count " ++ podd_r), .str "form", .str "row", .str "row", .str "row", .str "fine", .str "fine"]), none, none, none] st := by
  have hit : itD (fun e st => ev (cfOf T 228 (pushF [] [] E) d__law_right.lams (callF T 228) (cloF T 228)) 59 e [some (.ref j), some (.tup [.int 1, .int 1]), some (.tup [.int 0, .int 1]), some (podd), some (pform), some (prow), some (prules), some (pwish), some (.tup [.tup [.tup [.int 1, .int 1], .tup [.int 0, .int 1]], .tup [.tup [.int 0, .int 1], .tup [.int 1, .int 1]]]), some (.tup [.tup [.int 1, .int 1], .tup [.int 0, .int 1]]), some (.tup [.tup [.tup [.int 1, .int 1], .tup [.int 1, .int 1]]]), none, none, none, none, none, none] st) (.seq (.tup [.gfn 64, .gfn 66, .gfn 67])) st = .ok [.fn 64, .fn 66, .fn 67] st := by kernel_rfl
  show ex (cfOf T 228 (pushF [] [] E) d__law_right.lams (callF T 228) (cloF T 228)) 60 (.for_ (.name 11) (.seq (.tup [.gfn 64, .gfn 66, .gfn 67])) bd7) [some (.ref j), some (.tup [.int 1, .int 1]), some (.tup [.int 0, .int 1]), some (podd), some (pform), some (prow), some (prules), some (pwish), some (.tup [.tup [.tup [.int 1, .int 1], .tup [.int 0, .int 1]], .tup [.tup [.int 0, .int 1], .tup [.int 1, .int 1]]]), some (.tup [.tup [.int 1, .int 1], .tup [.int 0, .int 1]]), some (.tup [.tup [.tup [.int 1, .int 1], .tup [.int 1, .int 1]]]), none, none, none, none, none, none] st = _
  rw [x_for, hit, Res.run_ok]
  refine for_one (env' := [some (.ref j), some (.tup [.int 1, .int 1]), some (.tup [.int 0, .int 1]), some (podd), some (pform), some (prow), some (prules), some (pwish), some (.tup [.tup [.tup [.int 1, .int 1], .tup [.int 0, .int 1]], .tup [.tup [.int 0, .int 1], .tup [.int 1, .int 1]]]), some (.tup [.tup [.int 1, .int 1], .tup [.int 0, .int 1]]), some (.tup [.tup [.tup [.int 1, .int 1], .tup [.int 1, .int 1]]]), some (.fn 64), some (.lst [.clo 0 0, .clo 0 1, .clo 0 2, .clo 0 3, .clo 0 4, .clo 0 5, .clo 0 6]), some (.lst [.str ("count " ++ podd_r), .str "form", .str "row", .str "row", .str "row", .str "fine", .str "fine"]), none, none, none]) ?_ ?_
  · show exL (ex (cfOf T 228 (pushF [] [] E) d__law_right.lams (callF T 228) (cloF T 228)) 59) [bd7.getD 0 .pass, bd7.getD 1 .pass, bd7.getD 2 .pass] [some (.ref j), some (.tup [.int 1, .int 1]), some (.tup [.int 0, .int 1]), some (podd), some (pform), some (prow), some (prules), some (pwish), some (.tup [.tup [.tup [.int 1, .int 1], .tup [.int 0, .int 1]], .tup [.tup [.int 0, .int 1], .tup [.int 1, .int 1]]]), some (.tup [.tup [.int 1, .int 1], .tup [.int 0, .int 1]]), some (.tup [.tup [.tup [.int 1, .int 1], .tup [.int 1, .int 1]]]), some (.fn 64), none, none, none, none, none] st = _
    rw [xL_cons, st7_0_0 E h_podd h_pform h_prow h_prules h_pwish, SR.then_next, xL_cons, st7_0_1 E h_podd h_pform h_prow h_prules h_pwish, SR.then_next, xL_cons, st7_0_2 E B h_podd h_pform h_prow h_prules h_pwish, SR.then_next, xL_nil]
  refine for_one (env' := [some (.ref j), some (.tup [.int 1, .int 1]), some (.tup [.int 0, .int 1]), some (podd), some (pform), some (prow), some (prules), some (pwish), some (.tup [.tup [.tup [.int 1, .int 1], .tup [.int 0, .int 1]], .tup [.tup [.int 0, .int 1], .tup [.int 1, .int 1]]]), some (.tup [.tup [.int 1, .int 1], .tup [.int 0, .int 1]]), some (.tup [.tup [.tup [.int 1, .int 1], .tup [.int 1, .int 1]]]), some (.fn 66), some (.lst [.clo 0 0, .clo 0 1, .clo 0 2, .clo 0 3, .clo 0 4, .clo 0 5, .clo 0 6]), some (.lst [.str ("count " ++ podd_r), .str "form", .str "row", .str "row", .str "row", .str "fine", .str "fine"]), none, none, none]) ?_ ?_
  · show exL (ex (cfOf T 228 (pushF [] [] E) d__law_right.lams (callF T 228) (cloF T 228)) 59) [bd7.getD 0 .pass, bd7.getD 1 .pass, bd7.getD 2 .pass] [some (.ref j), some (.tup [.int 1, .int 1]), some (.tup [.int 0, .int 1]), some (podd), some (pform), some (prow), some (prules), some (pwish), some (.tup [.tup [.tup [.int 1, .int 1], .tup [.int 0, .int 1]], .tup [.tup [.int 0, .int 1], .tup [.int 1, .int 1]]]), some (.tup [.tup [.int 1, .int 1], .tup [.int 0, .int 1]]), some (.tup [.tup [.tup [.int 1, .int 1], .tup [.int 1, .int 1]]]), some (.fn 66), some (.lst [.clo 0 0, .clo 0 1, .clo 0 2, .clo 0 3, .clo 0 4, .clo 0 5, .clo 0 6]), some (.lst [.str ("count " ++ podd_r), .str "form", .str "row", .str "row", .str "row", .str "fine", .str "fine"]), none, none, none] st = _
    rw [xL_cons, st7_1_0 E h_podd h_pform h_prow h_prules h_pwish, SR.then_next, xL_cons, st7_1_1 E h_podd h_pform h_prow h_prules h_pwish, SR.then_next, xL_cons, st7_1_2 E B h_podd h_pform h_prow h_prules h_pwish, SR.then_next, xL_nil]
  refine for_one (env' := [some (.ref j), some (.tup [.int 1, .int 1]), some (.tup [.int 0, .int 1]), some (podd), some (pform), some (prow), some (prules), some (pwish), some (.tup [.tup [.tup [.int 1, .int 1], .tup [.int 0, .int 1]], .tup [.tup [.int 0, .int 1], .tup [.int 1, .int 1]]]), some (.tup [.tup [.int 1, .int 1], .tup [.int 0, .int 1]]), some (.tup [.tup [.tup [.int 1, .int 1], .tup [.int 1, .int 1]]]), some (.fn 67), some (.lst [.clo 0 0, .clo 0 1, .clo 0 2, .clo 0 3, .clo 0 4, .clo 0 5, .clo 0 6]), some (.lst [.str ("count " ++ podd_r), .str "form", .str "row", .str "row", .str "row", .str "fine", .str "fine"]), none, none, none]) ?_ ?_
  · show exL (ex (cfOf T 228 (pushF [] [] E) d__law_right.lams (callF T 228) (cloF T 228)) 59) [bd7.getD 0 .pass, bd7.getD 1 .pass, bd7.getD 2 .pass] [some (.ref j), some (.tup [.int 1, .int 1]), some (.tup [.int 0, .int 1]), some (podd), some (pform), some (prow), some (prules), some (pwish), some (.tup [.tup [.tup [.int 1, .int 1], .tup [.int 0, .int 1]], .tup [.tup [.int 0, .int 1], .tup [.int 1, .int 1]]]), some (.tup [.tup [.int 1, .int 1], .tup [.int 0, .int 1]]), some (.tup [.tup [.tup [.int 1, .int 1], .tup [.int 1, .int 1]]]), some (.fn 67), some (.lst [.clo 0 0, .clo 0 1, .clo 0 2, .clo 0 3, .clo 0 4, .clo 0 5, .clo 0 6]), some (.lst [.str ("count " ++ podd_r), .str "form", .str "row", .str "row", .str "row", .str "fine", .str "fine"]), none, none, none] st = _
    rw [xL_cons, st7_2_0 E h_podd h_pform h_prow h_prules h_pwish, SR.then_next, xL_cons, st7_2_1 E h_podd h_pform h_prow h_prules h_pwish, SR.then_next, xL_cons, st7_2_2 E B h_podd h_pform h_prow h_prules h_pwish, SR.then_next, xL_nil]
  rfl
theorem st8 (E : Mu.Env) {st : Sto} {j : Nat} {podd : D} {podd_r : Str} (h_podd : (podd, podd_r) ∈ m_podd) {pform : D} (h_pform : pform ∈ m_pform) {prow : D} (h_prow : prow ∈ m_prow) {prules : D} (h_prules : prules ∈ m_prules prow) {pwish : D} (h_pwish : pwish ∈ m_pwish) : ex (cfOf T 228 (pushF [] [] E) d__law_right.lams (callF T 228) (cloF T 228)) 60 s8 [some (.ref j), some (.tup [.int 1, .int 1]), some (.tup [.int 0, .int 1]), some (podd), some (pform), some (prow), some (prules), some (pwish), some (.tup [.tup [.tup [.int 1, .int 1], .tup [.int 0, .int 1]], .tup [.tup [.int 0, .int 1], .tup [.int 1, .int 1]]]), some (.tup [.tup [.int 1, .int 1], .tup [.int 0, .int 1]]), some (.tup [.tup [.tup [.int 1, .int 1], .tup [.int 1, .int 1]]]), some (.fn 67), some (.lst [.clo 0 0, .clo 0 1, .clo 0 2, .clo 0 3, .clo 0 4, .clo 0 5, .clo 0 6]), some (.lst [.str ("count " ++ podd_r), .str "form", .str "row", .str "row", .str "row", .str "fine", .str "fine"]), none, none, none] st = .next [some (.ref j), some (.tup [.int 1, .int 1]), some (.tup [.int 0, .int 1]), some (podd), some (pform), some (prow), some (prules), some (pwish), some (.tup [.tup [.tup [.int 1, .int 1], .tup [.int 0, .int 1]], .tup [.tup [.int 0, .int 1], .tup [.int 1, .int 1]]]), some (.tup [.tup [.int 1, .int 1], .tup [.int 0, .int 1]]), some (.tup [.tup [.tup [.int 1, .int 1], .tup [.int 1, .int 1]]]), some (.fn 67), some (.lst [.clo 0 7, .clo 0 8, .clo 0 9, .clo 0 10, .clo 0 11, .clo 0 12, .clo 0 13]), some (.lst [.str ("count " ++ podd_r), .str "form", .str "row", .str "row", .str "row", .str "fine", .str "fine"]), none, none, none] st := by kernel_rfl
theorem st9 (E : Mu.Env) {st : Sto} {j : Nat} {podd : D} {podd_r : Str} (h_podd : (podd, podd_r) ∈ m_podd) {pform : D} (h_pform : pform ∈ m_pform) {prow : D} (h_prow : prow ∈ m_prow) {prules : D} (h_prules : prules ∈ m_prules prow) {pwish : D} (h_pwish : pwish ∈ m_pwish) : ex (cfOf T 228 (pushF [] [] E) d__law_right.lams (callF T 228) (cloF T 228)) 60 s9 [some (.ref j), some (.tup [.int 1, .int 1]), some (.tup [.int 0, .int 1]), some (podd), some (pform), some (prow), some (prules), some (pwish), some (.tup [.tup [.tup [.int 1, .int 1], .tup [.int 0, .int 1]], .tup [.tup [.int 0, .int 1], .tup [.int 1, .int 1]]]), some (.tup [.tup [.int 1, .int 1], .tup [.int 0, .int 1]]), some (.tup [.tup [.tup [.int 1, .int 1], .tup [.int 1, .int 1]]]), some (.fn 67), some (.lst [.clo 0 7, .clo 0 8, .clo 0 9, .clo 0 10, .clo 0 11, .clo 0 12, .clo 0 13]), some (.lst [.str ("count " ++ podd_r), .str "form", .str "row", .str "row", .str "row", .str "fine", .str "fine"]), none, none, none] st = .next [some (.ref j), some (.tup [.int 1, .int 1]), some (.tup [.int 0, .int 1]), some (podd), some (pform), some (prow), some (prules), some (pwish), some (.tup [.tup [.tup [.int 1, .int 1], .tup [.int 0, .int 1]], .tup [.tup [.int 0, .int 1], .tup [.int 1, .int 1]]]), some (.tup [.tup [.int 1, .int 1], .tup [.int 0, .int 1]]), some (.tup [.tup [.tup [.int 1, .int 1], .tup [.int 1, .int 1]]]), some (.fn 67), some (.lst [.clo 0 7, .clo 0 8, .clo 0 9, .clo 0 10, .clo 0 11, .clo 0 12, .clo 0 13]), some (.lst [.str ("count " ++ podd_r), .str "form", .str "row", .str "row", .str ("count " ++ podd_r), .str "form", .str "row"]), none, none, none] st := by
  have rr_podd := rOf (List.all_eq_true.mp m_podd_r _ h_podd)
  have so_podd := rr_podd.2.2
  obtain ⟨C, hC⟩ : ∃ C, C = cfOf T 228 (pushF [] [] E) d__law_right.lams (callF T 228) (cloF T 228) := ⟨_, rfl⟩
  rw [← hC]
  have a2 : ev C 58 (.bin .Add (.lit (.str "count ")) (.blt .repr [.var 3])) [some (.ref j), some (.tup [.int 1, .int 1]), some (.tup [.int 0, .int 1]), some (podd), some (pform), some (prow), some (prules), some (pwish), some (.tup [.tup [.tup [.int 1, .int 1], .tup [.int 0, .int 1]], .tup [.tup [.int 0, .int 1], .tup [.int 1, .int 1]]]), some (.tup [.tup [.int 1, .int 1], .tup [.int 0, .int 1]]), some (.tup [.tup [.tup [.int 1, .int 1], .tup [.int 1, .int 1]]]), some (.fn 67), some (.lst [.clo 0 7, .clo 0 8, .clo 0 9, .clo 0 10, .clo 0 11, .clo 0 12, .clo 0 13]), some (.lst [.str ("count " ++ podd_r), .str "form", .str "row", .str "row", .str "row", .str "fine", .str "fine"]), none, none, none] st = .ok (.str ("count " ++ podd_r)) st := cnt_ev (n := 55) (d := podd) rfl rr_podd.1 rr_podd.2.1
  have a3 : ev C 58 (.lit (.str "form")) [some (.ref j), some (.tup [.int 1, .int 1]), some (.tup [.int 0, .int 1]), some (podd), some (pform), some (prow), some (prules), some (pwish), some (.tup [.tup [.tup [.int 1, .int 1], .tup [.int 0, .int 1]], .tup [.tup [.int 0, .int 1], .tup [.int 1, .int 1]]]), some (.tup [.tup [.int 1, .int 1], .tup [.int 0, .int 1]]), some (.tup [.tup [.tup [.int 1, .int 1], .tup [.int 1, .int 1]]]), some (.fn 67), some (.lst [.clo 0 7, .clo 0 8, .clo 0 9, .clo 0 10, .clo 0 11, .clo 0 12, .clo 0 13]), some (.lst [.str ("count " ++ podd_r), .str "form", .str "row", .str "row", .str "row", .str "fine", .str "fine"]), none, none, none] st = .ok (.str "form") st := by kernel_rfl
  have a4 : ev C 58 (.lit (.str "row")) [some (.ref j), some (.tup [.int 1, .int 1]), some (.tup [.int 0, .int 1]), some (podd), some (pform), some (prow), some (prules), some (pwish), some (.tup [.tup [.tup [.int 1, .int 1], .tup [.int 0, .int 1]], .tup [.tup [.int 0, .int 1], .tup [.int 1, .int 1]]]), some (.tup [.tup [.int 1, .int 1], .tup [.int 0, .int 1]]), some (.tup [.tup [.tup [.int 1, .int 1], .tup [.int 1, .int 1]]]), some (.fn 67), some (.lst [.clo 0 7, .clo 0 8, .clo 0 9, .clo 0 10, .clo 0 11, .clo 0 12, .clo 0 13]), some (.lst [.str ("count " ++ podd_r), .str "form", .str "row", .str "row", .str "row", .str "fine", .str "fine"]), none, none, none] st = .ok (.str "row") st := by kernel_rfl
  have a5 : ev C 58 (.lit (.str "row")) [some (.ref j), some (.tup [.int 1, .int 1]), some (.tup [.int 0, .int 1]), some (podd), some (pform), some (prow), some (prules), some (pwish), some (.tup [.tup [.tup [.int 1, .int 1], .tup [.int 0, .int 1]], .tup [.tup [.int 0, .int 1], .tup [.int 1, .int 1]]]), some (.tup [.tup [.int 1, .int 1], .tup [.int 0, .int 1]]), some (.tup [.tup [.tup [.int 1, .int 1], .tup [.int 1, .int 1]]]), some (.fn 67), some (.lst [.clo 0 7, .clo 0 8, .clo 0 9, .clo 0 10, .clo 0 11, .clo 0 12, .clo 0 13]), some (.lst [.str ("count " ++ podd_r), .str "form", .str "row", .str "row", .str "row", .str "fine", .str "fine"]), none, none, none] st = .ok (.str "row") st := by kernel_rfl
  have a6 : ev C 58 (.bin .Add (.lit (.str "count ")) (.blt .repr [.var 3])) [some (.ref j), some (.tup [.int 1, .int 1]), some (.tup [.int 0, .int 1]), some (podd), some (pform), some (prow), some (prules), some (pwish), some (.tup [.tup [.tup [.int 1, .int 1], .tup [.int 0, .int 1]], .tup [.tup [.int 0, .int 1], .tup [.int 1, .int 1]]]), some (.tup [.tup [.int 1, .int 1], .tup [.int 0, .int 1]]), some (.tup [.tup [.tup [.int 1, .int 1], .tup [.int 1, .int 1]]]), some (.fn 67), some (.lst [.clo 0 7, .clo 0 8, .clo 0 9, .clo 0 10, .clo 0 11, .clo 0 12, .clo 0 13]), some (.lst [.str ("count " ++ podd_r), .str "form", .str "row", .str "row", .str "row", .str "fine", .str "fine"]), none, none, none] st = .ok (.str ("count " ++ podd_r)) st := cnt_ev (n := 55) (d := podd) rfl rr_podd.1 rr_podd.2.1
  have a7 : ev C 58 (.lit (.str "form")) [some (.ref j), some (.tup [.int 1, .int 1]), some (.tup [.int 0, .int 1]), some (podd), some (pform), some (prow), some (prules), some (pwish), some (.tup [.tup [.tup [.int 1, .int 1], .tup [.int 0, .int 1]], .tup [.tup [.int 0, .int 1], .tup [.int 1, .int 1]]]), some (.tup [.tup [.int 1, .int 1], .tup [.int 0, .int 1]]), some (.tup [.tup [.tup [.int 1, .int 1], .tup [.int 1, .int 1]]]), some (.fn 67), some (.lst [.clo 0 7, .clo 0 8, .clo 0 9, .clo 0 10, .clo 0 11, .clo 0 12, .clo 0 13]), some (.lst [.str ("count " ++ podd_r), .str "form", .str "row", .str "row", .str "row", .str "fine", .str "fine"]), none, none, none] st = .ok (.str "form") st := by kernel_rfl
  have a8 : ev C 58 (.lit (.str "row")) [some (.ref j), some (.tup [.int 1, .int 1]), some (.tup [.int 0, .int 1]), some (podd), some (pform), some (prow), some (prules), some (pwish), some (.tup [.tup [.tup [.int 1, .int 1], .tup [.int 0, .int 1]], .tup [.tup [.int 0, .int 1], .tup [.int 1, .int 1]]]), some (.tup [.tup [.int 1, .int 1], .tup [.int 0, .int 1]]), some (.tup [.tup [.tup [.int 1, .int 1], .tup [.int 1, .int 1]]]), some (.fn 67), some (.lst [.clo 0 7, .clo 0 8, .clo 0 9, .clo 0 10, .clo 0 11, .clo 0 12, .clo 0 13]), some (.lst [.str ("count " ++ podd_r), .str "form", .str "row", .str "row", .str "row", .str "fine", .str "fine"]), none, none, none] st = .ok (.str "row") st := by kernel_rfl
  have a1 : ev C 59 (.lst [.bin .Add (.lit (.str "count ")) (.blt .repr [.var 3]), .lit (.str "form"), .lit (.str "row"), .lit (.str "row"), .bin .Add (.lit (.str "count ")) (.blt .repr [.var 3]), .lit (.str "form"), .lit (.str "row")]) [some (.ref j), some (.tup [.int 1, .int 1]), some (.tup [.int 0, .int 1]), some (podd), some (pform), some (prow), some (prules), some (pwish), some (.tup [.tup [.tup [.int 1, .int 1], .tup [.int 0, .int 1]], .tup [.tup [.int 0, .int 1], .tup [.int 1, .int 1]]]), some (.tup [.tup [.int 1, .int 1], .tup [.int 0, .int 1]]), some (.tup [.tup [.tup [.int 1, .int 1], .tup [.int 1, .int 1]]]), some (.fn 67), some (.lst [.clo 0 7, .clo 0 8, .clo 0 9, .clo 0 10, .clo 0 11, .clo 0 12, .clo 0 13]), some (.lst [.str ("count " ++ podd_r), .str "form", .str "row", .str "row", .str "row", .str "fine", .str "fine"]), none, none, none] st = .ok (.lst [.str ("count " ++ podd_r), .str "form", .str "row", .str "row", .str ("count " ++ podd_r), .str "form", .str "row"]) st := by
    rw [z_lst, qL_cons, a2, Res.bind_ok, qL_cons, a3, Res.bind_ok, qL_cons, a4, Res.bind_ok, qL_cons, a5, Res.bind_ok, qL_cons, a6, Res.bind_ok, qL_cons, a7, Res.bind_ok, qL_cons, a8, Res.bind_ok, qL_nil]
    simp
  show ex C 60 (.asg (.name 13) (.lst [.bin .Add (.lit (.str "count ")) (.blt .repr [.var 3]), .lit (.str "form"), .lit (.str "row"), .lit (.str "row"), .bin .Add (.lit (.str "count ")) (.blt .repr [.var 3]), .lit (.str "form"), .lit (.str "row")])) [some (.ref j), some (.tup [.int 1, .int 1]), some (.tup [.int 0, .int 1]), some (podd), some (pform), some (prow), some (prules), some (pwish), some (.tup [.tup [.tup [.int 1, .int 1], .tup [.int 0, .int 1]], .tup [.tup [.int 0, .int 1], .tup [.int 1, .int 1]]]), some (.tup [.tup [.int 1, .int 1], .tup [.int 0, .int 1]]), some (.tup [.tup [.tup [.int 1, .int 1], .tup [.int 1, .int 1]]]), some (.fn 67), some (.lst [.clo 0 7, .clo 0 8, .clo 0 9, .clo 0 10, .clo 0 11, .clo 0 12, .clo 0 13]), some (.lst [.str ("count " ++ podd_r), .str "form", .str "row", .str "row", .str "row", .str "fine", .str "fine"]), none, none, none] st = _
  rw [x_asg, a1]
  simp
theorem st10 (E : Mu.Env) {st : Sto} {j : Nat} (B : Base st) {podd : D} {podd_r : Str} (h_podd : (podd, podd_r) ∈ m_podd) {pform : D} (h_pform : pform ∈ m_pform) {prow : D} (h_prow : prow ∈ m_prow) {prules : D} (h_prules : prules ∈ m_prules prow) {pwish : D} (h_pwish : pwish ∈ m_pwish) : ex (cfOf T 228 (pushF [] [] E) d__law_right.lams (callF T 228) (cloF T 228)) 60 s10 [some (.ref j), some (.tup [.int 1, .int 1]), some (.tup [.int 0, .int 1]), some (podd), some (pform), some (prow), some (prules), some (pwish), some (.tup [.tup [.tup [.int 1, .int 1], .tup [.int 0, .int 1]], .tup [.tup [.int 0, .int 1], .tup [.int 1, .int 1]]]), some (.tup [.tup [.int 1, .int 1], .tup [.int 0, .int 1]]), some (.tup [.tup [.tup [.int 1, .int 1], .tup [.int 1, .int 1]]]), some (.fn 67), some (.lst [.clo 0 7, .clo 0 8, .clo 0 9, .clo 0 10, .clo 0 11, .clo 0 12, .clo 0 13]), some (.lst [.str ("count " ++ podd_r), .str "form", .str "row", .str "row", .str ("count " ++ podd_r), .str "form", .str "row"]), none, none, none] st = .next [some (.ref j), some (.tup [.int 1, .int 1]), some (.tup [.int 0, .int 1]), some (podd), some (pform), some (prow), some (prules), some (pwish), some (.tup [.tup [.tup [.int 1, .int 1], .tup [.int 0, .int 1]], .tup [.tup [.int 0, .int 1], .tup [.int 1, .int 1]]]), some (.tup [.tup [.int 1, .int 1], .tup [.int 0, .int 1]]), some (.tup [.tup [.tup [.int 1, .int 1], .tup [.int 1, .int 1]]]), some (.fn 67), some (.lst [.clo 0 7, .clo 0 8, .clo 0 9, .clo 0 10, .clo 0 11, .clo 0 12, .clo 0 13]), some (.lst [.str ("count " ++ podd_r), .str "form", .str "row", .str "row", .str ("count " ++ podd_r), .str "form", .str "row"]), none, none, none] st := by
  have low_podd : podd.low 0 = true := List.all_eq_true.mp m_podd_l _ h_podd
  have rr_podd := rOf (List.all_eq_true.mp m_podd_r _ h_podd)
  have so_podd := rr_podd.2.2
  have low_pform : pform.low 0 = true := List.all_eq_true.mp m_pform_l _ h_pform
  have low_prow : prow.low 0 = true := List.all_eq_true.mp m_prow_l _ h_prow
  have low_prules : prules.low 0 = true := lowOf_prules low_prow h_prules
  have low_pwish : pwish.low 0 = true := List.all_eq_true.mp m_pwish_l _ h_pwish
  have y0_0 := all_mem (f10_0 pform prow) _ h_podd
  have w0 : callF T 228 (pushF [] d__law_right.lams [some (.ref j), some (.tup [.int 1, .int 1]), some (.tup [.int 0, .int 1]), some (podd), some (pform), some (prow), some (prules), some (pwish), some (.tup [.tup [.tup [.int 1, .int 1], .tup [.int 0, .int 1]], .tup [.tup [.int 0, .int 1], .tup [.int 1, .int 1]]]), some (.tup [.tup [.int 1, .int 1], .tup [.int 0, .int 1]]), some (.tup [.tup [.tup [.int 1, .int 1], .tup [.int 1, .int 1]]]), some (.fn 67), some (.lst [.clo 0 7, .clo 0 8, .clo 0 9, .clo 0 10, .clo 0 11, .clo 0 12, .clo 0 13]), some (.lst [.str ("count " ++ podd_r), .str "form", .str "row", .str "row", .str ("count " ++ podd_r), .str "form", .str "row"]), none, none, none]) 72 [.clo 0 7] st = .ok (.str ("count " ++ podd_r)) st := call_up tabP B (frR_sub (.no (.no (.no (.an low_podd (.an low_pform (.an low_prow (.no (.no (.no (.no (.no (.no (.no (.no (.no (.no (.no (Sub.nil))))))))))))))))))) rfl rfl (okB_eq y0_0)
  have y1_0 := all_mem (f10_1 prow) _ h_pform
  have w1 : callF T 228 (pushF [] d__law_right.lams [some (.ref j), some (.tup [.int 1, .int 1]), some (.tup [.int 0, .int 1]), some (podd), some (pform), some (prow), some (prules), some (pwish), some (.tup [.tup [.tup [.int 1, .int 1], .tup [.int 0, .int 1]], .tup [.tup [.int 0, .int 1], .tup [.int 1, .int 1]]]), some (.tup [.tup [.int 1, .int 1], .tup [.int 0, .int 1]]), some (.tup [.tup [.tup [.int 1, .int 1], .tup [.int 1, .int 1]]]), some (.fn 67), some (.lst [.clo 0 7, .clo 0 8, .clo 0 9, .clo 0 10, .clo 0 11, .clo 0 12, .clo 0 13]), some (.lst [.str ("count " ++ podd_r), .str "form", .str "row", .str "row", .str ("count " ++ podd_r), .str "form", .str "row"]), none, none, none]) 72 [.clo 0 8] st = .ok (.str "form") st := call_up tabP B (frR_sub (.no (.no (.no (.no (.an low_pform (.an low_prow (.no (.no (.no (.no (.no (.no (.no (.no (.no (.no (.no (Sub.nil))))))))))))))))))) rfl rfl (okB_eq y1_0)
  have y2_0 := all_mem f10_2 _ h_prow
  have w2 : callF T 228 (pushF [] d__law_right.lams [some (.ref j), some (.tup [.int 1, .int 1]), some (.tup [.int 0, .int 1]), some (podd), some (pform), some (prow), some (prules), some (pwish), some (.tup [.tup [.tup [.int 1, .int 1], .tup [.int 0, .int 1]], .tup [.tup [.int 0, .int 1], .tup [.int 1, .int 1]]]), some (.tup [.tup [.int 1, .int 1], .tup [.int 0, .int 1]]), some (.tup [.tup [.tup [.int 1, .int 1], .tup [.int 1, .int 1]]]), some (.fn 67), some (.lst [.clo 0 7, .clo 0 8, .clo 0 9, .clo 0 10, .clo 0 11, .clo 0 12, .clo 0 13]), some (.lst [.str ("count " ++ podd_r), .str "form", .str "row", .str "row", .str ("count " ++ podd_r), .str "form", .str "row"]), none, none, none]) 72 [.clo 0 9] st = .ok (.str "row") st := call_up tabP B (frR_sub (.no (.no (.no (.no (.no (.an low_prow (.no (.no (.an rfl (.no (.no (.no (.no (.no (.no (.no (.no (Sub.nil))))))))))))))))))) rfl rfl (okB_eq y2_0)
  have y3_0 := all_mem f10_3 _ h_prow
  have w3 : callF T 228 (pushF [] d__law_right.lams [some (.ref j), some (.tup [.int 1, .int 1]), some (.tup [.int 0, .int 1]), some (podd), some (pform), some (prow), some (prules), some (pwish), some (.tup [.tup [.tup [.int 1, .int 1], .tup [.int 0, .int 1]], .tup [.tup [.int 0, .int 1], .tup [.int 1, .int 1]]]), some (.tup [.tup [.int 1, .int 1], .tup [.int 0, .int 1]]), some (.tup [.tup [.tup [.int 1, .int 1], .tup [.int 1, .int 1]]]), some (.fn 67), some (.lst [.clo 0 7, .clo 0 8, .clo 0 9, .clo 0 10, .clo 0 11, .clo 0 12, .clo 0 13]), some (.lst [.str ("count " ++ podd_r), .str "form", .str "row", .str "row", .str ("count " ++ podd_r), .str "form", .str "row"]), none, none, none]) 72 [.clo 0 10] st = .ok (.str "row") st := call_up tabP B (frR_sub (.no (.no (.no (.no (.no (.an low_prow (.no (.no (.an rfl (.an rfl (.no (.no (.no (.no (.no (.no (.no (Sub.nil))))))))))))))))))) rfl rfl (okB_eq y3_0)
  have y4_0 := all_mem (f10_4 pform prow prules pwish) _ h_podd
  have w4 : callF T 228 (pushF [] d__law_right.lams [some (.ref j), some (.tup [.int 1, .int 1]), some (.tup [.int 0, .int 1]), some (podd), some (pform), some (prow), some (prules), some (pwish), some (.tup [.tup [.tup [.int 1, .int 1], .tup [.int 0, .int 1]], .tup [.tup [.int 0, .int 1], .tup [.int 1, .int 1]]]), some (.tup [.tup [.int 1, .int 1], .tup [.int 0, .int 1]]), some (.tup [.tup [.tup [.int 1, .int 1], .tup [.int 1, .int 1]]]), some (.fn 67), some (.lst [.clo 0 7, .clo 0 8, .clo 0 9, .clo 0 10, .clo 0 11, .clo 0 12, .clo 0 13]), some (.lst [.str ("count " ++ podd_r), .str "form", .str "row", .str "row", .str ("count " ++ podd_r), .str "form", .str "row"]), none, none, none]) 72 [.clo 0 11] st = .ok (.str ("count " ++ podd_r)) st := call_up tabP B (frR_sub (.no (.no (.no (.an low_podd (.an low_pform (.an low_prow (.an low_prules (.an low_pwish (.no (.no (.no (.no (.no (.no (.no (.no (.no (Sub.nil))))))))))))))))))) rfl rfl (okB_eq y4_0)
  have y5_0 := all_mem (f10_5 prow prules pwish) _ h_pform
  have w5 : callF T 228 (pushF [] d__law_right.lams [some (.ref j), some (.tup [.int 1, .int 1]), some (.tup [.int 0, .int 1]), some (podd), some (pform), some (prow), some (prules), some (pwish), some (.tup [.tup [.tup [.int 1, .int 1], .tup [.int 0, .int 1]], .tup [.tup [.int 0, .int 1], .tup [.int 1, .int 1]]]), some (.tup [.tup [.int 1, .int 1], .tup [.int 0, .int 1]]), some (.tup [.tup [.tup [.int 1, .int 1], .tup [.int 1, .int 1]]]), some (.fn 67), some (.lst [.clo 0 7, .clo 0 8, .clo 0 9, .clo 0 10, .clo 0 11, .clo 0 12, .clo 0 13]), some (.lst [.str ("count " ++ podd_r), .str "form", .str "row", .str "row", .str ("count " ++ podd_r), .str "form", .str "row"]), none, none, none]) 72 [.clo 0 12] st = .ok (.str "form") st := call_up tabP B (frR_sub (.no (.no (.no (.no (.an low_pform (.an low_prow (.an low_prules (.an low_pwish (.no (.no (.no (.no (.no (.no (.no (.no (.no (Sub.nil))))))))))))))))))) rfl rfl (okB_eq y5_0)
  have y6_0 := all_mem f10_6 _ h_pwish
  have w6 : callF T 228 (pushF [] d__law_right.lams [some (.ref j), some (.tup [.int 1, .int 1]), some (.tup [.int 0, .int 1]), some (podd), some (pform), some (prow), some (prules), some (pwish), some (.tup [.tup [.tup [.int 1, .int 1], .tup [.int 0, .int 1]], .tup [.tup [.int 0, .int 1], .tup [.int 1, .int 1]]]), some (.tup [.tup [.int 1, .int 1], .tup [.int 0, .int 1]]), some (.tup [.tup [.tup [.int 1, .int 1], .tup [.int 1, .int 1]]]), some (.fn 67), some (.lst [.clo 0 7, .clo 0 8, .clo 0 9, .clo 0 10, .clo 0 11, .clo 0 12, .clo 0 13]), some (.lst [.str ("count " ++ podd_r), .str "form", .str "row", .str "row", .str ("count " ++ podd_r), .str "form", .str "row"]), none, none, none]) 72 [.clo 0 13] st = .ok (.str "row") st := call_up tabP B (frR_sub (.no (.no (.no (.no (.no (.no (.no (.an low_pwish (.an rfl (.an rfl (.an rfl (.no (.no (.no (.no (.no (.no (Sub.nil))))))))))))))))))) rfl rfl (okB_eq y6_0)
  exact words_okK (T := T) (k := 228) (fr := pushF [] [] E) (lams := d__law_right.lams) (n := 53) (W := 72) (v := 11) (c := 12) (d := 0) [(7, ("count " ++ podd_r)), (8, "form"), (9, "row"), (10, "row"), (11, ("count " ++ podd_r)), (12, "form"), (13, "row")] rfl (of_decide_eq_true rfl) (of_decide_eq_true rfl) (List.forall_mem_cons.mpr ⟨so_podd, List.forall_mem_cons.mpr ⟨by decide +kernel, List.forall_mem_cons.mpr ⟨by decide +kernel, List.forall_mem_cons.mpr ⟨by decide +kernel, List.forall_mem_cons.mpr ⟨so_podd, List.forall_mem_cons.mpr ⟨by decide +kernel, List.forall_mem_cons.mpr ⟨by decide +kernel, fun _ h => nomatch h⟩⟩⟩⟩⟩⟩⟩) (List.forall_mem_cons.mpr ⟨w0, List.forall_mem_cons.mpr ⟨w1, List.forall_mem_cons.mpr ⟨w2, List.forall_mem_cons.mpr ⟨w3, List.forall_mem_cons.mpr ⟨w4, List.forall_mem_cons.mpr ⟨w5, List.forall_mem_cons.mpr ⟨w6, fun _ h => nomatch h⟩⟩⟩⟩⟩⟩⟩) (by kernel_rfl)
theorem me1 (C : Cf) {st : Sto} {j : Nat}   : ev C 58 (.lst [.lit .non, .neg (.lit (.int 1)), .lit (.int 145), .lit (.bl true), .lit (.str "1"), .bin .Pow (.lit (.int 10)) (.lit (.int 20))]) [some (.ref j), some (.tup [.int 1, .int 1]), some (.tup [.int 0, .int 1]), none, none, none, none, none, none, none, none, none, none, none, none, none, none] st = .ok (.lst (m_podd.map (·.1))) st := by kernel_rfl
theorem me2 (C : Cf) {st : Sto} {j : Nat} {podd : D}  : ev C 58 (.lst [.lit .non, .tup [], .tup [.tup [.var 1]], .tup [.tup [.var 1, .var 2], .tup [.var 1, .var 1]], .lst [.tup [.var 1, .var 2], .tup [.var 2, .var 1]], .tup [.tup [.var 1, .var 2], .tup [.var 2, .tup [.lit (.int 2), .lit (.int 2)]]], .tup [.tup [.var 1, .lit (.int 1)], .tup [.lit (.int 1), .var 1]], .lit (.str "form")]) [some (.ref j), some (.tup [.int 1, .int 1]), some (.tup [.int 0, .int 1]), some (podd), none, none, none, none, none, none, none, none, none, none, none, none, none] st = .ok (.lst (m_pform)) st := by kernel_rfl
theorem me3 (C : Cf) {st : Sto} {j : Nat} {podd : D} {pform : D}  : ev C 58 (.lst [.lit .non, .tup [], .tup [.var 1], .lst [.var 1, .var 1], .tup [.var 1, .tup [.lit (.int 2), .lit (.int 2)]], .tup [.var 1, .lit (.int 1)], .tup [.var 1, .var 1, .var 1]]) [some (.ref j), some (.tup [.int 1, .int 1]), some (.tup [.int 0, .int 1]), some (podd), some (pform), none, none, none, none, none, none, none, none, none, none, none, none] st = .ok (.lst (m_prow)) st := by kernel_rfl
theorem me4 (C : Cf) {st : Sto} {j : Nat} {podd : D} {pform : D} {prow : D}  : ev C 58 (.lst [.lit .non, .lst [], .tup [.tup [.var 1]], .lst [.tup [.var 1, .var 1]], .tup [.tup [.var 1, .lit (.int 1)]], .tup [.var 5], .lit (.str "rules"), .bin .Mult (.tup [.tup [.var 1, .var 1]]) (.lit (.int 145))]) [some (.ref j), some (.tup [.int 1, .int 1]), some (.tup [.int 0, .int 1]), some (podd), some (pform), some (prow), none, none, none, none, none, none, none, none, none, none, none] st = .ok (.lst (m_prules prow)) st := by kernel_rfl
theorem me5 (C : Cf) {st : Sto} {j : Nat} {podd : D} {pform : D} {prow : D} {prules : D}  : ev C 58 (.lst [.lit .non, .tup [], .tup [.var 1, .var 1], .lst [.var 1], .tup [.lit (.int 1)], .tup [.tup [.lit (.int 2), .lit (.int 2)]]]) [some (.ref j), some (.tup [.int 1, .int 1]), some (.tup [.int 0, .int 1]), some (podd), some (pform), some (prow), some (prules), none, none, none, none, none, none, none, none, none, none] st = .ok (.lst (m_pwish)) st := by kernel_rfl
theorem run (st : Sto) (j B : Nat) (E : Mu.Env) (hb : Base st) (hd : Dice j B st) (hB : B ≤ 900000) : ∃ a b c : Int, callF T 229 (pushF [] [] E) 73 [.ref j] st = .ok (.bl true) (st.set j (.lst [.int a, .int b, .int c])) ∧ Dice j (B + 5) (st.set j (.lst [.int a, .int b, .int c])) := by
  obtain ⟨v1, hv1, a1, b1, c1, p1, d1⟩ := pick_ev (T := T) (k := 228) (fr := pushF [] [] E) (lams := d__law_right.lams) (m := 57) hRoll hPick (xs := m_podd.map (·.1)) (show 0 < 6 by decide) (by omega) hd (by omega) rfl (me1 (j := j) _)
  obtain ⟨⟨podd, podd_r⟩, h_podd, rfl⟩ := List.mem_map.mp hv1
  have q1 : ex (cfOf T 228 (pushF [] [] E) d__law_right.lams (callF T 228) (cloF T 228)) 60 s1 [some (.ref j), some (.tup [.int 1, .int 1]), some (.tup [.int 0, .int 1]), none, none, none, none, none, none, none, none, none, none, none, none, none, none] st = .next [some (.ref j), some (.tup [.int 1, .int 1]), some (.tup [.int 0, .int 1]), some (podd), none, none, none, none, none, none, none, none, none, none, none, none, none] (st.set j (.lst [.int a1, .int b1, .int c1])) := by
    have p : ev (cfOf T 228 (pushF [] [] E) d__law_right.lams (callF T 228) (cloF T 228)) 59 (.call 71 [.var 0, .lst [.lit .non, .neg (.lit (.int 1)), .lit (.int 145), .lit (.bl true), .lit (.str "1"), .bin .Pow (.lit (.int 10)) (.lit (.int 20))]]) [some (.ref j), some (.tup [.int 1, .int 1]), some (.tup [.int 0, .int 1]), none, none, none, none, none, none, none, none, none, none, none, none, none, none] st = .ok podd (st.set j (.lst [.int a1, .int b1, .int c1])) := p1
    unfold s1
    rw [x_asg, p]
    simp
  obtain ⟨v2, hv2, a2, b2, c2, p2, d2⟩ := pick_ev (T := T) (k := 228) (fr := pushF [] [] E) (lams := d__law_right.lams) (m := 57) hRoll hPick (xs := m_pform) (show 0 < 8 by decide) (by omega) d1 (by omega) rfl (me2 (j := j) _)
  rw [set_set] at p2 d2
  obtain ⟨pform, h_pform, rfl⟩ : ∃ x, x ∈ m_pform ∧ x = v2 := ⟨_, hv2, rfl⟩
  have q2 : ex (cfOf T 228 (pushF [] [] E) d__law_right.lams (callF T 228) (cloF T 228)) 60 s2 [some (.ref j), some (.tup [.int 1, .int 1]), some (.tup [.int 0, .int 1]), some (podd), none, none, none, none, none, none, none, none, none, none, none, none, none] (st.set j (.lst [.int a1, .int b1, .int c1])) = .next [some (.ref j), some (.tup [.int 1, .int 1]), some (.tup [.int 0, .int 1]), some (podd), some (pform), none, none, none, none, none, none, none, none, none, none, none, none] (st.set j (.lst [.int a2, .int b2, .int c2])) := by
    have p : ev (cfOf T 228 (pushF [] [] E) d__law_right.lams (callF T 228) (cloF T 228)) 59 (.call 71 [.var 0, .lst [.lit .non, .tup [], .tup [.tup [.var 1]], .tup [.tup [.var 1, .var 2], .tup [.var 1, .var 1]], .lst [.tup [.var 1, .var 2], .tup [.var 2, .var 1]], .tup [.tup [.var 1, .var 2], .tup [.var 2, .tup [.lit (.int 2), .lit (.int 2)]]], .tup [.tup [.var 1, .lit (.int 1)], .tup [.lit (.int 1), .var 1]], .lit (.str "form")]]) [some (.ref j), some (.tup [.int 1, .int 1]), some (.tup [.int 0, .int 1]), some (podd), none, none, none, none, none, none, none, none, none, none, none, none, none] (st.set j (.lst [.int a1, .int b1, .int c1])) = .ok pform (st.set j (.lst [.int a2, .int b2, .int c2])) := p2
    unfold s2
    rw [x_asg, p]
    simp
  obtain ⟨v3, hv3, a3, b3, c3, p3, d3⟩ := pick_ev (T := T) (k := 228) (fr := pushF [] [] E) (lams := d__law_right.lams) (m := 57) hRoll hPick (xs := m_prow) (show 0 < 7 by decide) (by omega) d2 (by omega) rfl (me3 (j := j) _)
  rw [set_set] at p3 d3
  obtain ⟨prow, h_prow, rfl⟩ : ∃ x, x ∈ m_prow ∧ x = v3 := ⟨_, hv3, rfl⟩
  have q3 : ex (cfOf T 228 (pushF [] [] E) d__law_right.lams (callF T 228) (cloF T 228)) 60 s3 [some (.ref j), some (.tup [.int 1, .int 1]), some (.tup [.int 0, .int 1]), some (podd), some (pform), none, none, none, none, none, none, none, none, none, none, none, none] (st.set j (.lst [.int a2, .int b2, .int c2])) = .next [some (.ref j), some (.tup [.int 1, .int 1]), some (.tup [.int 0, .int 1]), some (podd), some (pform), some (prow), none, none, none, none, none, none, none, none, none, none, none] (st.set j (.lst [.int a3, .int b3, .int c3])) := by
    have p : ev (cfOf T 228 (pushF [] [] E) d__law_right.lams (callF T 228) (cloF T 228)) 59 (.call 71 [.var 0, .lst [.lit .non, .tup [], .tup [.var 1], .lst [.var 1, .var 1], .tup [.var 1, .tup [.lit (.int 2), .lit (.int 2)]], .tup [.var 1, .lit (.int 1)], .tup [.var 1, .var 1, .var 1]]]) [some (.ref j), some (.tup [.int 1, .int 1]), some (.tup [.int 0, .int 1]), some (podd), some (pform), none, none, none, none, none, none, none, none, none, none, none, none] (st.set j (.lst [.int a2, .int b2, .int c2])) = .ok prow (st.set j (.lst [.int a3, .int b3, .int c3])) := p3
    unfold s3
    rw [x_asg, p]
    simp
  obtain ⟨v4, hv4, a4, b4, c4, p4, d4⟩ := pick_ev (T := T) (k := 228) (fr := pushF [] [] E) (lams := d__law_right.lams) (m := 57) hRoll hPick (xs := m_prules prow) (show 0 < 8 by decide) (by omega) d3 (by omega) rfl (me4 (j := j) _)
  rw [set_set] at p4 d4
  obtain ⟨prules, h_prules, rfl⟩ : ∃ x, x ∈ m_prules prow ∧ x = v4 := ⟨_, hv4, rfl⟩
  have q4 : ex (cfOf T 228 (pushF [] [] E) d__law_right.lams (callF T 228) (cloF T 228)) 60 s4 [some (.ref j), some (.tup [.int 1, .int 1]), some (.tup [.int 0, .int 1]), some (podd), some (pform), some (prow), none, none, none, none, none, none, none, none, none, none, none] (st.set j (.lst [.int a3, .int b3, .int c3])) = .next [some (.ref j), some (.tup [.int 1, .int 1]), some (.tup [.int 0, .int 1]), some (podd), some (pform), some (prow), some (prules), none, none, none, none, none, none, none, none, none, none] (st.set j (.lst [.int a4, .int b4, .int c4])) := by
    have p : ev (cfOf T 228 (pushF [] [] E) d__law_right.lams (callF T 228) (cloF T 228)) 59 (.call 71 [.var 0, .lst [.lit .non, .lst [], .tup [.tup [.var 1]], .lst [.tup [.var 1, .var 1]], .tup [.tup [.var 1, .lit (.int 1)]], .tup [.var 5], .lit (.str "rules"), .bin .Mult (.tup [.tup [.var 1, .var 1]]) (.lit (.int 145))]]) [some (.ref j), some (.tup [.int 1, .int 1]), some (.tup [.int 0, .int 1]), some (podd), some (pform), some (prow), none, none, none, none, none, none, none, none, none, none, none] (st.set j (.lst [.int a3, .int b3, .int c3])) = .ok prules (st.set j (.lst [.int a4, .int b4, .int c4])) := p4
    unfold s4
    rw [x_asg, p]
    simp
  obtain ⟨v5, hv5, a5, b5, c5, p5, d5⟩ := pick_ev (T := T) (k := 228) (fr := pushF [] [] E) (lams := d__law_right.lams) (m := 57) hRoll hPick (xs := m_pwish) (show 0 < 6 by decide) (by omega) d4 (by omega) rfl (me5 (j := j) _)
  rw [set_set] at p5 d5
  obtain ⟨pwish, h_pwish, rfl⟩ : ∃ x, x ∈ m_pwish ∧ x = v5 := ⟨_, hv5, rfl⟩
  have q5 : ex (cfOf T 228 (pushF [] [] E) d__law_right.lams (callF T 228) (cloF T 228)) 60 s5 [some (.ref j), some (.tup [.int 1, .int 1]), some (.tup [.int 0, .int 1]), some (podd), some (pform), some (prow), some (prules), none, none, none, none, none, none, none, none, none, none] (st.set j (.lst [.int a4, .int b4, .int c4])) = .next [some (.ref j), some (.tup [.int 1, .int 1]), some (.tup [.int 0, .int 1]), some (podd), some (pform), some (prow), some (prules), some (pwish), none, none, none, none, none, none, none, none, none] (st.set j (.lst [.int a5, .int b5, .int c5])) := by
    have p : ev (cfOf T 228 (pushF [] [] E) d__law_right.lams (callF T 228) (cloF T 228)) 59 (.call 71 [.var 0, .lst [.lit .non, .tup [], .tup [.var 1, .var 1], .lst [.var 1], .tup [.lit (.int 1)], .tup [.tup [.lit (.int 2), .lit (.int 2)]]]]) [some (.ref j), some (.tup [.int 1, .int 1]), some (.tup [.int 0, .int 1]), some (podd), some (pform), some (prow), some (prules), none, none, none, none, none, none, none, none, none, none] (st.set j (.lst [.int a4, .int b4, .int c4])) = .ok pwish (st.set j (.lst [.int a5, .int b5, .int c5])) := p5
    unfold s5
    rw [x_asg, p]
    simp
  have hbF : Base (st.set j (.lst [.int a5, .int b5, .int c5])) := hb.set j _ _ _
  have low_podd : podd.low 0 = true := List.all_eq_true.mp m_podd_l _ h_podd
  have rr_podd := rOf (List.all_eq_true.mp m_podd_r _ h_podd)
  have so_podd := rr_podd.2.2
  have low_pform : pform.low 0 = true := List.all_eq_true.mp m_pform_l _ h_pform
  have low_prow : prow.low 0 = true := List.all_eq_true.mp m_prow_l _ h_prow
  have low_prules : prules.low 0 = true := lowOf_prules low_prow h_prules
  have low_pwish : pwish.low 0 = true := List.all_eq_true.mp m_pwish_l _ h_pwish
  obtain ⟨stz, qt, hl⟩ := retT_eq tail
  have qt := ret_up (fr' := pushF [] [] E) tabP hbF frR_nil (.no (.an rfl (.an rfl (.no (.no (.no (.no (.no (.an rfl (.an rfl (.an rfl (.an rfl (.an rfl (.no (.no (.no (.no (Sub.nil))))))))))))))))) : Sub _ [some (.ref j), some (.tup [.int 1, .int 1]), some (.tup [.int 0, .int 1]), some (podd), some (pform), some (prow), some (prules), some (pwish), some (.tup [.tup [.tup [.int 1, .int 1], .tup [.int 0, .int 1]], .tup [.tup [.int 0, .int 1], .tup [.int 1, .int 1]]]), some (.tup [.tup [.int 1, .int 1], .tup [.int 0, .int 1]]), some (.tup [.tup [.tup [.int 1, .int 1], .tup [.int 1, .int 1]]]), some (.fn 67), some (.lst [.clo 0 7, .clo 0 8, .clo 0 9, .clo 0 10, .clo 0 11, .clo 0 12, .clo 0 13]), some (.lst [.str ("count " ++ podd_r), .str "form", .str "row", .str "row", .str ("count " ++ podd_r), .str "form", .str "row"]), none, none, none]) rfl qt
  refine ⟨a5, b5, c5, ?_, d5⟩
  rw [run_l (show T.fns[73]? = some d__law_right from rfl) rfl]
  have split : d__law_right.body = [s0, s1, s2, s3, s4, s5, s6, s7, s8, s9, s10] ++ tl := rfl
  have pre : exL (ex (cfOf T 228 (pushF [] [] E) d__law_right.lams (callF T 228) (cloF T 228)) 60) [s0, s1, s2, s3, s4, s5, s6, s7, s8, s9, s10] [some (.ref j), none, none, none, none, none, none, none, none, none, none, none, none, none, none, none, none] st = .next [some (.ref j), some (.tup [.int 1, .int 1]), some (.tup [.int 0, .int 1]), some (podd), some (pform), some (prow), some (prules), some (pwish), some (.tup [.tup [.tup [.int 1, .int 1], .tup [.int 0, .int 1]], .tup [.tup [.int 0, .int 1], .tup [.int 1, .int 1]]]), some (.tup [.tup [.int 1, .int 1], .tup [.int 0, .int 1]]), some (.tup [.tup [.tup [.int 1, .int 1], .tup [.int 1, .int 1]]]), some (.fn 67), some (.lst [.clo 0 7, .clo 0 8, .clo 0 9, .clo 0 10, .clo 0 11, .clo 0 12, .clo 0 13]), some (.lst [.str ("count " ++ podd_r), .str "form", .str "row", .str "row", .str ("count " ++ podd_r), .str "form", .str "row"]), none, none, none] (st.set j (.lst [.int a5, .int b5, .int c5])) := by
    rw [xL_cons, st0 E , SR.then_next, xL_cons, q1, SR.then_next, xL_cons, q2, SR.then_next, xL_cons, q3, SR.then_next, xL_cons, q4, SR.then_next, xL_cons, q5, SR.then_next, xL_cons, st6 E h_podd h_pform h_prow h_prules h_pwish, SR.then_next, xL_cons, st7 E hbF h_podd h_pform h_prow h_prules h_pwish, SR.then_next, xL_cons, st8 E h_podd h_pform h_prow h_prules h_pwish, SR.then_next, xL_cons, st9 E h_podd h_pform h_prow h_prules h_pwish, SR.then_next, xL_cons, st10 E hbF h_podd h_pform h_prow h_prules h_pwish, SR.then_next, xL_nil]
  have all : exL (ex (cfOf T 228 (pushF [] [] E) d__law_right.lams (callF T 228) (cloF T 228)) 60) d__law_right.body [some (.ref j), none, none, none, none, none, none, none, none, none, none, none, none, none, none, none, none] st = .ret (.bl true) (shS (st.set j (.lst [.int a5, .int b5, .int c5])) stz) := by
    rw [split, exL_app, pre, SR.then_next]
    exact qt
  have all : exL (ex (cfOf T 228 (pushF [] [] E) d__law_right.lams (callF T 228) (cloF T 228)) deep) d__law_right.body ([D.ref j].map some ++ List.replicate (d__law_right.names.length - [D.ref j].length) none) st = .ret (.bl true) (shS (st.set j (.lst [.int a5, .int b5, .int c5])) stz) := all
  rw [all]
  exact fin_up hbF hl _ (by simp)
theorem turns : Turns T 229 73 5 [] 7 := fun st j B E hE hb hd hB => run st j B E hb hd (by omega)
theorem law_ok (ns : List Int) (_ : ns.length ≤ 63) : ∃ st, callF T 230 [] 74 [.rol (ns.map D.int)] [] = .ok (.bl true) st :=
  law_all (N := 5) (M := 5) (q := 5) (n := 7) (k := 229) (iR := 73) (id := 69) (lams := []) (rest := d_law.body.drop 1) tabP ⟨d_law, rfl, rfl, rfl, rfl, rfl⟩ hD turns (by omega) (by omega) (by omega) (by omega) (by omega) (by omega) end_ok ns
end L38

end
section
open PySem PySem.W PyProof.Rows Mu
set_option maxRecDepth 100000 in
set_option maxHeartbeats 0 in
theorem PySem.Challenge.cw_dearturns_k38_errors_of_least_values_holds : PySem.Challenge.rw_dearturns_k38_errors_of_least_values.Holds := by
  w_on; o_law; k_head; (case hw => w_witness2)
  k_fill
  refine Mu.walk_mu (l := PySem.Challenge.rw_dearturns_k38_errors_of_least_values) (T := L38.T) (k := 230) (i := 74) rfl (by decide) rfl ⟨rfl, by decide, by decide⟩ (by decide +kernel) (fun w h Y => ⟨PySem.W.km_in_of Y, PySem.W.km_tabs_of Y⟩) ?F ?law
  case law => exact L38.law_ok
  case F =>
    intro w mg fa h KX G hmg
    have o_is_integer := by
      refine' fd_ok (T := L38.T) (cs := [(552, 550)]) (tb := [(550, "_law_right.<locals>.<lambda>")]) (F := L38.d_is_integer) (st := L38.top 9) KX G ?a ?l ?c ?k L38.c_is_integer rfl ?m ?b; (case a => k_is); (case l => k_is); (case c => k_is); (case k => k_is); (case m => exact (fun h => absurd rfl h)); (case b => exact fun _ _ _ _ _ _ us hl => match us, hl with | [_], _ => rfl)
    have o_common_divisor := by
      refine' fd_ok (T := L38.T) (cs := [(552, 550)]) (tb := [(550, "_law_right.<locals>.<lambda>")]) (F := L38.d_common_divisor) (st := L38.top 10) KX G ?a ?l ?c ?k L38.c_common_divisor rfl ?m ?b; (case a => k_is); (case l => k_is); (case c => k_is); (case k => k_is); (case m => exact (fun h => absurd rfl h)); (case b => exact fun _ _ _ _ _ _ us hl => match us, hl with | [_, _], _ => rfl)
    have o_is_number := by
      refine' fd_ok (T := L38.T) (cs := [(552, 550)]) (tb := [(550, "_law_right.<locals>.<lambda>")]) (F := L38.d_is_number) (st := L38.top 11) KX G ?a ?l ?c ?k L38.c_is_number rfl ?m ?b; (case a => k_is); (case l => k_is); (case c => k_is); (case k => k_is); (case m => exact (fun h => absurd rfl h)); (case b => exact fun _ _ _ _ _ _ us hl => match us, hl with | [_], _ => rfl)
    have o_reduced := by
      refine' fd_ok (T := L38.T) (cs := [(552, 550)]) (tb := [(550, "_law_right.<locals>.<lambda>")]) (F := L38.d_reduced) (st := L38.top 12) KX G ?a ?l ?c ?k L38.c_reduced rfl ?m ?b; (case a => k_is); (case l => k_is); (case c => k_is); (case k => k_is); (case m => exact (fun h => absurd rfl h)); (case b => exact fun _ _ _ _ _ _ us hl => match us, hl with | [_, _], _ => rfl)
    have o_require_count := by
      refine' fd_okD (T := L38.T) (cs := [(552, 550)]) (tb := [(550, "_law_right.<locals>.<lambda>")]) (F := L38.d_require_count) (st := L38.top 13) KX G ?a ?l ?c ?k L38.c_require_count ?d ?e (by decide) (by decide) ?m ?b; (case a => k_is); (case l => k_is); (case c => k_is); (case k => k_is); (case d => k_is); (case e => (refine' cons_cons ?ch ?ct; (case ch => exact con_int); (case ct => (refine' cons_cons ?ch ?ct; (case ch => exact con_int); (case ct => exact cons_nil))))); (case m => exact (fun h => absurd rfl h))
      case b => exact fun j hj => match j, hj with
        | 0, _ => fun T _ _ _ _ _ _ us its hu hi => match us, hu, its, hi with | [_], _, [_, _], _ => ⟨_, rfl, rfl⟩
        | 1, _ => fun T _ _ _ _ _ _ us its hu hi => match us, hu, its, hi with | [_, _], _, [_, _], _ => ⟨_, rfl, rfl⟩
        | 2, _ => fun T _ _ _ _ _ _ us its hu hi => match us, hu, its, hi with | [_, _, _], _, [_, _], _ => ⟨_, rfl, rfl⟩
        | j + 3, h => absurd h (by show ¬ j + 3 ≤ 2; omega)
    have o_added := by
      refine' fd_ok (T := L38.T) (cs := [(552, 550)]) (tb := [(550, "_law_right.<locals>.<lambda>")]) (F := L38.d_added) (st := L38.top 14) KX G ?a ?l ?c ?k L38.c_added rfl ?m ?b; (case a => k_is); (case l => k_is); (case c => k_is); (case k => k_is); (case m => exact (fun h => absurd rfl h)); (case b => exact fun _ _ _ _ _ _ us hl => match us, hl with | [_, _], _ => rfl)
    have o_multiplied := by
      refine' fd_ok (T := L38.T) (cs := [(552, 550)]) (tb := [(550, "_law_right.<locals>.<lambda>")]) (F := L38.d_multiplied) (st := L38.top 15) KX G ?a ?l ?c ?k L38.c_multiplied rfl ?m ?b; (case a => k_is); (case l => k_is); (case c => k_is); (case k => k_is); (case m => exact (fun h => absurd rfl h)); (case b => exact fun _ _ _ _ _ _ us hl => match us, hl with | [_, _], _ => rfl)
    have o_opposite := by
      refine' fd_ok (T := L38.T) (cs := [(552, 550)]) (tb := [(550, "_law_right.<locals>.<lambda>")]) (F := L38.d_opposite) (st := L38.top 16) KX G ?a ?l ?c ?k L38.c_opposite rfl ?m ?b; (case a => k_is); (case l => k_is); (case c => k_is); (case k => k_is); (case m => exact (fun h => absurd rfl h)); (case b => exact fun _ _ _ _ _ _ us hl => match us, hl with | [_], _ => rfl)
    have o_divided := by
      refine' fd_ok (T := L38.T) (cs := [(552, 550)]) (tb := [(550, "_law_right.<locals>.<lambda>")]) (F := L38.d_divided) (st := L38.top 17) KX G ?a ?l ?c ?k L38.c_divided rfl ?m ?b; (case a => k_is); (case l => k_is); (case c => k_is); (case k => k_is); (case m => exact (fun h => absurd rfl h)); (case b => exact fun _ _ _ _ _ _ us hl => match us, hl with | [_, _], _ => rfl)
    have o_is_plain_row := by
      refine' fd_ok (T := L38.T) (cs := [(552, 550)]) (tb := [(550, "_law_right.<locals>.<lambda>")]) (F := L38.d_is_plain_row) (st := L38.top 19) KX G ?a ?l ?c ?k L38.c_is_plain_row rfl ?m ?b; (case a => k_is); (case l => k_is); (case c => k_is); (case k => k_is); (case m => exact (fun h => absurd rfl h)); (case b => exact fun _ _ _ _ _ _ us hl => match us, hl with | [_, _], _ => rfl)
    have o_is_plain_table := by
      refine' fd_ok (T := L38.T) (cs := [(552, 550)]) (tb := [(550, "_law_right.<locals>.<lambda>")]) (F := L38.d_is_plain_table) (st := L38.top 20) KX G ?a ?l ?c ?k L38.c_is_plain_table rfl ?m ?b; (case a => k_is); (case l => k_is); (case c => k_is); (case k => k_is); (case m => exact (fun h => absurd rfl h)); (case b => exact fun _ _ _ _ _ _ us hl => match us, hl with | [_, _, _], _ => rfl)
    have o_first_index := by
      refine' fd_ok (T := L38.T) (cs := [(552, 550)]) (tb := [(550, "_law_right.<locals>.<lambda>")]) (F := L38.d_first_index) (st := L38.top 21) KX G ?a ?l ?c ?k L38.c_first_index rfl ?m ?b; (case a => k_is); (case l => k_is); (case c => k_is); (case k => k_is); (case m => exact (fun h => absurd rfl h)); (case b => exact fun _ _ _ _ _ _ us hl => match us, hl with | [_], _ => rfl)
    have o_rest_row := by
      refine' fd_ok (T := L38.T) (cs := [(552, 550)]) (tb := [(550, "_law_right.<locals>.<lambda>")]) (F := L38.d_rest_row) (st := L38.top 22) KX G ?a ?l ?c ?k L38.c_rest_row rfl ?m ?b; (case a => k_is); (case l => k_is); (case c => k_is); (case k => k_is); (case m => exact (fun h => absurd rfl h)); (case b => exact fun _ _ _ _ _ _ us hl => match us, hl with | [_], _ => rfl)
    have o_unit_row := by
      refine' fd_ok (T := L38.T) (cs := [(552, 550)]) (tb := [(550, "_law_right.<locals>.<lambda>")]) (F := L38.d_unit_row) (st := L38.top 23) KX G ?a ?l ?c ?k L38.c_unit_row rfl ?m ?b; (case a => k_is); (case l => k_is); (case c => k_is); (case k => k_is); (case m => exact (fun h => absurd rfl h)); (case b => exact fun _ _ _ _ _ _ us hl => match us, hl with | [_, _], _ => rfl)
    have o_is_rest := by
      refine' fd_ok (T := L38.T) (cs := [(552, 550)]) (tb := [(550, "_law_right.<locals>.<lambda>")]) (F := L38.d_is_rest) (st := L38.top 24) KX G ?a ?l ?c ?k L38.c_is_rest rfl ?m ?b; (case a => k_is); (case l => k_is); (case c => k_is); (case k => k_is); (case m => exact (fun h => absurd rfl h)); (case b => exact fun _ _ _ _ _ _ us hl => match us, hl with | [_], _ => rfl)
    have o_sum_of_rows := by
      refine' fd_ok (T := L38.T) (cs := [(552, 550)]) (tb := [(550, "_law_right.<locals>.<lambda>")]) (F := L38.d_sum_of_rows) (st := L38.top 25) KX G ?a ?l ?c ?k L38.c_sum_of_rows rfl ?m ?b; (case a => k_is); (case l => k_is); (case c => k_is); (case k => k_is); (case m => exact (fun h => absurd rfl h)); (case b => exact fun _ _ _ _ _ _ us hl => match us, hl with | [_, _], _ => rfl)
    have o_times_row := by
      refine' fd_ok (T := L38.T) (cs := [(552, 550)]) (tb := [(550, "_law_right.<locals>.<lambda>")]) (F := L38.d_times_row) (st := L38.top 26) KX G ?a ?l ?c ?k L38.c_times_row rfl ?m ?b; (case a => k_is); (case l => k_is); (case c => k_is); (case k => k_is); (case m => exact (fun h => absurd rfl h)); (case b => exact fun _ _ _ _ _ _ us hl => match us, hl with | [_, _], _ => rfl)
    have o_less_times := by
      refine' fd_ok (T := L38.T) (cs := [(552, 550)]) (tb := [(550, "_law_right.<locals>.<lambda>")]) (F := L38.d_less_times) (st := L38.top 27) KX G ?a ?l ?c ?k L38.c_less_times rfl ?m ?b; (case a => k_is); (case l => k_is); (case c => k_is); (case k => k_is); (case m => exact (fun h => absurd rfl h)); (case b => exact fun _ _ _ _ _ _ us hl => match us, hl with | [_, _, _], _ => rfl)
    have o_difference_of := by
      refine' fd_ok (T := L38.T) (cs := [(552, 550)]) (tb := [(550, "_law_right.<locals>.<lambda>")]) (F := L38.d_difference_of) (st := L38.top 28) KX G ?a ?l ?c ?k L38.c_difference_of rfl ?m ?b; (case a => k_is); (case l => k_is); (case c => k_is); (case k => k_is); (case m => exact (fun h => absurd rfl h)); (case b => exact fun _ _ _ _ _ _ us hl => match us, hl with | [_, _], _ => rfl)
    have o_product_of := by
      refine' fd_ok (T := L38.T) (cs := [(552, 550)]) (tb := [(550, "_law_right.<locals>.<lambda>")]) (F := L38.d_product_of) (st := L38.top 29) KX G ?a ?l ?c ?k L38.c_product_of rfl ?m ?b; (case a => k_is); (case l => k_is); (case c => k_is); (case k => k_is); (case m => exact (fun h => absurd rfl h)); (case b => exact fun _ _ _ _ _ _ us hl => match us, hl with | [_, _], _ => rfl)
    have o_led_row := by
      refine' fd_ok (T := L38.T) (cs := [(552, 550)]) (tb := [(550, "_law_right.<locals>.<lambda>")]) (F := L38.d_led_row) (st := L38.top 30) KX G ?a ?l ?c ?k L38.c_led_row rfl ?m ?b; (case a => k_is); (case l => k_is); (case c => k_is); (case k => k_is); (case m => exact (fun h => absurd rfl h)); (case b => exact fun _ _ _ _ _ _ us hl => match us, hl with | [_, _], _ => rfl)
    have o_led_told := by
      refine' fd_ok (T := L38.T) (cs := [(552, 550)]) (tb := [(550, "_law_right.<locals>.<lambda>")]) (F := L38.d_led_told) (st := L38.top 31) KX G ?a ?l ?c ?k L38.c_led_told rfl ?m ?b; (case a => k_is); (case l => k_is); (case c => k_is); (case k => k_is); (case m => exact (fun h => absurd rfl h)); (case b => exact fun _ _ _ _ _ _ us hl => match us, hl with | [_, _, _], _ => rfl)
    have o_columns_of := by
      refine' fd_ok (T := L38.T) (cs := [(552, 550)]) (tb := [(550, "_law_right.<locals>.<lambda>")]) (F := L38.d_columns_of) (st := L38.top 32) KX G ?a ?l ?c ?k L38.c_columns_of rfl ?m ?b; (case a => k_is); (case l => k_is); (case c => k_is); (case k => k_is); (case m => exact (fun h => absurd rfl h)); (case b => exact fun _ _ _ _ _ _ us hl => match us, hl with | [_, _], _ => rfl)
    have o_rest_by := by
      refine' fd_ok (T := L38.T) (cs := [(552, 550)]) (tb := [(550, "_law_right.<locals>.<lambda>")]) (F := L38.d_rest_by) (st := L38.top 33) KX G ?a ?l ?c ?k L38.c_rest_by rfl ?m ?b; (case a => k_is); (case l => k_is); (case c => k_is); (case k => k_is); (case m => exact (fun h => absurd rfl h)); (case b => exact fun _ _ _ _ _ _ us hl => match us, hl with | [_, _], _ => rfl)
    have o_with_row := by
      refine' fd_ok (T := L38.T) (cs := [(552, 550)]) (tb := [(550, "_law_right.<locals>.<lambda>")]) (F := L38.d_with_row) (st := L38.top 34) KX G ?a ?l ?c ?k L38.c_with_row rfl ?m ?b; (case a => k_is); (case l => k_is); (case c => k_is); (case k => k_is); (case m => exact (fun h => absurd rfl h)); (case b => exact fun _ _ _ _ _ _ us hl => match us, hl with | [_, _], _ => rfl)
    have o_spanned := by
      refine' fd_ok (T := L38.T) (cs := [(552, 550)]) (tb := [(550, "_law_right.<locals>.<lambda>")]) (F := L38.d_spanned) (st := L38.top 35) KX G ?a ?l ?c ?k L38.c_spanned rfl ?m ?b; (case a => k_is); (case l => k_is); (case c => k_is); (case k => k_is); (case m => exact (fun h => absurd rfl h)); (case b => exact fun _ _ _ _ _ _ us hl => match us, hl with | [_], _ => rfl)
    have o_apart_from := by
      refine' fd_ok (T := L38.T) (cs := [(552, 550)]) (tb := [(550, "_law_right.<locals>.<lambda>")]) (F := L38.d_apart_from) (st := L38.top 36) KX G ?a ?l ?c ?k L38.c_apart_from rfl ?m ?b; (case a => k_is); (case l => k_is); (case c => k_is); (case k => k_is); (case m => exact (fun h => absurd rfl h)); (case b => exact fun _ _ _ _ _ _ us hl => match us, hl with | [_, _], _ => rfl)
    have o_sums_of := by
      refine' fd_ok (T := L38.T) (cs := [(552, 550)]) (tb := [(550, "_law_right.<locals>.<lambda>")]) (F := L38.d_sums_of) (st := L38.top 37) KX G ?a ?l ?c ?k L38.c_sums_of rfl ?m ?b; (case a => k_is); (case l => k_is); (case c => k_is); (case k => k_is); (case m => exact (fun h => absurd rfl h)); (case b => exact fun _ _ _ _ _ _ us hl => match us, hl with | [_, _, _], _ => rfl)
    have o_solved_by := by
      refine' fd_ok (T := L38.T) (cs := [(552, 550)]) (tb := [(550, "_law_right.<locals>.<lambda>")]) (F := L38.d_solved_by) (st := L38.top 38) KX G ?a ?l ?c ?k L38.c_solved_by rfl ?m ?b; (case a => k_is); (case l => k_is); (case c => k_is); (case k => k_is); (case m => exact (fun h => absurd rfl h)); (case b => exact fun _ _ _ _ _ _ us hl => match us, hl with | [_, _, _], _ => rfl)
    have o_weighing_of := by
      refine' fd_ok (T := L38.T) (cs := [(552, 550)]) (tb := [(550, "_law_right.<locals>.<lambda>")]) (F := L38.d_weighing_of) (st := L38.top 39) KX G ?a ?l ?c ?k L38.c_weighing_of rfl ?m ?b; (case a => k_is); (case l => k_is); (case c => k_is); (case k => k_is); (case m => exact (fun h => absurd rfl h)); (case b => exact fun _ _ _ _ _ _ us hl => match us, hl with | [_, _], _ => rfl)
    have o_require_width := by
      refine' fd_ok (T := L38.T) (cs := [(552, 550)]) (tb := [(550, "_law_right.<locals>.<lambda>")]) (F := L38.d_require_width) (st := L38.top 42) KX G ?a ?l ?c ?k L38.c_require_width rfl ?m ?b; (case a => k_is); (case l => k_is); (case c => k_is); (case k => k_is); (case m => exact (fun h => absurd rfl h)); (case b => exact fun _ _ _ _ _ _ us hl => match us, hl with | [_], _ => rfl)
    have o_require_row := by
      refine' fd_ok (T := L38.T) (cs := [(552, 550)]) (tb := [(550, "_law_right.<locals>.<lambda>")]) (F := L38.d_require_row) (st := L38.top 43) KX G ?a ?l ?c ?k L38.c_require_row rfl ?m ?b; (case a => k_is); (case l => k_is); (case c => k_is); (case k => k_is); (case m => exact (fun h => absurd rfl h)); (case b => exact fun _ _ _ _ _ _ us hl => match us, hl with | [_, _], _ => rfl)
    have o_require_rows := by
      refine' fd_ok (T := L38.T) (cs := [(552, 550)]) (tb := [(550, "_law_right.<locals>.<lambda>")]) (F := L38.d_require_rows) (st := L38.top 44) KX G ?a ?l ?c ?k L38.c_require_rows rfl ?m ?b; (case a => k_is); (case l => k_is); (case c => k_is); (case k => k_is); (case m => exact (fun h => absurd rfl h)); (case b => exact fun _ _ _ _ _ _ us hl => match us, hl with | [_, _], _ => rfl)
    have o_is_plain_form := by
      refine' fd_ok (T := L38.T) (cs := [(552, 550)]) (tb := [(550, "_law_right.<locals>.<lambda>")]) (F := L38.d_is_plain_form) (st := L38.top 46) KX G ?a ?l ?c ?k L38.c_is_plain_form rfl ?m ?b; (case a => k_is); (case l => k_is); (case c => k_is); (case k => k_is); (case m => exact (fun h => absurd rfl h)); (case b => exact fun _ _ _ _ _ _ us hl => match us, hl with | [_, _], _ => rfl)
    have o_require_form := by
      refine' fd_ok (T := L38.T) (cs := [(552, 550)]) (tb := [(550, "_law_right.<locals>.<lambda>")]) (F := L38.d_require_form) (st := L38.top 47) KX G ?a ?l ?c ?k L38.c_require_form rfl ?m ?b; (case a => k_is); (case l => k_is); (case c => k_is); (case k => k_is); (case m => exact (fun h => absurd rfl h)); (case b => exact fun _ _ _ _ _ _ us hl => match us, hl with | [_, _], _ => rfl)
    have o_nought_form := by
      refine' fd_ok (T := L38.T) (cs := [(552, 550)]) (tb := [(550, "_law_right.<locals>.<lambda>")]) (F := L38.d_nought_form) (st := L38.top 48) KX G ?a ?l ?c ?k L38.c_nought_form rfl ?m ?b; (case a => k_is); (case l => k_is); (case c => k_is); (case k => k_is); (case m => exact (fun h => absurd rfl h)); (case b => exact fun _ _ _ _ _ _ us hl => match us, hl with | [_], _ => rfl)
    have o_pair_of := by
      refine' fd_ok (T := L38.T) (cs := [(552, 550)]) (tb := [(550, "_law_right.<locals>.<lambda>")]) (F := L38.d_pair_of) (st := L38.top 49) KX G ?a ?l ?c ?k L38.c_pair_of rfl ?m ?b; (case a => k_is); (case l => k_is); (case c => k_is); (case k => k_is); (case m => exact (fun h => absurd rfl h)); (case b => exact fun _ _ _ _ _ _ us hl => match us, hl with | [_, _, _], _ => rfl)
    have o_value_of := by
      refine' fd_ok (T := L38.T) (cs := [(552, 550)]) (tb := [(550, "_law_right.<locals>.<lambda>")]) (F := L38.d_value_of) (st := L38.top 50) KX G ?a ?l ?c ?k L38.c_value_of rfl ?m ?b; (case a => k_is); (case l => k_is); (case c => k_is); (case k => k_is); (case m => exact (fun h => absurd rfl h)); (case b => exact fun _ _ _ _ _ _ us hl => match us, hl with | [_, _], _ => rfl)
    have o_sum_of_forms := by
      refine' fd_ok (T := L38.T) (cs := [(552, 550)]) (tb := [(550, "_law_right.<locals>.<lambda>")]) (F := L38.d_sum_of_forms) (st := L38.top 51) KX G ?a ?l ?c ?k L38.c_sum_of_forms rfl ?m ?b; (case a => k_is); (case l => k_is); (case c => k_is); (case k => k_is); (case m => exact (fun h => absurd rfl h)); (case b => exact fun _ _ _ _ _ _ us hl => match us, hl with | [_, _], _ => rfl)
    have o_form_by := by
      refine' fd_ok (T := L38.T) (cs := [(552, 550)]) (tb := [(550, "_law_right.<locals>.<lambda>")]) (F := L38.d_form_by) (st := L38.top 52) KX G ?a ?l ?c ?k L38.c_form_by rfl ?m ?b; (case a => k_is); (case l => k_is); (case c => k_is); (case k => k_is); (case m => exact (fun h => absurd rfl h)); (case b => exact fun _ _ _ _ _ _ us hl => match us, hl with | [_, _], _ => rfl)
    have o_less_form := by
      refine' fd_ok (T := L38.T) (cs := [(552, 550)]) (tb := [(550, "_law_right.<locals>.<lambda>")]) (F := L38.d_less_form) (st := L38.top 53) KX G ?a ?l ?c ?k L38.c_less_form rfl ?m ?b; (case a => k_is); (case l => k_is); (case c => k_is); (case k => k_is); (case m => exact (fun h => absurd rfl h)); (case b => exact fun _ _ _ _ _ _ us hl => match us, hl with | [_, _], _ => rfl)
    have o_led_by := by
      refine' fd_ok (T := L38.T) (cs := [(552, 550)]) (tb := [(550, "_law_right.<locals>.<lambda>")]) (F := L38.d_led_by) (st := L38.top 54) KX G ?a ?l ?c ?k L38.c_led_by rfl ?m ?b; (case a => k_is); (case l => k_is); (case c => k_is); (case k => k_is); (case m => exact (fun h => absurd rfl h)); (case b => exact fun _ _ _ _ _ _ us hl => match us, hl with | [_, _, _], _ => rfl)
    have o_square_of := by
      refine' fd_ok (T := L38.T) (cs := [(552, 550)]) (tb := [(550, "_law_right.<locals>.<lambda>")]) (F := L38.d_square_of) (st := L38.top 55) KX G ?a ?l ?c ?k L38.c_square_of rfl ?m ?b; (case a => k_is); (case l => k_is); (case c => k_is); (case k => k_is); (case m => exact (fun h => absurd rfl h)); (case b => exact fun _ _ _ _ _ _ us hl => match us, hl with | [_], _ => rfl)
    have o_first_spot := by
      refine' fd_ok (T := L38.T) (cs := [(552, 550)]) (tb := [(550, "_law_right.<locals>.<lambda>")]) (F := L38.d_first_spot) (st := L38.top 56) KX G ?a ?l ?c ?k L38.c_first_spot rfl ?m ?b; (case a => k_is); (case l => k_is); (case c => k_is); (case k => k_is); (case m => exact (fun h => absurd rfl h)); (case b => exact fun _ _ _ _ _ _ us hl => match us, hl with | [_], _ => rfl)
    have o_squares_of := by
      refine' fd_ok (T := L38.T) (cs := [(552, 550)]) (tb := [(550, "_law_right.<locals>.<lambda>")]) (F := L38.d_squares_of) (st := L38.top 57) KX G ?a ?l ?c ?k L38.c_squares_of rfl ?m ?b; (case a => k_is); (case l => k_is); (case c => k_is); (case k => k_is); (case m => exact (fun h => absurd rfl h)); (case b => exact fun _ _ _ _ _ _ us hl => match us, hl with | [_], _ => rfl)
    have o_form_of := by
      refine' fd_ok (T := L38.T) (cs := [(552, 550)]) (tb := [(550, "_law_right.<locals>.<lambda>")]) (F := L38.d_form_of) (st := L38.top 58) KX G ?a ?l ?c ?k L38.c_form_of rfl ?m ?b; (case a => k_is); (case l => k_is); (case c => k_is); (case k => k_is); (case m => exact (fun h => absurd rfl h)); (case b => exact fun _ _ _ _ _ _ us hl => match us, hl with | [_, _], _ => rfl)
    have o_null_of := by
      refine' fd_ok (T := L38.T) (cs := [(552, 550)]) (tb := [(550, "_law_right.<locals>.<lambda>")]) (F := L38.d_null_of) (st := L38.top 59) KX G ?a ?l ?c ?k L38.c_null_of rfl ?m ?b; (case a => k_is); (case l => k_is); (case c => k_is); (case k => k_is); (case m => exact (fun h => absurd rfl h)); (case b => exact fun _ _ _ _ _ _ us hl => match us, hl with | [_, _], _ => rfl)
    have o_is_not_below := by
      refine' fd_ok (T := L38.T) (cs := [(552, 550)]) (tb := [(550, "_law_right.<locals>.<lambda>")]) (F := L38.d_is_not_below) (st := L38.top 60) KX G ?a ?l ?c ?k L38.c_is_not_below rfl ?m ?b; (case a => k_is); (case l => k_is); (case c => k_is); (case k => k_is); (case m => exact (fun h => absurd rfl h)); (case b => exact fun _ _ _ _ _ _ us hl => match us, hl with | [_], _ => rfl)
    have o_row_below := by
      refine' fd_ok (T := L38.T) (cs := [(552, 550)]) (tb := [(550, "_law_right.<locals>.<lambda>")]) (F := L38.d_row_below) (st := L38.top 61) KX G ?a ?l ?c ?k L38.c_row_below rfl ?m ?b; (case a => k_is); (case l => k_is); (case c => k_is); (case k => k_is); (case m => exact (fun h => absurd rfl h)); (case b => exact fun _ _ _ _ _ _ us hl => match us, hl with | [_, _], _ => rfl)
    have o_require_task := by
      refine' fd_ok (T := L38.T) (cs := [(552, 550)]) (tb := [(550, "_law_right.<locals>.<lambda>")]) (F := L38.d_require_task) (st := L38.top 67) KX G ?a ?l ?c ?k L38.c_require_task rfl ?m ?b; (case a => k_is); (case l => k_is); (case c => k_is); (case k => k_is); (case m => exact (fun h => absurd rfl h)); (case b => exact fun _ _ _ _ _ _ us hl => match us, hl with | [_, _, _, _, _], _ => rfl)
    have o_worth_of := by
      refine' fd_ok (T := L38.T) (cs := [(552, 550)]) (tb := [(550, "_law_right.<locals>.<lambda>")]) (F := L38.d_worth_of) (st := L38.top 68) KX G ?a ?l ?c ?k L38.c_worth_of rfl ?m ?b; (case a => k_is); (case l => k_is); (case c => k_is); (case k => k_is); (case m => exact (fun h => absurd rfl h)); (case b => exact fun _ _ _ _ _ _ us hl => match us, hl with | [_, _, _], _ => rfl)
    have o_slope_of := by
      refine' fd_ok (T := L38.T) (cs := [(552, 550)]) (tb := [(550, "_law_right.<locals>.<lambda>")]) (F := L38.d_slope_of) (st := L38.top 69) KX G ?a ?l ?c ?k L38.c_slope_of rfl ?m ?b; (case a => k_is); (case l => k_is); (case c => k_is); (case k => k_is); (case m => exact (fun h => absurd rfl h)); (case b => exact fun _ _ _ _ _ _ us hl => match us, hl with | [_, _, _, _], _ => rfl)
    have o_fitting := by
      refine' fd_ok (T := L38.T) (cs := [(552, 550)]) (tb := [(550, "_law_right.<locals>.<lambda>")]) (F := L38.d_fitting) (st := L38.top 70) KX G ?a ?l ?c ?k L38.c_fitting rfl ?m ?b; (case a => k_is); (case l => k_is); (case c => k_is); (case k => k_is); (case m => exact (fun h => absurd rfl h)); (case b => exact fun _ _ _ _ _ _ us hl => match us, hl with | [_, _, _], _ => rfl)
    have o_free_lot := by
      refine' fd_ok (T := L38.T) (cs := [(552, 550)]) (tb := [(550, "_law_right.<locals>.<lambda>")]) (F := L38.d_free_lot) (st := L38.top 71) KX G ?a ?l ?c ?k L38.c_free_lot rfl ?m ?b; (case a => k_is); (case l => k_is); (case c => k_is); (case k => k_is); (case m => exact (fun h => absurd rfl h)); (case b => exact fun _ _ _ _ _ _ us hl => match us, hl with | [_, _], _ => rfl)
    have o_led_out := by
      refine' fd_ok (T := L38.T) (cs := [(552, 550)]) (tb := [(550, "_law_right.<locals>.<lambda>")]) (F := L38.d_led_out) (st := L38.top 72) KX G ?a ?l ?c ?k L38.c_led_out rfl ?m ?b; (case a => k_is); (case l => k_is); (case c => k_is); (case k => k_is); (case m => exact (fun h => absurd rfl h)); (case b => exact fun _ _ _ _ _ _ us hl => match us, hl with | [_, _, _], _ => rfl)
    have o_on_lot := by
      refine' fd_ok (T := L38.T) (cs := [(552, 550)]) (tb := [(550, "_law_right.<locals>.<lambda>")]) (F := L38.d_on_lot) (st := L38.top 73) KX G ?a ?l ?c ?k L38.c_on_lot rfl ?m ?b; (case a => k_is); (case l => k_is); (case c => k_is); (case k => k_is); (case m => exact (fun h => absurd rfl h)); (case b => exact fun _ _ _ _ _ _ us hl => match us, hl with | [_, _, _], _ => rfl)
    have o_falling_step := by
      refine' fd_ok (T := L38.T) (cs := [(552, 550)]) (tb := [(550, "_law_right.<locals>.<lambda>")]) (F := L38.d_falling_step) (st := L38.top 74) KX G ?a ?l ?c ?k L38.c_falling_step rfl ?m ?b; (case a => k_is); (case l => k_is); (case c => k_is); (case k => k_is); (case m => exact (fun h => absurd rfl h)); (case b => exact fun _ _ _ _ _ _ us hl => match us, hl with | [_, _, _, _, _], _ => rfl)
    have o_lowered := by
      refine' fd_ok (T := L38.T) (cs := [(552, 550)]) (tb := [(550, "_law_right.<locals>.<lambda>")]) (F := L38.d_lowered) (st := L38.top 75) KX G ?a ?l ?c ?k L38.c_lowered rfl ?m ?b; (case a => k_is); (case l => k_is); (case c => k_is); (case k => k_is); (case m => exact (fun h => absurd rfl h)); (case b => exact fun _ _ _ _ _ _ us hl => match us, hl with | [_, _, _, _, _], _ => rfl)
    have o_weighing_for := by
      refine' fd_ok (T := L38.T) (cs := [(552, 550)]) (tb := [(550, "_law_right.<locals>.<lambda>")]) (F := L38.d_weighing_for) (st := L38.top 76) KX G ?a ?l ?c ?k L38.c_weighing_for rfl ?m ?b; (case a => k_is); (case l => k_is); (case c => k_is); (case k => k_is); (case m => exact (fun h => absurd rfl h)); (case b => exact fun _ _ _ _ _ _ us hl => match us, hl with | [_, _, _, _, _], _ => rfl)
    have o_paper_for := by
      refine' fd_ok (T := L38.T) (cs := [(552, 550)]) (tb := [(550, "_law_right.<locals>.<lambda>")]) (F := L38.d_paper_for) (st := L38.top 77) KX G ?a ?l ?c ?k L38.c_paper_for rfl ?m ?b; (case a => k_is); (case l => k_is); (case c => k_is); (case k => k_is); (case m => exact (fun h => absurd rfl h)); (case b => exact fun _ _ _ _ _ _ us hl => match us, hl with | [_, _, _, _, _], _ => rfl)
    have o_does_fit := by
      refine' fd_ok (T := L38.T) (cs := [(552, 550)]) (tb := [(550, "_law_right.<locals>.<lambda>")]) (F := L38.d_does_fit) (st := L38.top 78) KX G ?a ?l ?c ?k L38.c_does_fit rfl ?m ?b; (case a => k_is); (case l => k_is); (case c => k_is); (case k => k_is); (case m => exact (fun h => absurd rfl h)); (case b => exact fun _ _ _ _ _ _ us hl => match us, hl with | [_, _, _], _ => rfl)
    have o_is_least_of := by
      refine' fd_ok (T := L38.T) (cs := [(552, 550)]) (tb := [(550, "_law_right.<locals>.<lambda>")]) (F := L38.d_is_least_of) (st := L38.top 79) KX G ?a ?l ?c ?k L38.c_is_least_of rfl ?m ?b; (case a => k_is); (case l => k_is); (case c => k_is); (case k => k_is); (case m => exact (fun h => absurd rfl h)); (case b => exact fun _ _ _ _ _ _ us hl => match us, hl with | [_, _, _, _, _, _, _], _ => rfl)
    have o_is_fall_of := by
      refine' fd_ok (T := L38.T) (cs := [(552, 550)]) (tb := [(550, "_law_right.<locals>.<lambda>")]) (F := L38.d_is_fall_of) (st := L38.top 80) KX G ?a ?l ?c ?k L38.c_is_fall_of rfl ?m ?b; (case a => k_is); (case l => k_is); (case c => k_is); (case k => k_is); (case m => exact (fun h => absurd rfl h)); (case b => exact fun _ _ _ _ _ _ us hl => match us, hl with | [_, _, _, _, _, _, _], _ => rfl)
    have o_is_none_of := by
      refine' fd_ok (T := L38.T) (cs := [(552, 550)]) (tb := [(550, "_law_right.<locals>.<lambda>")]) (F := L38.d_is_none_of) (st := L38.top 81) KX G ?a ?l ?c ?k L38.c_is_none_of rfl ?m ?b; (case a => k_is); (case l => k_is); (case c => k_is); (case k => k_is); (case m => exact (fun h => absurd rfl h)); (case b => exact fun _ _ _ _ _ _ us hl => match us, hl with | [_, _, _, _], _ => rfl)
    have o_least_paper := by
      refine' fd_ok (T := L38.T) (cs := [(552, 550)]) (tb := [(550, "_law_right.<locals>.<lambda>")]) (F := L38.d_least_paper) (st := L38.top 82) KX G ?a ?l ?c ?k L38.c_least_paper rfl ?m ?b; (case a => k_is); (case l => k_is); (case c => k_is); (case k => k_is); (case m => exact (fun h => absurd rfl h)); (case b => exact fun _ _ _ _ _ _ us hl => match us, hl with | [_, _, _, _, _], _ => rfl)
    have o_is_least_paper := by
      refine' fd_ok (T := L38.T) (cs := [(552, 550)]) (tb := [(550, "_law_right.<locals>.<lambda>")]) (F := L38.d_is_least_paper) (st := L38.top 83) KX G ?a ?l ?c ?k L38.c_is_least_paper rfl ?m ?b; (case a => k_is); (case l => k_is); (case c => k_is); (case k => k_is); (case m => exact (fun h => absurd rfl h)); (case b => exact fun _ _ _ _ _ _ us hl => match us, hl with | [_, _, _, _, _, _], _ => rfl)
    have o_least_worth := by
      refine' fd_ok (T := L38.T) (cs := [(552, 550)]) (tb := [(550, "_law_right.<locals>.<lambda>")]) (F := L38.d_least_worth) (st := L38.top 84) KX G ?a ?l ?c ?k L38.c_least_worth rfl ?m ?b; (case a => k_is); (case l => k_is); (case c => k_is); (case k => k_is); (case m => exact (fun h => absurd rfl h)); (case b => exact fun _ _ _ _ _ _ us hl => match us, hl with | [_, _, _, _, _], _ => rfl)
    have o_least_rows := by
      refine' fd_ok (T := L38.T) (cs := [(552, 550)]) (tb := [(550, "_law_right.<locals>.<lambda>")]) (F := L38.d_least_rows) (st := L38.top 85) KX G ?a ?l ?c ?k L38.c_least_rows rfl ?m ?b; (case a => k_is); (case l => k_is); (case c => k_is); (case k => k_is); (case m => exact (fun h => absurd rfl h)); (case b => exact fun _ _ _ _ _ _ us hl => match us, hl with | [_, _, _, _, _], _ => rfl)
    have o_worth := by
      refine' fd_ok (T := L38.T) (cs := [(552, 550)]) (tb := [(550, "_law_right.<locals>.<lambda>")]) (F := L38.d_worth) (st := L38.top 86) KX G ?a ?l ?c ?k L38.c_worth rfl ?m ?b; (case a => k_is); (case l => k_is); (case c => k_is); (case k => k_is); (case m => exact (fun h => absurd rfl h)); (case b => exact fun _ _ _ _ _ _ us hl => match us, hl with | [_, _, _, _], _ => rfl)
    have o__law_dice := by
      refine' fd_ok (T := L38.T) (cs := [(552, 550)]) (tb := [(550, "_law_right.<locals>.<lambda>")]) (F := L38.d__law_dice) (st := L38.top 88) KX G ?a ?l ?c ?k L38.c__law_dice rfl ?m ?b; (case a => k_is); (case l => k_is); (case c => k_is); (case k => k_is); (case m => exact (fun h => absurd rfl h)); (case b => exact fun _ _ _ _ _ _ us hl => match us, hl with | [_, _], _ => rfl)
    have o__law_roll := by
      refine' fd_ok (T := L38.T) (cs := [(552, 550)]) (tb := [(550, "_law_right.<locals>.<lambda>")]) (F := L38.d__law_roll) (st := L38.top 89) KX G ?a ?l ?c ?k L38.c__law_roll rfl ?m ?b; (case a => k_is); (case l => k_is); (case c => k_is); (case k => k_is); (case m => exact (fun h => absurd rfl h)); (case b => exact fun _ _ _ _ _ _ us hl => match us, hl with | [_, _], _ => rfl)
    have o__law_pick := by
      refine' fd_ok (T := L38.T) (cs := [(552, 550)]) (tb := [(550, "_law_right.<locals>.<lambda>")]) (F := L38.d__law_pick) (st := L38.top 90) KX G ?a ?l ?c ?k L38.c__law_pick rfl ?m ?b; (case a => k_is); (case l => k_is); (case c => k_is); (case k => k_is); (case m => exact (fun h => absurd rfl h)); (case b => exact fun _ _ _ _ _ _ us hl => match us, hl with | [_, _], _ => rfl)
    have o__law_word := by
      refine' fd_ok (T := L38.T) (cs := [(552, 550)]) (tb := [(550, "_law_right.<locals>.<lambda>")]) (F := L38.d__law_word) (st := L38.top 91) KX G ?a ?l ?c ?k L38.c__law_word rfl ?m ?b; (case a => k_is); (case l => k_is); (case c => k_is); (case k => k_is); (case m => exact (fun h => absurd rfl h)); (case b => exact fun _ _ _ _ _ _ us hl => match us, hl with | [_], _ => rfl)
    have o__law_right := by
      refine' fd_ok (T := L38.T) (cs := [(552, 550)]) (tb := [(550, "_law_right.<locals>.<lambda>")]) (F := L38.d__law_right) (st := L38.top 92) KX G ?a ?l ?c ?k L38.c__law_right rfl ?m ?b; (case a => k_is); (case l => k_is); (case c => k_is); (case k => k_is); (case m => exact (fun _ => ⟨552, 550, rfl, by decide, by decide, by decide⟩)); (case b => exact fun _ _ _ _ _ _ us hl => match us, hl with | [_], _ => rfl)
    have o_law := by
      refine' fd_ok (T := L38.T) (cs := [(552, 550)]) (tb := [(550, "_law_right.<locals>.<lambda>")]) (F := L38.d_law) (st := L38.top 93) KX G ?a ?l ?c ?k L38.c_law rfl ?m ?b; (case a => k_is); (case l => k_is); (case c => k_is); (case k => k_is); (case m => exact (fun h => absurd rfl h)); (case b => exact fun _ _ _ _ _ _ us hl => match us, hl with | [_], _ => rfl)
    have z : ∀ x ∈ blts, mg x = none := by
      refine blts_of KX G ?_
      refine' non_cons ?z0 (non_cons ?z1 (non_cons ?z2 (non_cons ?z3 (non_cons ?z4 (non_cons ?z5 (non_cons ?z6 (non_cons ?z7 (non_cons ?z8 (non_cons ?z9 (non_cons ?z10 (non_cons ?z11 (non_cons ?z12 (non_cons ?z13 (non_cons ?z14 (non_cons ?z15 (non_cons ?z16 (non_cons ?z17 (non_cons ?z18 non_nil))))))))))))))))))
      all_goals k_is
    have k_LEAST := by
      refine' con_of (mg := mg) (x := "LEAST") (d := (.str "least")) KX G ?a ?b; (case a => k_is); (case b => exact con_str)
    have k_TWICE := by
      refine' con_of (mg := mg) (x := "TWICE") (d := (.tup [.int 2, .int 1])) KX G ?a ?b; (case a => k_is); (case b => (refine' con_tup ?cl ?ch ?cc; (case cl => k_is); (case ch => decide); (case cc => (refine' cons_cons ?ch ?ct; (case ch => exact con_int); (case ct => (refine' cons_cons ?ch ?ct; (case ch => exact con_int); (case ct => exact cons_nil)))))))
    have k_NOUGHT := by
      refine' con_of (mg := mg) (x := "NOUGHT") (d := (.tup [.int 0, .int 1])) KX G ?a ?b; (case a => k_is); (case b => (refine' con_tup ?cl ?ch ?cc; (case cl => k_is); (case ch => decide); (case cc => (refine' cons_cons ?ch ?ct; (case ch => exact con_int); (case ct => (refine' cons_cons ?ch ?ct; (case ch => exact con_int); (case ct => exact cons_nil)))))))
    have k_NONE := by
      refine' con_of (mg := mg) (x := "NONE") (d := (.str "none")) KX G ?a ?b; (case a => k_is); (case b => exact con_str)
    have k_FALLS := by
      refine' con_of (mg := mg) (x := "FALLS") (d := (.str "falls")) KX G ?a ?b; (case a => k_is); (case b => exact con_str)
    have k_ONE := by
      refine' con_of (mg := mg) (x := "ONE") (d := (.tup [.int 1, .int 1])) KX G ?a ?b; (case a => k_is); (case b => (refine' con_tup ?cl ?ch ?cc; (case cl => k_is); (case ch => decide); (case cc => (refine' cons_cons ?ch ?ct; (case ch => exact con_int); (case ct => (refine' cons_cons ?ch ?ct; (case ch => exact con_int); (case ct => exact cons_nil)))))))
    have k_MAX_WIDTH := by
      refine' con_of (mg := mg) (x := "MAX_WIDTH") (d := (.int 144)) KX G ?a ?b; (case a => k_is); (case b => exact con_int)
    have n_InvalidRow := by
      refine' nm_of (mg := mg) (x := "InvalidRow") KX G ?a; (case a => k_is)
    have r_InvalidRow := by
      refine' raise_plB (P := PySem.Challenge.rw_dearturns_k38_errors_of_least_values.prog) (w := w) (mg := mg) (att := L38.T.attN) (s := false) KX PySem.F.excBase_ValueError n_InvalidRow ?hq ?hk ?hs ?ht; (case hq => kernel_rfl); (case hk => k_is); (case hs => k_is); (case ht => k_is)
    have n_InvalidForm := by
      refine' nm_of (mg := mg) (x := "InvalidForm") KX G ?a; (case a => k_is)
    have r_InvalidForm := by
      refine' raise_plB (P := PySem.Challenge.rw_dearturns_k38_errors_of_least_values.prog) (w := w) (mg := mg) (att := L38.T.attN) (s := false) KX PySem.F.excBase_ValueError n_InvalidForm ?hq ?hk ?hs ?ht; (case hq => kernel_rfl); (case hk => k_is); (case hs => k_is); (case ht => k_is)
    have n_InvalidCount := by
      refine' nm_of (mg := mg) (x := "InvalidCount") KX G ?a; (case a => k_is)
    have r_InvalidCount := by
      refine' raise_iniC (P := PySem.Challenge.rw_dearturns_k38_errors_of_least_values.prog) (w := w) (mg := mg) (att := L38.T.attN) (f := 0) true KX n_InvalidCount ?_
      refine' xini_show (fld := "given") KX G PySem.F.excBase_IndexError kxs_IndexError PySem.F.store_IndexError ?xL ?sa ?exC ?tyC ?kC ?sB ?own ?op ?no ?a1 ?t1 ?l1 ?c1 ?lc ?lcell ?ns ?al ?ob ?hvs ?hfile ?bind ?head ?sc ?hks ?hkc ?htop ?hgd ?hgc ?hsuf ?hev
      (case xL => k_is); (case sa => k_is); (case exC => k_is); (case tyC => k_is); (case kC => k_is); (case sB => k_is); (case own => k_is); (case op => k_is); (case no => k_is); (case a1 => k_is); (case t1 => k_is); (case l1 => k_is); (case c1 => k_is); (case lc => k_is); (case lcell => k_is); (case ns => k_is)
      (case al => kernel_rfl); (case ob => kernel_rfl); (case hvs => exact rfl); (case hfile => kernel_rfl); (case bind => exact fun _ _ => rfl); (case head => exact ⟨_, rfl, rfl⟩); (case sc => exact scI_by (by decide +kernel)); (case hks => kernel_rfl); (case hkc => kernel_rfl); (case htop => kernel_rfl); (case hgd => decide); (case hgc => decide); (case hsuf => decide); (case hev => exact fun env => ⟨_, rfl⟩)
    have n_CostError := by
      refine' nm_of (mg := mg) (x := "CostError") KX G ?a; (case a => k_is)
    have r_CostError := by
      refine' raise_plB (P := PySem.Challenge.rw_dearturns_k38_errors_of_least_values.prog) (w := w) (mg := mg) (att := L38.T.attN) (s := false) KX PySem.F.excBase_ValueError n_CostError ?hq ?hk ?hs ?ht; (case hq => kernel_rfl); (case hk => k_is); (case hs => k_is); (case ht => k_is)
    have q := fd_at o_law hmg
    refine ⟨[(552, 550)], [(550, "_law_right.<locals>.<lambda>")], ⟨⟨_, L38.d_law, rfl, rfl, q⟩, fun base hs tbs => ⟨hs, rfl, con_all (con_cons k_LEAST ( con_cons k_TWICE ( con_cons k_NOUGHT ( con_cons k_NONE ( con_cons k_FALLS ( con_cons k_ONE ( con_cons k_MAX_WIDTH (con_nil)))))))), z, fns_all (fns_cons o_is_integer ( fns_cons o_common_divisor ( fns_cons o_is_number ( fns_cons o_reduced ( fns_cons o_require_count ( fns_cons o_added ( fns_cons o_multiplied ( fns_cons o_opposite ( fns_cons o_divided ( fns_cons o_is_plain_row ( fns_cons o_is_plain_table ( fns_cons o_first_index ( fns_cons o_rest_row ( fns_cons o_unit_row ( fns_cons o_is_rest ( fns_cons o_sum_of_rows ( fns_cons o_times_row ( fns_cons o_less_times ( fns_cons o_difference_of ( fns_cons o_product_of ( fns_cons o_led_row ( fns_cons o_led_told ( fns_cons o_columns_of ( fns_cons o_rest_by ( fns_cons o_with_row ( fns_cons o_spanned ( fns_cons o_apart_from ( fns_cons o_sums_of ( fns_cons o_solved_by ( fns_cons o_weighing_of ( fns_cons o_require_width ( fns_cons o_require_row ( fns_cons o_require_rows ( fns_cons o_is_plain_form ( fns_cons o_require_form ( fns_cons o_nought_form ( fns_cons o_pair_of ( fns_cons o_value_of ( fns_cons o_sum_of_forms ( fns_cons o_form_by ( fns_cons o_less_form ( fns_cons o_led_by ( fns_cons o_square_of ( fns_cons o_first_spot ( fns_cons o_squares_of ( fns_cons o_form_of ( fns_cons o_null_of ( fns_cons o_is_not_below ( fns_cons o_row_below ( fns_cons o_require_task ( fns_cons o_worth_of ( fns_cons o_slope_of ( fns_cons o_fitting ( fns_cons o_free_lot ( fns_cons o_led_out ( fns_cons o_on_lot ( fns_cons o_falling_step ( fns_cons o_lowered ( fns_cons o_weighing_for ( fns_cons o_paper_for ( fns_cons o_does_fit ( fns_cons o_is_least_of ( fns_cons o_is_fall_of ( fns_cons o_is_none_of ( fns_cons o_least_paper ( fns_cons o_is_least_paper ( fns_cons o_least_worth ( fns_cons o_least_rows ( fns_cons o_worth ( fns_cons o__law_dice ( fns_cons o__law_roll ( fns_cons o__law_pick ( fns_cons o__law_word ( fns_cons o__law_right ( fns_cons o_law (fns_nil)))))))))))))))))))))))))))))))))))))))))))))))))))))))))))))))))))))))))))), ?cls, ?exm, ?xf, tbs⟩, rfl, ?top⟩⟩
    case cls => exact cls_all (cls_cons n_InvalidRow (fun xi e => by cases e; exact r_InvalidRow) ( cls_cons n_InvalidForm (fun xi e => by cases e; exact r_InvalidForm) ( cls_cons n_InvalidCount (fun xi e => by cases e; exact r_InvalidCount) ( cls_cons n_CostError (fun xi e => by cases e; exact r_CostError) (cls_nil)))))
    case exm => exact exm_all (adr_cons n_InvalidRow ( adr_cons n_InvalidForm ( adr_cons n_InvalidCount ( adr_cons n_CostError (adr_nil))))) (by kernel_rfl)
    case xf => exact xf_all (adr_cons n_InvalidRow ( adr_cons n_InvalidForm ( adr_cons n_InvalidCount ( adr_cons n_CostError (adr_nil))))) (by kernel_rfl)
    case top => exact top_all (by kernel_rfl)
#print axioms PySem.Challenge.cw_dearturns_k38_errors_of_least_values_holds

end