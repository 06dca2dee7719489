import PyProof.Rows.All
import Wide.All
import OpenK.AllK
import Wide.FinOn
import HandS.ForMost
import HandS.Exc
import HandS.Wide
import HandS.TupAny
import HandS.IsInst
import HandS.Style
import HandS.Flow
import HandS.Walk
import HandS.Zip
import HandS.Iter
import HandS.WordsExc
import HandS.Defaults
import HandS.Ends
import PySem.Challenge.RW_dearturns_k21_whole_numbers
set_option linter.all false
/-! A small interpreter over pure data: values D, objects O, expressions E, statements S. -/
namespace Mu
open PySem

/-- a value without a heap; ref i: the i-th object of the store -/
inductive D where
  | non | bl (b : Bool) | int (i : Int) | str (x : Str) | ty (n : String) | fn (x : Str)
  | tup (xs : List D) | lst (xs : List D) | rol (xs : List D) | ref (n : Nat)
deriving Inhabited

/-- what the store holds -/
inductive O where
  | lst (xs : List D)
deriving Inhabited

abbrev Sto := List O
abbrev Env := List (Option D)

inductive Res (α : Type) where
  | ok (a : α) (st : Sto)
  | exc (c : Str) (fs : List (Str × D)) (st : Sto)
  | stuck

def Res.bind {α β : Type} : Res α → (α → Sto → Res β) → Res β
  | .ok a st, f => f a st
  | .exc c fs st, _ => .exc c fs st
  | .stuck, _ => .stuck
@[simp] theorem Res.bind_ok {α β : Type} (a : α) (st : Sto) (f : α → Sto → Res β) : (Res.ok a st).bind f = f a st := rfl
@[simp] theorem Res.bind_exc {α β : Type} (c : Str) (fs : List (Str × D)) (st : Sto) (f : α → Sto → Res β) : (Res.exc c fs st).bind f = .exc c fs st := rfl
@[simp] theorem Res.bind_stuck {α β : Type} (f : α → Sto → Res β) : (Res.stuck : Res α).bind f = .stuck := rfl

/-- an answer that may be missing -/
def Res.of {α : Type} (o : Option α) (st : Sto) : Res α := match o with
  | some a => .ok a st
  | none => .stuck
@[simp] theorem Res.of_some {α : Type} (a : α) (st : Sto) : Res.of (some a) st = .ok a st := rfl
@[simp] theorem Res.of_none {α : Type} (st : Sto) : (Res.of none st : Res α) = .stuck := rfl

/-- nothing is let out of it -/
def Res.still {α : Type} : Res α → Res α
  | .ok a st => .ok a st
  | _ => .stuck
@[simp] theorem Res.still_ok {α : Type} (a : α) (st : Sto) : (Res.ok a st).still = .ok a st := rfl

def asBool (r : Res D) : Res Bool := r.bind fun d st => match d with
  | .bl c => .ok c st
  | _ => .stuck

inductive SR where
  | next (env : Env) (st : Sto)
  | ret (d : D) (st : Sto)
  | brk (env : Env) (st : Sto)
  | cont (env : Env) (st : Sto)
  | exc (c : Str) (fs : List (Str × D)) (env : Env) (st : Sto)
  | stuck

def Res.run {α : Type} (r : Res α) (env : Env) (f : α → Sto → SR) : SR := match r with
  | .ok a st => f a st
  | .exc c fs st => .exc c fs env st
  | .stuck => .stuck
@[simp] theorem Res.run_ok {α : Type} (a : α) (st : Sto) (env : Env) (f : α → Sto → SR) : (Res.ok a st).run env f = f a st := rfl
@[simp] theorem Res.run_exc {α : Type} (c : Str) (fs : List (Str × D)) (st : Sto) (env : Env) (f : α → Sto → SR) : (Res.exc c fs st : Res α).run env f = .exc c fs env st := rfl
@[simp] theorem Res.run_stuck {α : Type} (env : Env) (f : α → Sto → SR) : (Res.stuck : Res α).run env f = .stuck := rfl

def SR.then (r : SR) (f : Env → Sto → SR) : SR := match r with
  | .next env st => f env st
  | r => r
@[simp] theorem SR.then_next (env : Env) (st : Sto) (f : Env → Sto → SR) : (SR.next env st).then f = f env st := rfl
@[simp] theorem SR.then_ret (d : D) (st : Sto) (f : Env → Sto → SR) : (SR.ret d st).then f = .ret d st := rfl
@[simp] theorem SR.then_brk (env : Env) (st : Sto) (f : Env → Sto → SR) : (SR.brk env st).then f = .brk env st := rfl
@[simp] theorem SR.then_cont (env : Env) (st : Sto) (f : Env → Sto → SR) : (SR.cont env st).then f = .cont env st := rfl
@[simp] theorem SR.then_exc (c : Str) (fs : List (Str × D)) (env : Env) (st : Sto) (f : Env → Sto → SR) : (SR.exc c fs env st).then f = .exc c fs env st := rfl
@[simp] theorem SR.then_stuck (f : Env → Sto → SR) : SR.stuck.then f = .stuck := rfl

mutual
/-- expressions -/
inductive E where
  | var (i : Nat) | lit (d : D) | con (x : Str) | bty (n : Str) | gfn (x : Str)
  | bin (o : Operator) (a b : E) | neg (a : E)
  | cmp (o : CmpOp) (a b : E) | cmp2 (o p : CmpOp) (a b c : E)
  | not (a : E) | and (a b : E) | or (a b : E)
  | ite (t a b : E)
  | tup (es : List E) | lst (es : List E) | lstR (es : List E)
  | call (f : Str) (es : List E) | blt (f : Str) (es : List E)
  | idx (a i : E) | slc (a : E) (lo hi : Option E) | rev (a : E)
  | comp (r : Bool) (el : E) (tg : Tg) (it : Iz) (c : Option E) (own : List (Str × Nat))
/-- what is walked -/
inductive Iz where
  | seq (e : E) | rng (es : List E) | zip (a b : E) | enum (a : E)
/-- targets -/
inductive Tg where
  | name (i : Nat) | tup (ts : List Tg) | sub (a i : E)
end

inductive S where
  | expr (e : E)
  | asg (t : Tg) (e : E)
  | par (is : List Nat) (es : List E)
  | ret (e : E) | retN
  | ite (t : E) (a b : List S)
  | whl (t : E) (b : List S)
  | for_ (t : Tg) (it : Iz) (b : List S)
  | pass | brk | cont
  | never

/-! ### data -/
mutual
def D.py : D → PyData
  | .non => .none
  | .bl b => .bool b
  | .int i => .int i
  | .str x => .str x
  | .tup xs => .tuple (D.pys xs)
  | .lst xs => .list (D.pys xs)
  | .rol _ => .none
  | .ty _ => .none
  | .fn _ => .none
  | .ref _ => .none
def D.pys : List D → List PyData
  | [] => []
  | x :: xs => D.py x :: D.pys xs
end
mutual
/-- plain data: no object of the store, no def -/
def D.plain : D → Bool
  | .non => true
  | .bl _ => true
  | .int _ => true
  | .str _ => true
  | .tup xs => D.plains xs
  | .lst xs => D.plains xs
  | .rol _ => false
  | .ty _ => false
  | .fn _ => false
  | .ref _ => false
def D.plains : List D → Bool
  | [] => true
  | x :: xs => D.plain x && D.plains xs
end
mutual
/-- its objects lie below n -/
def D.low (n : Nat) : D → Bool
  | .tup xs => D.lows n xs
  | .lst xs => D.lows n xs
  | .rol xs => D.lows n xs
  | .ref i => decide (i < n)
  | .non => true
  | .bl _ => true
  | .int _ => true
  | .str _ => true
  | .ty _ => true
  | .fn _ => true
def D.lows (n : Nat) : List D → Bool
  | [] => true
  | x :: xs => D.low n x && D.lows n xs
end
def O.low (n : Nat) : O → Bool
  | .lst xs => D.lows n xs

def dataOk (d : D) : Bool := d.plain && SeqAt.shaped d.py
def eqD (x y : D) : Option Bool := match x, y with
  | .str a, .str b => some (decide (a = b))
  | x, y => if dataOk x && dataOk y then some (PyData.eqv x.py y.py) else none
def reprD (x : D) : Option Str := if x.plain && x.py.showable && decide (x.py.shown.length ≤ sizeLine) && decide (x.py.depth ≤ 60) then some x.py.shown else none

def mulOk (i j : Int) : Bool := decide (i.natAbs.log2 + j.natAbs.log2 < 100000000)
def powOk (i j : Int) : Bool := decide (0 ≤ j) && decide ((Builtin.Int.intBits i : Int) * j ≤ 2 ^ 27)

/-- k: how deep one may still call -/
def binD (k : Nat) (o : Operator) (x y : D) : Option D := match o with
  | .Add => match x, y with
    | .int i, .int j => some (.int (i + j))
    | .str a, .str b => if a.length + b.length ≤ sizeLine then some (.str (a ++ b)) else none
    | .tup xs, .tup ys => if xs.isEmpty || ys.isEmpty then none else if xs.length + ys.length ≤ sizeLine then some (.tup (xs ++ ys)) else none
    | .lst xs, .lst ys => if xs.length + ys.length ≤ sizeLine then some (.lst (xs ++ ys)) else none
    | _, _ => none
  | .Sub => match x, y with
    | .int i, .int j => some (.int (i - j))
    | _, _ => none
  | .Mult => match x, y with
    | .int i, .int j => if mulOk i j then some (.int (i * j)) else none
    | _, _ => none
  | .FloorDiv => match x, y with
    | .int i, .int j => if j = 0 then none else if 40 ≤ k then some (.int (i.fdiv j)) else none
    | _, _ => none
  | .Mod => match x, y with
    | .int i, .int j => if j = 0 then none else some (.int (i.fmod j))
    | _, _ => none
  | .Pow => match x, y with
    | .int i, .int j => if powOk i j then some (.int (i ^ j.toNat)) else none
    | _, _ => none
  | _ => none

def strLt (a b : Str) : Bool := decide (a.cps.toList < b.cps.toList)
def isNon : D → Bool
  | .non => true
  | _ => false

def cmpD (o : CmpOp) (x y : D) : Option Bool := match o with
  | .Eq => eqD x y
  | .NotEq => (eqD x y).map (!·)
  | .Lt => match x, y with
    | .int i, .int j => some (decide (i < j))
    | _, _ => none
  | .LtE => match x, y with
    | .int i, .int j => some (decide (i ≤ j))
    | _, _ => none
  | .Gt => match x, y with
    | .int i, .int j => some (decide (j < i))
    | _, _ => none
  | .GtE => match x, y with
    | .int i, .int j => some (decide (j ≤ i))
    | _, _ => none
  | .Is => match y with
    | .non => some (isNon x)
    | _ => none
  | .IsNot => match y with
    | .non => some (!isNon x)
    | _ => none
  | _ => none

def Sto.items (st : Sto) : D → Option (List D)
  | .lst xs => some xs
  | .ref i => match st[i]? with
    | some (.lst xs) => some xs
    | _ => none
  | _ => none
def seqD (st : Sto) : D → Option (List D)
  | .tup xs => some xs
  | .rol xs => some xs
  | d => Sto.items st d

def truth (st : Sto) : D → Option Bool
  | .non => some false
  | .bl b => some b
  | .int i => some (i != 0)
  | .str x => if x.length ≤ sizeLine then some ((x.length : Int) != 0) else none
  | .tup xs => some (!xs.isEmpty)
  | d => (Sto.items st d).map fun xs => !xs.isEmpty

def atD {α : Type} (xs : List α) (i : Int) : Option α := if 0 ≤ i then xs[i.toNat]? else if -(xs.length : Int) ≤ i then xs[(i + xs.length).toNat]? else none

def idxD (st : Sto) (x i : D) : Option D := match i with
  | .int i => match x with
    | .str z => if z.length ≤ sizeLine then (atD z.cps.toList i).map fun c => .str ⟨#[c]⟩ else none
    | x => (seqD st x).bind fun xs => atD xs i
  | _ => none

def cutD (xs : List D) (lo hi : Option Int) : List D := (xs.drop (HT.sIx xs.length 0 lo)).take (HT.sIx xs.length xs.length hi - HT.sIx xs.length 0 lo)

def tyD (st : Sto) : D → Option String
  | .non => some "NoneType"
  | .bl _ => some "bool"
  | .int _ => some "int"
  | .str _ => some "str"
  | .tup _ => some "tuple"
  | .lst _ => some "list"
  | .ref i => match st[i]? with
    | some (.lst _) => some "list"
    | _ => none
  | _ => none
def subTy (a b : String) : Option Bool :=
  if b == "int" || b == "bool" || b == "str" || b == "tuple" || b == "list" || b == "dict" then some (a == b || (a == "bool" && b == "int")) else none

def allB : List D → Option Bool
  | [] => some true
  | .bl b :: r => (allB r).map (b && ·)
  | _ => none

/-! ### built-ins' answers -/
def lenD : List D → Sto → Option D := fun xs st => match xs with
    | [.str x] => if x.length ≤ sizeLine then some (.int x.length) else none
    | [d] => (seqD st d).map fun ys => .int ys.length
    | _ => none
def absD : List D → Sto → Option D := fun xs _ => match xs with
    | [.int i] => some (.int (if i < 0 then -i else i))
    | _ => none
def minD : List D → Sto → Option D := fun xs _ => match xs with
    | [.int i, .int j] => some (.int (if j < i then j else i))
    | _ => none
def maxD : List D → Sto → Option D := fun xs _ => match xs with
    | [.int i, .int j] => some (.int (if j > i then j else i))
    | _ => none
def intD : List D → Sto → Option D := fun xs _ => match xs with
    | [.int i] => some (.int i)
    | [.bl b] => some (.int (if b then 1 else 0))
    | _ => none
def tupleD : List D → Sto → Option D := fun xs st => match xs with
    | [.tup xs] => some (.tup xs)
    | [d] => (Sto.items st d).map .tup
    | _ => none
def listD : List D → Sto → Option D := fun xs st => match xs with
    | [d] => (seqD st d).map .lst
    | _ => none
def allD : List D → Sto → Option D := fun xs st => match xs with
    | [d] => ((Sto.items st d).bind allB).map .bl
    | _ => none
def isiD : List D → Sto → Option D := fun xs st => match xs with
    | [d, .ty n] => ((tyD st d).bind fun a => subTy a n).map .bl
    | _ => none
def reprL : List D → Sto → Option D := fun xs _ => match xs with
    | [d] => (reprD d).map .str
    | _ => none
def bltTab : List (Str × (List D → Sto → Option D)) := [("len", lenD), ("abs", absD), ("min", minD), ("max", maxD), ("int", intD), ("tuple", tupleD), ("list", listD), ("all", allD), ("isinstance", isiD), ("repr", reprL)]
def bltD (f : Str) (xs : List D) (st : Sto) : Option D := match bltTab.lookup f with
  | some g => g xs st
  | none => none
/-- built-in classes by their names -/
def btyTab : List (Str × String) := [("int", "int"), ("bool", "bool"), ("str", "str"), ("tuple", "tuple"), ("list", "list"), ("dict", "dict")]

/-! ### the run -/
structure Cf where
  k : Nat
  call : Str → List D → Sto → Res D
  con : Str → Option D

def Env.at (env : Env) (i : Nat) : Option D := match env[i]? with
  | some (some d) => some d
  | _ => none

def evL (f : E → Sto → Res D) : List E → Sto → Res (List D)
  | [], st => .ok [] st
  | e :: es, st => (f e st).bind fun d st => (evL f es st).bind fun ds st => .ok (d :: ds) st

def evO (f : E → Sto → Res D) : Option E → Sto → Res (Option Int)
  | none, st => .ok none st
  | some e, st => (f e st).bind fun d st => match d with
    | .int i => .ok (some i) st
    | _ => .stuck

def intsD (lo : Int) : Nat → List D
  | 0 => []
  | n + 1 => .int lo :: intsD (lo + 1) n

def pairs : List D → List D → List D
  | x :: xs, y :: ys => .tup [x, y] :: pairs xs ys
  | _, _ => []
def enumD (i : Int) : List D → List D
  | [] => []
  | x :: xs => .tup [.int i, x] :: enumD (i + 1) xs

def rngD : List D → Option (List D)
  | [.int j] => if j.natAbs ≤ 4611686018427387903 then some (intsD 0 j.toNat) else none
  | [.int i, .int j] => if i.natAbs ≤ 4611686018427387903 then if j.natAbs ≤ 4611686018427387903 then some (intsD i (j - i).toNat) else none else none
  | _ => none

/-- what is walked, as a list of values; the walked list is one of the store or is not -/
def itD (f : E → Sto → Res D) : Iz → Sto → Res (List D)
  | .seq e, st => (f e st).bind fun d st => match d with
    | .tup xs => .ok xs st
    | .lst xs => .ok xs st
    | .rol xs => .ok xs st
    | _ => .stuck
  | .rng es, st => (evL f es st).bind fun ds st => .of (rngD ds) st
  | .zip a b, st => (f a st).bind fun x st => (f b st).bind fun y st => match x, y with
    | .tup xs, .tup ys => .ok (pairs xs ys) st
    | .lst xs, .lst ys => .ok (pairs xs ys) st
    | _, _ => .stuck
  | .enum a, st => (f a st).bind fun x st => match x with
    | .lst xs => .ok (enumD 0 xs) st
    | _ => .stuck

mutual
/-- a target is set; f evaluates -/
def tgD (f : E → Env → Sto → Res D) : Tg → D → Env → Sto → Res Env
  | .name i, d, env, st => .ok (env.set i (some d)) st
  | .tup ts, d, env, st => match d with
    | .tup xs => if xs.length = ts.length then tgsD f ts xs env st else .stuck
    | _ => .stuck
  | .sub a i, d, env, st => (f a env st).bind fun x st => (f i env st).bind fun j st => match x, j with
    | .ref r, .int j => match st[r]? with
      | some (.lst xs) => if 0 ≤ j ∧ j < xs.length then .ok env (st.set r (.lst (xs.set j.toNat d))) else .stuck
      | _ => .stuck
    | _, _ => .stuck
def tgsD (f : E → Env → Sto → Res D) : List Tg → List D → Env → Sto → Res Env
  | [], [], env, st => .ok env st
  | t :: ts, d :: ds, env, st => (tgD f t d env st).bind fun env st => tgsD f ts ds env st
  | _, _, _, _ => .stuck
end

def wipeE (env : Env) : List Nat → Env
  | [] => env
  | v :: vs => (wipeE env vs).set v none

/-- a comprehension's turns -/
def compL (f : D → Sto → Res (Option D)) : List D → List D → Sto → Res (List D)
  | [], acc, st => .ok acc st
  | x :: xs, acc, st => (f x st).bind fun o st => match o with
    | some d => if acc.length < sizeLine then compL f xs (acc ++ [d]) st else .stuck
    | none => compL f xs acc st

/-- a comprehension's turn -/
def turnC (gt : D → Env → Sto → Res Env) (ft : Env → Sto → Res Bool) (fe : Env → Sto → Res D) (vs : List Nat) (env : Env) (x : D) (st : Sto) : Res (Option D) :=
  ((gt x (wipeE env vs) st).bind fun env1 st => (ft env1 st).bind fun b st => if b then (fe env1 st).bind fun d st => .ok (some d) st else .ok none st).still
def compR (gi : Env → Sto → Res (List D)) (gt : D → Env → Sto → Res Env) (ft : Env → Sto → Res Bool) (fe : Env → Sto → Res D) (vs : List Nat) (rr : Bool) (env : Env) (st : Sto) : Res D :=
  (gi env st).bind fun xs st => (compL (turnC gt ft fe vs env) xs [] st).bind fun ds st => if rr then .ok (D.ref st.length) (st ++ [O.lst ds]) else .ok (D.lst ds) st
def condT (f : E → Env → Sto → Res Bool) : Option E → Env → Sto → Res Bool
  | none, _, st => .ok true st
  | some c, env, st => f c env st

mutual
def evT (C : Cf) : Nat → E → Env → Sto → Res Bool
  | 0, _, _, _ => .stuck
  | n + 1, e, env, st => match e with
    | .not a => (evT C n a env st).bind fun c st => .ok (!c) st
    | .and a b => (evT C n a env st).bind fun c st => if c then evT C n b env st else .ok false st
    | .or a b => (evT C n a env st).bind fun c st => if c then .ok true st else evT C n b env st
    | .cmp o a b => asBool (ev C n (.cmp o a b) env st)
    | .cmp2 o p a b c => asBool (ev C n (.cmp2 o p a b c) env st)
    | .ite _ _ _ => .stuck
    | e => (ev C n e env st).bind fun d st => .of (truth st d) st
def ev (C : Cf) : Nat → E → Env → Sto → Res D
  | 0, _, _, _ => .stuck
  | n + 1, e, env, st => match e with
    | .var i => .of (env.at i) st
    | .lit d => .ok d st
    | .con x => .of (C.con x) st
    | .bty n => .of ((btyTab.lookup n).map .ty) st
    | .gfn _ => .stuck
    | .bin o a b => (ev C n a env st).bind fun x st => (ev C n b env st).bind fun y st => .of (binD C.k o x y) st
    | .neg a => (ev C n a env st).bind fun x st => match x with
      | .int i => .ok (.int (-i)) st
      | _ => .stuck
    | .cmp o a b => (ev C n a env st).bind fun x st => (ev C n b env st).bind fun y st => .of ((cmpD o x y).map .bl) st
    | .cmp2 o p a b c => (ev C n a env st).bind fun x st => (ev C n b env st).bind fun y st => match cmpD o x y with
      | some true => (ev C n c env st).bind fun z st => .of ((cmpD p y z).map .bl) st
      | some false => .ok (.bl false) st
      | none => .stuck
    | .not a => (ev C n a env st).bind fun x st => .of ((truth st x).map fun c => .bl (!c)) st
    | .and a b => (ev C n a env st).bind fun x st => match truth st x with
      | some true => ev C n b env st
      | some false => .ok x st
      | none => .stuck
    | .or a b => (ev C n a env st).bind fun x st => match truth st x with
      | some true => .ok x st
      | some false => ev C n b env st
      | none => .stuck
    | .ite t a b => (evT C n t env st).bind fun c st => if c then ev C n a env st else ev C n b env st
    | .tup es => (evL (fun e st => ev C n e env st) es st).bind fun ds st => if ds.length ≤ sizeLine then .ok (.tup ds) st else .stuck
    | .lst es => (evL (fun e st => ev C n e env st) es st).bind fun ds st => if ds.length ≤ sizeLine then .ok (.lst ds) st else .stuck
    | .lstR es => (evL (fun e st => ev C n e env st) es st).bind fun ds st => if ds.length ≤ sizeLine then .ok (.ref st.length) (st ++ [.lst ds]) else .stuck
    | .call f es => (evL (fun e st => ev C n e env st) es st).bind fun xs st => C.call f xs st
    | .blt f es => (evL (fun e st => ev C n e env st) es st).bind fun xs st => .of (bltD f xs st) st
    | .idx a i => (ev C n a env st).bind fun x st => (ev C n i env st).bind fun j st => .of (idxD st x j) st
    | .slc a lo hi => (ev C n a env st).bind fun x st => (evO (fun e st => ev C n e env st) lo st).bind fun l st => (evO (fun e st => ev C n e env st) hi st).bind fun h st => match x with
      | .tup xs => .ok (.tup (cutD xs l h)) st
      | .lst xs => .ok (.lst (cutD xs l h)) st
      | _ => .stuck
    | .rev a => (ev C n a env st).bind fun x st => match x with
      | .lst xs => .ok (.lst xs.reverse) st
      | _ => .stuck
    | .comp r el tg it c own => compR (fun env st => itD (fun e st => ev C n e env st) it st) (fun x env st => tgD (fun e env st => ev C n e env st) tg x env st)
        (condT (fun c env st => evT C n c env st) c) (fun env st => ev C n el env st) (own.map (·.2)) r env st
end

def forL (f : D → Env → Sto → SR) : List D → Env → Sto → SR
  | [], env, st => .next env st
  | x :: xs, env, st => match f x env st with
    | .next env st => forL f xs env st
    | .cont env st => forL f xs env st
    | .brk env st => .next env st
    | r => r

def whlN (t : Env → Sto → Res Bool) (b : Env → Sto → SR) : Nat → Env → Sto → SR
  | 0, _, _ => .stuck
  | n + 1, env, st => (t env st).run env fun c st => if c then match b env st with
    | .next env st => whlN t b n env st
    | .cont env st => whlN t b n env st
    | .brk env st => .next env st
    | r => r
    else .next env st

def setAll : List Nat → List D → Env → Env
  | i :: is, d :: ds, env => setAll is ds (env.set i (some d))
  | _, _, env => env

def exL (f : S → Env → Sto → SR) : List S → Env → Sto → SR
  | [], env, st => .next env st
  | s :: ss, env, st => (f s env st).then fun env st => exL f ss env st

/-- how often a while turns at most -/
def wmax : Nat := 1000000000

def ex (C : Cf) : Nat → S → Env → Sto → SR
  | 0, _, _, _ => .stuck
  | n + 1, s, env, st => match s with
    | .expr e => (ev C n e env st).run env fun _ st => .next env st
    | .asg t e => (ev C n e env st).run env fun d st => (tgD (fun e env st => ev C n e env st) t d env st).still.run env fun env st => .next env st
    | .par is es => (evL (fun e st => ev C n e env st) es st).run env fun ds st => .next (setAll is ds env) st
    | .ret e => (ev C n e env st).run env fun d st => .ret d st
    | .retN => .ret .non st
    | .ite t a b => (evT C n t env st).run env fun c st => if c then exL (ex C n) a env st else exL (ex C n) b env st
    | .whl t b => whlN (evT C n t) (exL (ex C n) b) wmax env st
    | .for_ t it b => (itD (fun e st => ev C n e env st) it st).run env fun xs st =>
        forL (fun x env st => (tgD (fun e env st => ev C n e env st) t x env st).still.run env fun env st => exL (ex C n) b env st) xs env st
    | .pass => .next env st
    | .brk => .brk env st
    | .cont => .cont env st
    | .never => .stuck

/-- a def -/
structure Fd where
  name : Str
  names : List Str
  ps : List Str
  dft : List D
  body : List S
def Fd.pad (F : Fd) (ds : List D) : List D := ds ++ F.dft.drop (ds.length + F.dft.length - F.ps.length)

/-- behind a call: new objects that nobody knows are let go -/
def trim (n : Nat) (d : D) (st : Sto) : Res D :=
  if D.low n d && (st.take n).all (O.low n) then .ok d (st.take n) else .ok d st
def finish (n : Nat) : SR → Res D
  | .next _ st => trim n .non st
  | .ret d st => trim n d st
  | .exc c fs _ st => .exc c fs st
  | _ => .stuck

structure Tab where
  fns : List Fd
  con : Str → Option D
def Tab.fn (T : Tab) (x : Str) : Option Fd := T.fns.find? fun F => decide (F.name = x)

/-- how deep expressions and statements may be nested -/
def deep : Nat := 60
def callF (T : Tab) : Nat → Str → List D → Sto → Res D
  | 0, _, _, _ => .stuck
  | k + 1, x, ds, st => match T.fn x with
    | none => .stuck
    | some F => if (F.pad ds).length = F.ps.length then
        finish st.length (exL (ex { k := k, call := callF T k, con := T.con } deep) F.body ((F.pad ds).map some ++ List.replicate (F.names.length - (F.pad ds).length) none) st) else .stuck
end Mu

set_option linter.all false
set_option Elab.async false
/-! How the interpreter's data lie in the heap; what is wanted behind a step. -/
namespace Mu
open PySem L2

/-- where the store's objects lie; what else may not be met by a value (a list that a comprehension fills) -/
structure Rho where
  ix : List Addr
  no : List Addr
def Out (ρ : Rho) (a : Addr) : Prop := a ∉ ρ.ix ∧ a ∉ ρ.no
def Rho.push (ρ : Rho) (p : Addr) : Rho := ⟨ρ.ix ++ [p], ρ.no⟩
def Rho.hide (ρ : Rho) (p : Addr) : Rho := ⟨ρ.ix, p :: ρ.no⟩
def Rho.show (ρ : Rho) (l : List Addr) : Rho := ⟨ρ.ix, l⟩

/-- a tuple at a that stays: tracked and not of the store, or written -/
def TupAt (K : PySem.W.Frag) (ρ : Rho) (H : Hp) (a : Addr) (xs : List V) : Prop := (Rd H a (.tup xs) ∧ Out ρ a) ∨ ∀ H', SqT K H' a xs
/-- a list that nobody writes: tracked -/
def LstAt (ρ : Rho) (H : Hp) (a : Addr) (xs : List V) : Prop := H a = some (.lst xs) ∧ Out ρ a
/-- .. or locked, or written -/
def RolAt (K : PySem.W.Frag) (ρ : Rho) (H : Hp) (a : Addr) (xs : List V) : Prop := (Rd H a (.lst xs) ∧ Out ρ a) ∨ ∀ H', SqL K H' a xs

mutual
inductive Rep (K : PySem.W.Frag) (mg : Str → Option Value) (ρ : Rho) (H : Hp) : D → V → Prop
  | non : Rep K mg ρ H .non .non
  | bl (b : Bool) : Rep K mg ρ H (.bl b) (.bl b)
  | int (i : Int) : Rep K mg ρ H (.int i) (.int i)
  | str (x : Str) : Rep K mg ρ H (.str x) (.str x)
  | ty (n : String) : Rep K mg ρ H (.ty n) (.ty n)
  | fn {x : Str} {f : Addr} : mg x = some (.ref f) → Rep K mg ρ H (.fn x) (.ref f)
  | tup {a : Addr} {xs : List V} {ds : List D} : TupAt K ρ H a xs → RepL K mg ρ H ds xs → Rep K mg ρ H (.tup ds) (.ref a)
  | lst {a : Addr} {xs : List V} {ds : List D} : LstAt ρ H a xs → RepL K mg ρ H ds xs → Rep K mg ρ H (.lst ds) (.ref a)
  | rol {a : Addr} {xs : List V} {ds : List D} : RolAt K ρ H a xs → RepL K mg ρ H ds xs → Rep K mg ρ H (.rol ds) (.ref a)
  | ref {i : Nat} {a : Addr} : ρ.ix[i]? = some a → Rep K mg ρ H (.ref i) (.ref a)
inductive RepL (K : PySem.W.Frag) (mg : Str → Option Value) (ρ : Rho) (H : Hp) : List D → List V → Prop
  | nil : RepL K mg ρ H [] []
  | cons {d : D} {v : V} {ds : List D} {vs : List V} : Rep K mg ρ H d v → RepL K mg ρ H ds vs → RepL K mg ρ H (d :: ds) (v :: vs)
end

/-- the store has grown, all else that was tracked is as it was -/
structure Ext (ρ : Rho) (H : Hp) (ρ' : Rho) (H' : Hp) : Prop where
  no : ∃ l, ρ'.no = l ++ ρ.no ∧ ∀ a ∈ l, H a = none
  more : ∃ l, ρ'.ix = ρ.ix ++ l ∧ ∀ a ∈ l, H a = none
  same : ∀ a o, H a = some o → a ∉ ρ.ix → H' a = some o
  live : ∀ a, H' a = none → H a = none
theorem Ext.refl (ρ : Rho) (H : Hp) : Ext ρ H ρ H := ⟨⟨[], by simp, by simp⟩, ⟨[], by simp, by simp⟩, fun _ _ h _ => h, fun _ h => h⟩
theorem Ext.notIx {ρ ρ' : Rho} {H H' : Hp} {a : Addr} {o : HO} (e : Ext ρ H ρ' H') (h : H a = some o) (n : a ∉ ρ.ix) : a ∉ ρ'.ix := by
  obtain ⟨l, e2, hl⟩ := e.more
  rw [e2]
  intro m
  rcases List.mem_append.mp m with m | m
  · exact n m
  · rw [hl a m] at h; cases h
theorem Ext.not {ρ ρ' : Rho} {H H' : Hp} {a : Addr} {o : HO} (e : Ext ρ H ρ' H') (h : H a = some o) (n : Out ρ a) : Out ρ' a :=
  ⟨e.notIx h n.1, by
    obtain ⟨l, e2, hl⟩ := e.no
    rw [e2]
    intro m
    rcases List.mem_append.mp m with m | m
    · rw [hl a m] at h; cases h
    · exact n.2 m⟩
theorem Ext.trans {ρ ρ1 ρ2 : Rho} {H H1 H2 : Hp} (a : Ext ρ H ρ1 H1) (b : Ext ρ1 H1 ρ2 H2) : Ext ρ H ρ2 H2 := by
  refine ⟨?_, ?_, fun c o h n => b.same c o (a.same c o h n) (a.notIx h n), fun c h => a.live c (b.live c h)⟩
  · obtain ⟨l, e, hl⟩ := a.no
    obtain ⟨l', e', hl'⟩ := b.no
    refine ⟨l' ++ l, by rw [e', e, List.append_assoc], fun c m => ?_⟩
    rcases List.mem_append.mp m with m | m
    · exact a.live c (hl' c m)
    · exact hl c m
  obtain ⟨l, e, hl⟩ := a.more
  obtain ⟨l', e', hl'⟩ := b.more
  refine ⟨l ++ l', by rw [e', e, List.append_assoc], fun c m => ?_⟩
  rcases List.mem_append.mp m with m | m
  · exact hl c m
  · exact a.live c (hl' c m)
theorem Ext.at {ρ ρ' : Rho} {H H' : Hp} {i : Nat} {a : Addr} (e : Ext ρ H ρ' H') (h : ρ.ix[i]? = some a) : ρ'.ix[i]? = some a := by
  obtain ⟨l, e2, _⟩ := e.more
  rw [e2, List.getElem?_append_left (List.getElem?_eq_some_iff.mp h).1]
  exact h
section
variable {K : PySem.W.Frag} {mg : Str → Option Value} {ρ ρ' : Rho} {H H' : Hp}
theorem TupAt.ext {a : Addr} {xs : List V} (e : Ext ρ H ρ' H') (h : TupAt K ρ H a xs) : TupAt K ρ' H' a xs := by
  rcases h with ⟨h | ⟨o, h⟩, n⟩ | h
  · exact .inl ⟨.inl (e.same _ _ h n.1), e.not h n⟩
  · exact .inl ⟨.inr ⟨o, e.same _ _ h n.1⟩, e.not h n⟩
  · exact .inr h
theorem LstAt.ext {a : Addr} {xs : List V} (e : Ext ρ H ρ' H') (h : LstAt ρ H a xs) : LstAt ρ' H' a xs := ⟨e.same _ _ h.1 h.2.1, e.not h.1 h.2⟩
theorem RolAt.ext {a : Addr} {xs : List V} (e : Ext ρ H ρ' H') (h : RolAt K ρ H a xs) : RolAt K ρ' H' a xs := by
  rcases h with ⟨h | ⟨o, h⟩, n⟩ | h
  · exact .inl ⟨.inl (e.same _ _ h n.1), e.not h n⟩
  · exact .inl ⟨.inr ⟨o, e.same _ _ h n.1⟩, e.not h n⟩
  · exact .inr h
theorem TupAt.sq {a : Addr} {xs : List V} (h : TupAt K ρ H a xs) : SqT K H a xs := by
  rcases h with ⟨h, _⟩ | h
  · exact .inl h
  · exact h H
theorem LstAt.sq {a : Addr} {xs : List V} (h : LstAt ρ H a xs) : SqL K H a xs := .inl (.inl h.1)
theorem RolAt.sq {a : Addr} {xs : List V} (h : RolAt K ρ H a xs) : SqL K H a xs := by
  rcases h with ⟨h, _⟩ | h
  · exact .inl h
  · exact h H
mutual
theorem Rep.ext (e : Ext ρ H ρ' H') : ∀ {d : D} {v : V}, Rep K mg ρ H d v → Rep K mg ρ' H' d v
  | _, _, .non => .non
  | _, _, .bl b => .bl b
  | _, _, .int i => .int i
  | _, _, .str x => .str x
  | _, _, .ty n => .ty n
  | _, _, .fn h => .fn h
  | _, _, .tup t r => .tup (t.ext e) (RepL.ext e r)
  | _, _, .lst t r => .lst (t.ext e) (RepL.ext e r)
  | _, _, .rol t r => .rol (t.ext e) (RepL.ext e r)
  | _, _, .ref h => .ref (e.at h)
theorem RepL.ext (e : Ext ρ H ρ' H') : ∀ {ds : List D} {vs : List V}, RepL K mg ρ H ds vs → RepL K mg ρ' H' ds vs
  | _, _, .nil => .nil
  | _, _, .cons h t => .cons (Rep.ext e h) (RepL.ext e t)
end
theorem RepL.length : ∀ {ds : List D} {vs : List V}, RepL K mg ρ H ds vs → ds.length = vs.length
  | _, _, .nil => rfl
  | _, _, .cons _ t => by simp [RepL.length t]
theorem RepL.append : ∀ {ds es : List D} {vs us : List V}, RepL K mg ρ H ds vs → RepL K mg ρ H es us → RepL K mg ρ H (ds ++ es) (vs ++ us)
  | _, _, _, _, .nil, s => s
  | _, _, _, _, .cons h t, s => .cons h (RepL.append t s)
theorem RepL.get : ∀ {ds : List D} {vs : List V} {i : Nat} {d : D}, RepL K mg ρ H ds vs → ds[i]? = some d → ∃ v, vs[i]? = some v ∧ Rep K mg ρ H d v
  | _, _, _, _, .nil, e => by simp at e
  | _, _, 0, _, .cons h _, e => by simp at e; subst e; exact ⟨_, rfl, h⟩
  | _, _, i + 1, _, .cons _ t, e => by
    obtain ⟨v, h1, h2⟩ := RepL.get (i := i) t (by simpa using e)
    exact ⟨v, by simpa using h1, h2⟩
theorem RepL.getV : ∀ {ds : List D} {vs : List V} {i : Nat} {v : V}, RepL K mg ρ H ds vs → vs[i]? = some v → ∃ d, ds[i]? = some d ∧ Rep K mg ρ H d v
  | _, _, _, _, .nil, e => by simp at e
  | _, _, 0, _, .cons h _, e => by simp at e; subst e; exact ⟨_, rfl, h⟩
  | _, _, i + 1, _, .cons _ t, e => by
    obtain ⟨v, h1, h2⟩ := RepL.getV (i := i) t (by simpa using e)
    exact ⟨v, by simpa using h1, h2⟩
theorem RepL.take : ∀ {ds : List D} {vs : List V} (n : Nat), RepL K mg ρ H ds vs → RepL K mg ρ H (ds.take n) (vs.take n)
  | _, _, 0, _ => .nil
  | _, _, _ + 1, .nil => .nil
  | _, _, n + 1, .cons h t => .cons h (RepL.take n t)
theorem RepL.drop : ∀ {ds : List D} {vs : List V} (n : Nat), RepL K mg ρ H ds vs → RepL K mg ρ H (ds.drop n) (vs.drop n)
  | _, _, 0, r => r
  | _, _, _ + 1, .nil => .nil
  | _, _, n + 1, .cons _ t => RepL.drop n t
theorem RepL.set {d : D} {v : V} (r : Rep K mg ρ H d v) : ∀ {ds : List D} {vs : List V} (i : Nat), RepL K mg ρ H ds vs → RepL K mg ρ H (ds.set i d) (vs.set i v)
  | _, _, _, .nil => .nil
  | _, _, 0, .cons _ t => .cons r t
  | _, _, i + 1, .cons q t => .cons q (RepL.set r i t)
theorem RepL.reverse {ds : List D} {vs : List V} (r : RepL K mg ρ H ds vs) : RepL K mg ρ H ds.reverse vs.reverse := by
  have aux : ∀ {ds : List D} {vs : List V} {es : List D} {us : List V}, RepL K mg ρ H ds vs → RepL K mg ρ H es us → RepL K mg ρ H (ds.reverseAux es) (vs.reverseAux us) := by
    intro ds
    induction ds with
    | nil => intro vs es us h s; cases h; exact s
    | cons d ds ih => intro vs es us h s; cases h with | cons h t => have q := ih t (RepL.cons h s); exact q
  exact aux r .nil
end

def RepO (K : PySem.W.Frag) (mg : Str → Option Value) (ρ : Rho) (H : Hp) (a : Addr) : O → Prop
  | .lst ds => ∃ xs, H a = some (.lst xs) ∧ RepL K mg ρ H ds xs
/-- the store lies at ρ -/
structure Wd (K : PySem.W.Frag) (mg : Str → Option Value) (ρ : Rho) (st : Sto) (H : Hp) : Prop where
  len : ρ.ix.length = st.length
  nd : ρ.ix.Nodup
  ob : ∀ (i : Nat) (a : Addr) (o : O), ρ.ix[i]? = some a → st[i]? = some o → RepO K mg ρ H a o
  pv : ∀ a ∈ ρ.no, H a ≠ none ∧ a ∉ ρ.ix
/-- the slots -/
structure EnvRep (K : PySem.W.Frag) (mg : Str → Option Value) (ρ : Rho) (H : Hp) (env : Env) (σ : St) : Prop where
  len : env.length = σ.length
  at_ : ∀ (i : Nat) (d : D), env[i]? = some (some d) → ∃ v, σ[i]? = some (some v) ∧ Rep K mg ρ H d v
section
variable {K : PySem.W.Frag} {mg : Str → Option Value} {ρ ρ' : Rho} {H H' : Hp} {st : Sto} {env : Env} {σ : St}
theorem EnvRep.ext (e : Ext ρ H ρ' H') (r : EnvRep K mg ρ H env σ) : EnvRep K mg ρ' H' env σ := ⟨r.len, fun i d h => by
  obtain ⟨v, h1, h2⟩ := r.at_ i d h
  exact ⟨v, h1, h2.ext e⟩⟩
theorem EnvRep.set {d : D} {v : V} (r : EnvRep K mg ρ H env σ) (h : Rep K mg ρ H d v) (i : Nat) : EnvRep K mg ρ H (env.set i (some d)) (σ.set i (some v)) := by
  refine ⟨by simp [r.len], fun j e hj => ?_⟩
  by_cases hi : i = j
  · subst hi
    have hl : i < env.length := by
      have := (List.getElem?_eq_some_iff.mp hj).1
      simpa using this
    rw [List.getElem?_set_self hl] at hj
    cases hj
    exact ⟨v, by rw [List.getElem?_set_self (by rw [← r.len]; exact hl)], h⟩
  · rw [List.getElem?_set_ne hi] at hj
    obtain ⟨u, h1, h2⟩ := r.at_ j e hj
    exact ⟨u, by rw [List.getElem?_set_ne hi]; exact h1, h2⟩
theorem EnvRep.setNone (r : EnvRep K mg ρ H env σ) (i : Nat) : EnvRep K mg ρ H (env.set i none) (σ.set i none) := by
  refine ⟨by simp [r.len], fun j e hj => ?_⟩
  by_cases hi : i = j
  · subst hi
    have hl : i < env.length := by
      have := (List.getElem?_eq_some_iff.mp hj).1
      simpa using this
    rw [List.getElem?_set_self hl] at hj
    cases hj
  · rw [List.getElem?_set_ne hi] at hj
    obtain ⟨u, h1, h2⟩ := r.at_ j e hj
    exact ⟨u, by rw [List.getElem?_set_ne hi]; exact h1, h2⟩
theorem EnvRep.wipe (r : EnvRep K mg ρ H env σ) : ∀ vs : List Nat, EnvRep K mg ρ H (wipeE env vs) (L2.wipe σ vs)
  | [] => r
  | v :: vs => (EnvRep.wipe r vs).setNone v
theorem Wd.get (w : Wd K mg ρ st H) {i : Nat} {a : Addr} (h : ρ.ix[i]? = some a) : ∃ o, st[i]? = some o ∧ RepO K mg ρ H a o := by
  have hi : i < st.length := by rw [← w.len]; exact (List.getElem?_eq_some_iff.mp h).1
  exact ⟨st[i], by simp [hi], w.ob i a _ h (by simp [hi])⟩
theorem RepO.there {a : Addr} {o : O} (h : RepO K mg ρ H a o) : ∃ u, H a = some u := by
  cases o with
  | lst ds => obtain ⟨xs, e, _⟩ := h; exact ⟨_, e⟩
theorem Wd.mem (w : Wd K mg ρ st H) {a : Addr} (h : a ∈ ρ.ix) : ∃ u, H a = some u := by
  obtain ⟨i, hi⟩ := List.getElem?_of_mem h
  obtain ⟨o, _, r⟩ := w.get hi
  exact r.there
theorem Wd.fresh (w : Wd K mg ρ st H) {a : Addr} (h : H a = none) : Out ρ a := by
  refine ⟨fun m => ?_, fun m => (w.pv a m).1 h⟩
  obtain ⟨u, e⟩ := w.mem m
  rw [h] at e; cases e
theorem RepO.ext {a : Addr} {o : O} (e : Ext ρ H ρ' H') (hh : H' a = H a) (h : RepO K mg ρ H a o) : RepO K mg ρ' H' a o := by
  cases o with
  | lst ds => obtain ⟨xs, q, r⟩ := h; exact ⟨xs, by rw [hh]; exact q, r.ext e⟩
theorem upd_live {p : Addr} {o : HO} {a : Addr} (h : upd H p o a = none) : H a = none := by
  by_cases e : a = p
  · subst e; rw [upd_same] at h; cases h
  · rw [upd_ne e] at h; exact h
theorem upd_keep {p : Addr} {o : HO} {a : Addr} (h : H a ≠ none) : upd H p o a ≠ none := fun q => h (upd_live q)
/-- a new object beside the store -/
theorem Ext.new {p : Addr} {o : HO} (hp : H p = none) : Ext ρ H ρ (upd H p o) :=
  ⟨⟨[], by simp, by simp⟩, ⟨[], by simp, by simp⟩, fun a u h _ => by rw [upd_ne (ne_of_none h hp)]; exact h, fun a h => upd_live h⟩
theorem Wd.new {p : Addr} {o : HO} (w : Wd K mg ρ st H) (hp : H p = none) : Wd K mg ρ st (upd H p o) :=
  ⟨w.len, w.nd, fun i a u h1 h2 => (w.ob i a u h1 h2).ext (Ext.new hp) (upd_ne fun e => (w.fresh hp).1 (by rw [← e]; exact List.mem_of_getElem? h1)), fun a m => ⟨upd_keep (w.pv a m).1, (w.pv a m).2⟩⟩
/-- a new object of the store -/
theorem Ext.push {p : Addr} {o : HO} (hp : H p = none) : Ext ρ H (ρ.push p) (upd H p o) :=
  ⟨⟨[], rfl, by simp⟩, ⟨[p], rfl, by simp [hp]⟩, fun a u h _ => by rw [upd_ne (ne_of_none h hp)]; exact h, fun a h => upd_live h⟩
theorem Wd.pushAt {p : Addr} {H2 : Hp} {o' : O} (w : Wd K mg ρ st H) (e : Ext ρ H (ρ.push p) H2) (hs : ∀ a ∈ ρ.ix, H2 a = H a) (hp : Out ρ p) (r : RepO K mg (ρ.push p) H2 p o') : Wd K mg (ρ.push p) (st ++ [o']) H2 := by
  refine ⟨by simp [Rho.push, w.len], ?_, fun i a u h1 h2 => ?_, fun a m => ?_⟩
  · show (ρ.ix ++ [p]).Nodup
    rw [List.nodup_append]
    refine ⟨w.nd, by simp, fun a ha b hb => ?_⟩
    have : b = p := by simpa using hb
    subst this
    intro e
    subst e
    exact hp.1 ha
  · have h1 : (ρ.ix ++ [p])[i]? = some a := h1
    by_cases hi : i < ρ.ix.length
    · rw [List.getElem?_append_left hi] at h1
      rw [List.getElem?_append_left (by rw [← w.len]; exact hi)] at h2
      exact (w.ob i a u h1 h2).ext e (hs a (List.mem_of_getElem? h1))
    · have e : i = ρ.ix.length := by
        have := (List.getElem?_eq_some_iff.mp h1).1
        simp at this
        omega
      subst e
      rw [List.getElem?_append_right (Nat.le_refl _)] at h1
      rw [w.len, List.getElem?_append_right (Nat.le_refl _)] at h2
      simp at h1 h2
      subst h1
      subst h2
      exact r
  · have q := w.pv a m
    refine ⟨fun z => q.1 (e.live a z), ?_⟩
    show a ∉ ρ.ix ++ [p]
    intro z
    rcases List.mem_append.mp z with z | z
    · exact q.2 z
    · have : a = p := by simpa using z
      subst this
      exact hp.2 m
theorem Wd.push {p : Addr} {o : HO} {o' : O} (w : Wd K mg ρ st H) (hp : H p = none) (r : RepO K mg (ρ.push p) (upd H p o) p o') : Wd K mg (ρ.push p) (st ++ [o']) (upd H p o) :=
  w.pushAt (Ext.push hp) (fun a m => upd_ne fun e => (w.fresh hp).1 (by rw [← e]; exact m)) (w.fresh hp) r
theorem Wd.last {p : Addr} (w : Wd K mg ρ st H) : (ρ.push p).ix[st.length]? = some p := by
  show (ρ.ix ++ [p])[st.length]? = some p
  rw [← w.len, List.getElem?_append_right (Nat.le_refl _)]
  simp
/-- an object of the store is written -/
theorem Ext.put {i : Nat} {a : Addr} {o : HO} (h : ρ.ix[i]? = some a) : Ext ρ H ρ (upd H a o) :=
  ⟨⟨[], by simp, by simp⟩, ⟨[], by simp, by simp⟩, fun b u hb n => by rw [upd_ne fun e => n (by rw [e]; exact List.mem_of_getElem? h)]; exact hb, fun b hb => upd_live hb⟩
theorem Wd.put {i : Nat} {a : Addr} {o : HO} {o' : O} (w : Wd K mg ρ st H) (h : ρ.ix[i]? = some a) (r : RepO K mg ρ (upd H a o) a o') : Wd K mg ρ (st.set i o') (upd H a o) := by
  refine ⟨by simp [w.len], w.nd, fun j b u h1 h2 => ?_, fun c m => ⟨upd_keep (w.pv c m).1, (w.pv c m).2⟩⟩
  by_cases e : i = j
  · subst e
    have e1 : b = a := by rw [h] at h1; exact (Option.some.inj h1).symm
    subst e1
    have hl : i < st.length := by rw [← w.len]; exact (List.getElem?_eq_some_iff.mp h).1
    rw [List.getElem?_set_self hl] at h2
    cases h2
    exact r
  · rw [List.getElem?_set_ne e] at h2
    refine (w.ob j b u h1 h2).ext (Ext.put h) (upd_ne fun z => e ?_)
    subst z
    obtain ⟨hi, e1⟩ := List.getElem?_eq_some_iff.mp h
    obtain ⟨hj, e2⟩ := List.getElem?_eq_some_iff.mp h1
    have pw := List.pairwise_iff_getElem.mp w.nd
    rcases Nat.lt_trichotomy i j with q | q | q
    · exact absurd (e1.trans e2.symm) (pw i j hi hj q)
    · exact q
    · exact absurd (e2.trans e1.symm) (pw j i hj hi q)
/-! ### a hidden list -/
theorem Ext.hide {D : Addr} {o : HO} (hD : H D = none) : Ext ρ H (ρ.hide D) (upd H D o) :=
  ⟨⟨[D], rfl, by simp [hD]⟩, ⟨[], by simp [Rho.hide], by simp⟩, fun a u h _ => by rw [upd_ne (ne_of_none h hD)]; exact h, fun a h => upd_live h⟩
theorem Wd.hide {D : Addr} {o : HO} (w : Wd K mg ρ st H) (hD : H D = none) : Wd K mg (ρ.hide D) st (upd H D o) := by
  refine ⟨w.len, w.nd, fun i a u h1 h2 => ?_, fun a m => ?_⟩
  · refine (w.ob i a u h1 h2).ext (Ext.hide hD) (upd_ne fun e => (w.fresh hD).1 (by rw [← e]; exact List.mem_of_getElem? h1))
  · rcases List.mem_cons.mp m with e | m
    · subst e
      exact ⟨by rw [upd_same]; simp, (w.fresh hD).1⟩
    · exact ⟨upd_keep (w.pv a m).1, (w.pv a m).2⟩
/-- the hidden list is written -/
theorem TupAt.priv {D : Addr} {o : HO} {a : Addr} {xs : List V} (hD : D ∈ ρ.no) (h : TupAt K ρ H a xs) : TupAt K ρ (upd H D o) a xs := by
  rcases h with ⟨h | ⟨q, h⟩, n⟩ | h
  · exact .inl ⟨.inl (by rw [upd_ne fun e => n.2 (by rw [e]; exact hD)]; exact h), n⟩
  · exact .inl ⟨.inr ⟨q, by rw [upd_ne fun e => n.2 (by rw [e]; exact hD)]; exact h⟩, n⟩
  · exact .inr h
theorem LstAt.priv {D : Addr} {o : HO} {a : Addr} {xs : List V} (hD : D ∈ ρ.no) (h : LstAt ρ H a xs) : LstAt ρ (upd H D o) a xs := ⟨by rw [upd_ne fun e => h.2.2 (by rw [e]; exact hD)]; exact h.1, h.2⟩
theorem RolAt.priv {D : Addr} {o : HO} {a : Addr} {xs : List V} (hD : D ∈ ρ.no) (h : RolAt K ρ H a xs) : RolAt K ρ (upd H D o) a xs := by
  rcases h with ⟨h | ⟨q, h⟩, n⟩ | h
  · exact .inl ⟨.inl (by rw [upd_ne fun e => n.2 (by rw [e]; exact hD)]; exact h), n⟩
  · exact .inl ⟨.inr ⟨q, by rw [upd_ne fun e => n.2 (by rw [e]; exact hD)]; exact h⟩, n⟩
  · exact .inr h
mutual
theorem Rep.priv {D : Addr} {o : HO} (hD : D ∈ ρ.no) : ∀ {d : Mu.D} {v : V}, Rep K mg ρ H d v → Rep K mg ρ (upd H D o) d v
  | _, _, .non => .non
  | _, _, .bl b => .bl b
  | _, _, .int i => .int i
  | _, _, .str x => .str x
  | _, _, .ty n => .ty n
  | _, _, .fn h => .fn h
  | _, _, .tup t r => .tup (t.priv hD) (RepL.priv hD r)
  | _, _, .lst t r => .lst (t.priv hD) (RepL.priv hD r)
  | _, _, .rol t r => .rol (t.priv hD) (RepL.priv hD r)
  | _, _, .ref h => .ref h
theorem RepL.priv {D : Addr} {o : HO} (hD : D ∈ ρ.no) : ∀ {ds : List Mu.D} {vs : List V}, RepL K mg ρ H ds vs → RepL K mg ρ (upd H D o) ds vs
  | _, _, .nil => .nil
  | _, _, .cons h t => .cons (Rep.priv hD h) (RepL.priv hD t)
end
theorem Wd.priv {D : Addr} {o : HO} (w : Wd K mg ρ st H) (hD : D ∈ ρ.no) : Wd K mg ρ st (upd H D o) := by
  refine ⟨w.len, w.nd, fun i a u h1 h2 => ?_, fun a m => ⟨upd_keep (w.pv a m).1, (w.pv a m).2⟩⟩
  have q := w.ob i a u h1 h2
  cases u with
  | lst ds =>
    obtain ⟨xs, e, r⟩ := q
    exact ⟨xs, by rw [upd_ne fun z => (w.pv D hD).2 (by rw [← z]; exact List.mem_of_getElem? h1)]; exact e, r.priv hD⟩
/-- less is hidden -/
theorem Out.show {a : Addr} {l : List Addr} (hl : ∀ b ∈ l, b ∈ ρ.no) (x : Out ρ a) : Out (ρ.show l) a := ⟨x.1, fun m => x.2 (hl a m)⟩
theorem TupAt.show {l : List Addr} {a : Addr} {xs : List V} (hl : ∀ b ∈ l, b ∈ ρ.no) (h : TupAt K ρ H a xs) : TupAt K (ρ.show l) H a xs := by
  rcases h with ⟨h, n⟩ | h
  · exact .inl ⟨h, n.show hl⟩
  · exact .inr h
theorem RolAt.show {l : List Addr} {a : Addr} {xs : List V} (hl : ∀ b ∈ l, b ∈ ρ.no) (h : RolAt K ρ H a xs) : RolAt K (ρ.show l) H a xs := by
  rcases h with ⟨h, n⟩ | h
  · exact .inl ⟨h, n.show hl⟩
  · exact .inr h
mutual
theorem Rep.show {l : List Addr} (hl : ∀ b ∈ l, b ∈ ρ.no) : ∀ {d : Mu.D} {v : V}, Rep K mg ρ H d v → Rep K mg (ρ.show l) H d v
  | _, _, .non => .non
  | _, _, .bl b => .bl b
  | _, _, .int i => .int i
  | _, _, .str x => .str x
  | _, _, .ty n => .ty n
  | _, _, .fn h => .fn h
  | _, _, .tup t r => .tup (t.show hl) (RepL.show hl r)
  | _, _, .lst t r => .lst ⟨t.1, t.2.show hl⟩ (RepL.show hl r)
  | _, _, .rol t r => .rol (t.show hl) (RepL.show hl r)
  | _, _, .ref h => .ref h
theorem RepL.show {l : List Addr} (hl : ∀ b ∈ l, b ∈ ρ.no) : ∀ {ds : List Mu.D} {vs : List V}, RepL K mg ρ H ds vs → RepL K mg (ρ.show l) H ds vs
  | _, _, .nil => .nil
  | _, _, .cons h t => .cons (Rep.show hl h) (RepL.show hl t)
end
theorem Wd.show {l : List Addr} (w : Wd K mg ρ st H) (hl : ∀ b ∈ l, b ∈ ρ.no) : Wd K mg (ρ.show l) st H := by
  refine ⟨w.len, w.nd, fun i a u h1 h2 => ?_, fun a m => w.pv a (hl a m)⟩
  have q := w.ob i a u h1 h2
  cases u with
  | lst ds =>
    obtain ⟨xs, e, r⟩ := q
    exact ⟨xs, e, r.show hl⟩
/-- the hidden list becomes one of the store -/
theorem Out.own {a D : Addr} {l : List Addr} (hD : D ∈ ρ.no) (hl : ∀ b ∈ l, b ∈ ρ.no) (x : Out ρ a) : Out ((ρ.show l).push D) a :=
  ⟨fun m => by
    have m : a ∈ ρ.ix ++ [D] := m
    rcases List.mem_append.mp m with m | m
    · exact x.1 m
    · have e : a = D := by simpa using m
      exact x.2 (by rw [e]; exact hD), fun m => x.2 (hl a m)⟩
theorem TupAt.own {D : Addr} {l : List Addr} {a : Addr} {xs : List V} (hD : D ∈ ρ.no) (hl : ∀ b ∈ l, b ∈ ρ.no) (h : TupAt K ρ H a xs) : TupAt K ((ρ.show l).push D) H a xs := by
  rcases h with ⟨h, n⟩ | h
  · exact .inl ⟨h, n.own hD hl⟩
  · exact .inr h
theorem RolAt.own {D : Addr} {l : List Addr} {a : Addr} {xs : List V} (hD : D ∈ ρ.no) (hl : ∀ b ∈ l, b ∈ ρ.no) (h : RolAt K ρ H a xs) : RolAt K ((ρ.show l).push D) H a xs := by
  rcases h with ⟨h, n⟩ | h
  · exact .inl ⟨h, n.own hD hl⟩
  · exact .inr h
mutual
theorem Rep.own {D : Addr} {l : List Addr} (hD : D ∈ ρ.no) (hl : ∀ b ∈ l, b ∈ ρ.no) : ∀ {d : Mu.D} {v : V}, Rep K mg ρ H d v → Rep K mg ((ρ.show l).push D) H d v
  | _, _, .non => .non
  | _, _, .bl b => .bl b
  | _, _, .int i => .int i
  | _, _, .str x => .str x
  | _, _, .ty n => .ty n
  | _, _, .fn h => .fn h
  | _, _, .tup t r => .tup (t.own hD hl) (RepL.own hD hl r)
  | _, _, .lst t r => .lst ⟨t.1, t.2.own hD hl⟩ (RepL.own hD hl r)
  | _, _, .rol t r => .rol (t.own hD hl) (RepL.own hD hl r)
  | _, _, .ref h => .ref (by
    show (ρ.ix ++ [D])[_]? = _
    rw [List.getElem?_append_left (List.getElem?_eq_some_iff.mp h).1]
    exact h)
theorem RepL.own {D : Addr} {l : List Addr} (hD : D ∈ ρ.no) (hl : ∀ b ∈ l, b ∈ ρ.no) : ∀ {ds : List Mu.D} {vs : List V}, RepL K mg ρ H ds vs → RepL K mg ((ρ.show l).push D) H ds vs
  | _, _, .nil => .nil
  | _, _, .cons h t => .cons (Rep.own hD hl h) (RepL.own hD hl t)
end
theorem Wd.own {D : Addr} {l : List Addr} {ds : List Mu.D} {vs : List V} (w : Wd K mg ρ st H) (hD : D ∈ ρ.no) (hl : ∀ b ∈ l, b ∈ ρ.no) (hn : D ∉ l) (e : H D = some (.lst vs)) (r : RepL K mg ρ H ds vs) : Wd K mg ((ρ.show l).push D) (st ++ [.lst ds]) H := by
  refine ⟨by simp [Rho.push, Rho.show, w.len], ?_, fun i a u h1 h2 => ?_, fun a m => ⟨(w.pv a (hl a m)).1, ?_⟩⟩
  · show (ρ.ix ++ [D]).Nodup
    rw [List.nodup_append]
    refine ⟨w.nd, by simp, fun a ha b hb => ?_⟩
    have : b = D := by simpa using hb
    subst this
    intro e
    subst e
    exact (w.pv _ hD).2 ha
  · have h1 : (ρ.ix ++ [D])[i]? = some a := h1
    by_cases hi : i < ρ.ix.length
    · rw [List.getElem?_append_left hi] at h1
      rw [List.getElem?_append_left (by rw [← w.len]; exact hi)] at h2
      have q := w.ob i a u h1 h2
      cases u with
      | lst es =>
        obtain ⟨xs, e, r⟩ := q
        exact ⟨xs, e, r.own hD hl⟩
    · have ei : i = ρ.ix.length := by
        have := (List.getElem?_eq_some_iff.mp h1).1
        simp at this
        omega
      subst ei
      rw [List.getElem?_append_right (Nat.le_refl _)] at h1
      rw [w.len, List.getElem?_append_right (Nat.le_refl _)] at h2
      simp at h1 h2
      subst h1
      subst h2
      exact ⟨vs, e, r.own hD hl⟩
  · show a ∉ ρ.ix ++ [D]
    intro z
    rcases List.mem_append.mp z with z | z
    · exact (w.pv a (hl a m)).2 z
    · have e : a = D := by simpa using z
      exact hn (by rw [← e]; exact m)
end

/-! ### what is wanted behind a step -/
def FsRep (K : PySem.W.Frag) (mg : Str → Option Value) (ρ : Rho) (H : Hp) : List (Str × D) → List (Str × V) → Prop
  | [], [] => True
  | (x, d) :: r, (y, v) :: q => x = y ∧ Rep K mg ρ H d v ∧ FsRep K mg ρ H r q
  | _, _ => False
/-- an exception of the class c that keeps fs -/
def ExR (K : PySem.W.Frag) (mg : Str → Option Value) (ρ : Rho) (H : Hp) (c : Str) (fs : List (Str × D)) (cls : Value) (dd : Option Addr) : Prop :=
  ∃ C, mg c = some (.ref C) ∧ cls = .ref C ∧ (fs = [] ∨ ∃ a vs, dd = some a ∧ H a = some (.xd vs) ∧ Out ρ a ∧ FsRep K mg ρ H fs vs)

section
variable {α β γ δ : Type}
def Post (K : PySem.W.Frag) (mg : Str → Option Value) (W : WX) (σ : St) (ρ : Rho) (H : Hp) (R : Rho → Hp → α → β → Prop) (r : Res α) (Q : β → Hp → Prop) : Prop :=
  match r with
  | .ok d st' => ∀ v H' ρ', Ext ρ H ρ' H' → Wd K mg ρ' st' H' → R ρ' H' d v → Q v H'
  | .exc c fs st' => ∀ cls dd H' ρ', Ext ρ H ρ' H' → Wd K mg ρ' st' H' → ExR K mg ρ' H' c fs cls dd → W cls dd σ H'
  | .stuck => False
/-- the reading of something that the interpreter runs -/
def Rdg (K : PySem.W.Frag) (mg : Str → Option Value) (W : WX) (R : Rho → Hp → α → β → Prop) (f : Env → Sto → Res α) : St → Hp → (β → Hp → Prop) → Prop :=
  fun σ H Q => ∃ ρ env st, EnvRep K mg ρ H env σ ∧ Wd K mg ρ st H ∧ Post K mg W σ ρ H R (f env st) Q
variable {K : PySem.W.Frag} {mg : Str → Option Value} {W : WX} {σ : St} {ρ ρ' : Rho} {H H' : Hp} {R : Rho → Hp → α → β → Prop} {R' : Rho → Hp → γ → δ → Prop} {st : Sto} {env : Env}
theorem Post.ext {r : Res α} {Q : β → Hp → Prop} (e : Ext ρ H ρ' H') (h : Post K mg W σ ρ H R r Q) : Post K mg W σ ρ' H' R r Q := by
  cases r with
  | ok d st => exact fun v H2 ρ2 e2 => h v H2 ρ2 (e.trans e2)
  | exc c fs st => exact fun c d H2 ρ2 e2 => h c d H2 ρ2 (e.trans e2)
  | stuck => exact h
theorem Post.ok {a : α} {Q : β → Hp → Prop} {v : β} (h : Post K mg W σ ρ H R (.ok a st) Q) (e : Ext ρ H ρ' H') (w : Wd K mg ρ' st H') (r : R ρ' H' a v) : Q v H' := h v H' ρ' e w r
theorem Post.here {a : α} {Q : β → Hp → Prop} {v : β} (h : Post K mg W σ ρ H R (.ok a st) Q) (w : Wd K mg ρ st H) (r : R ρ H a v) : Q v H := h v H ρ (Ext.refl ρ H) w r
/-- one step, then the rest -/
theorem Rdg.bind {f : Env → Sto → Res α} {g : α → Sto → Res γ} {Q : δ → Hp → Prop} (er : EnvRep K mg ρ H env σ) (w : Wd K mg ρ st H) (h : Post K mg W σ ρ H R' ((f env st).bind g) Q) :
    Rdg K mg W R f σ H fun v H1 => ∃ ρ1 a st1, Ext ρ H ρ1 H1 ∧ EnvRep K mg ρ1 H1 env σ ∧ Wd K mg ρ1 st1 H1 ∧ R ρ1 H1 a v ∧ Post K mg W σ ρ1 H1 R' (g a st1) Q := by
  refine ⟨ρ, env, st, er, w, ?_⟩
  cases e : f env st with
  | ok d st' =>
    rw [e] at h
    exact fun v H1 ρ1 e1 w1 r1 => ⟨ρ1, d, st', e1, er.ext e1, w1, r1, Post.ext e1 h⟩
  | exc c fs st' =>
    rw [e] at h
    exact h
  | stuck =>
    rw [e] at h
    exact h
theorem Rdg.of {f : Env → Sto → Res α} {Q : β → Hp → Prop} (er : EnvRep K mg ρ H env σ) (w : Wd K mg ρ st H) (h : Post K mg W σ ρ H R (f env st) Q) : Rdg K mg W R f σ H Q := ⟨ρ, env, st, er, w, h⟩
theorem Post.mono {r : Res α} {Q Q' : β → Hp → Prop} (h : Post K mg W σ ρ H R r Q) (hq : ∀ v H', Q v H' → Q' v H') : Post K mg W σ ρ H R r Q' := by
  cases r with
  | ok d st => exact fun v H2 ρ2 e2 w r => hq _ _ (h v H2 ρ2 e2 w r)
  | exc c fs st => exact h
  | stuck => exact h
end

def PostS (K : PySem.W.Frag) (mg : Str → Option Value) (W : WX) (ρ : Rho) (H : Hp) (r : SR) (D : Ends) : Prop :=
  match r with
  | .next env st => ∀ σ' H' ρ', Ext ρ H ρ' H' → Wd K mg ρ' st H' → EnvRep K mg ρ' H' env σ' → D.nx σ' H'
  | .ret d st => ∀ v H' ρ', Ext ρ H ρ' H' → Wd K mg ρ' st H' → Rep K mg ρ' H' d v → D.rt v H'
  | .brk env st => ∀ σ' H' ρ', Ext ρ H ρ' H' → Wd K mg ρ' st H' → EnvRep K mg ρ' H' env σ' → D.bk σ' H'
  | .cont env st => ∀ σ' H' ρ', Ext ρ H ρ' H' → Wd K mg ρ' st H' → EnvRep K mg ρ' H' env σ' → D.ct σ' H'
  | .exc c fs env st => ∀ cls dd σ' H' ρ', Ext ρ H ρ' H' → Wd K mg ρ' st H' → EnvRep K mg ρ' H' env σ' → ExR K mg ρ' H' c fs cls dd → W cls dd σ' H'
  | .stuck => False
def RdS (K : PySem.W.Frag) (mg : Str → Option Value) (W : WX) (f : Env → Sto → SR) : TS := fun D σ H => ∃ ρ env st, EnvRep K mg ρ H env σ ∧ Wd K mg ρ st H ∧ PostS K mg W ρ H (f env st) D
section
variable {α β : Type} {K : PySem.W.Frag} {mg : Str → Option Value} {W : WX} {σ : St} {ρ ρ' : Rho} {H H' : Hp} {R : Rho → Hp → α → β → Prop} {st : Sto} {env : Env} {D : Ends}
theorem PostS.ext {r : SR} (e : Ext ρ H ρ' H') (h : PostS K mg W ρ H r D) : PostS K mg W ρ' H' r D := by
  cases r with
  | next env st => exact fun σ2 H2 ρ2 e2 => h σ2 H2 ρ2 (e.trans e2)
  | ret d st => exact fun v H2 ρ2 e2 => h v H2 ρ2 (e.trans e2)
  | brk env st => exact fun σ2 H2 ρ2 e2 => h σ2 H2 ρ2 (e.trans e2)
  | cont env st => exact fun σ2 H2 ρ2 e2 => h σ2 H2 ρ2 (e.trans e2)
  | exc c fs env st => exact fun c d σ2 H2 ρ2 e2 => h c d σ2 H2 ρ2 (e.trans e2)
  | stuck => exact h
theorem RdS.of {f : Env → Sto → SR} (er : EnvRep K mg ρ H env σ) (w : Wd K mg ρ st H) (h : PostS K mg W ρ H (f env st) D) : RdS K mg W f D σ H := ⟨ρ, env, st, er, w, h⟩
/-- an expression ahead of what a statement does with it -/
theorem Rdg.run {f : Env → Sto → Res α} {g : α → Sto → SR} (er : EnvRep K mg ρ H env σ) (w : Wd K mg ρ st H) (h : PostS K mg W ρ H ((f env st).run env g) D) :
    Rdg K mg W R f σ H fun v H1 => ∃ ρ1 a st1, Ext ρ H ρ1 H1 ∧ EnvRep K mg ρ1 H1 env σ ∧ Wd K mg ρ1 st1 H1 ∧ R ρ1 H1 a v ∧ PostS K mg W ρ1 H1 (g a st1) D := by
  refine ⟨ρ, env, st, er, w, ?_⟩
  cases e : f env st with
  | ok d st' =>
    rw [e] at h
    exact fun v H1 ρ1 e1 w1 r1 => ⟨ρ1, d, st', e1, er.ext e1, w1, r1, PostS.ext e1 h⟩
  | exc c fs st' =>
    rw [e] at h
    exact fun cls dd H1 ρ1 e1 w1 x => h cls dd σ H1 ρ1 e1 w1 (er.ext e1) x
  | stuck =>
    rw [e] at h
    exact h
end
end Mu

set_option linter.all false
set_option Elab.async false
/-! Operators, comparisons, truth, places, built-ins: what the interpreter says of data is what happens. -/
namespace Mu
open PySem PySem.Spec PyProof.Rows L2

/-- what the context must bear beside the hand layer's own facts -/
structure Ctx (X : Cx) : Prop where
  calm : X.calm = true
  gd : X.A.guards = some []
  seer : X.base.NoSeer
  tree : X.prog.given.tree = none
  plain : ∃ env l, X.A.frames = some (env :: l) ∧ env.scope.isGenerator = false ∧ env.scope.isCoroutine = false ∧ env.builtins = builtinsNs ∧ env.globals = mainGlobals

section
variable {X : Cx} {ρ : Rho} {H : Hp}
mutual
theorem Rep.dp {K : PySem.W.Frag} {mg : Str → Option Value} : ∀ {d : D} {v : V}, Rep K mg ρ H d v → d.plain = true → Dp K H v d.py
  | _, _, .non, _ => by unfold D.py; exact .non
  | _, _, .bl b, _ => by unfold D.py; exact .bl b
  | _, _, .int i, _ => by unfold D.py; exact .int i
  | _, _, .str x, _ => by unfold D.py; exact .str x
  | _, _, .tup t r, h => by unfold D.py; exact .tup t.sq (RepL.dp r (by unfold D.plain at h; exact h))
  | _, _, .lst t r, h => by unfold D.py; exact .lst t.sq (RepL.dp r (by unfold D.plain at h; exact h))
  | _, _, .rol _ _, h => by unfold D.plain at h; cases h
  | _, _, .ty _, h => by unfold D.plain at h; cases h
  | _, _, .fn _, h => by unfold D.plain at h; cases h
  | _, _, .ref _, h => by unfold D.plain at h; cases h
theorem RepL.dp {K : PySem.W.Frag} {mg : Str → Option Value} : ∀ {ds : List D} {vs : List V}, RepL K mg ρ H ds vs → D.plains ds = true → DpAll K H vs (D.pys ds)
  | _, _, .nil, _ => by unfold D.pys; exact .nil
  | _, _, .cons h t, q => by
    unfold D.plains at q
    rw [Bool.and_eq_true] at q
    unfold D.pys
    exact .cons (Rep.dp h q.1) (RepL.dp t q.2)
end
theorem mulOk_ok {i j : Int} (h : mulOk i j = true) : IntMulOk i j := by
  have h3 := of_decide_eq_true h
  have b : ∀ x : Int, Builtin.Int.intBits x ≤ x.natAbs.log2 + 1 := fun x => by
    unfold Builtin.Int.intBits
    split <;> omega
  have h1 := b i
  have h2 := b j
  unfold IntMulOk
  intro z
  have z2 := (Bool.and_eq_true_iff.mp z).2
  unfold Builtin.Int.intTooBig at z2
  have z3 := of_decide_eq_true z2
  have e : bitsLine = 134217728 := by decide
  omega
theorem op_mulX : OpR X (binaryOp .Mult) (rI (fun i j => mulOk i j = true) fun i j => .int (i * j)) := opI fun _ _ _ _ _ _ _ hc q => mul_int q (mulOk_ok hc)
theorem op_powX : OpR X (binaryOp .Pow) (rI (fun i j => powOk i j = true) fun i j => .int (i ^ j.toNat)) := opI fun _ _ _ _ _ _ _ hc q => by
  unfold powOk at hc
  rw [Bool.and_eq_true] at hc
  exact PyProof.Rows.pow_int (of_decide_eq_true hc.1) (of_decide_eq_true hc.2) q
theorem Ctx.pylong {σ : L2.St} {pins : List (Addr × Obj)} {s : Shared} (G : Ctx X) {k : Nat} (hr : Room k X.A) (hk : 40 ≤ k) (I : Inv X pins σ H s) : PySem.PylongRoom (model X.prog X.w) X.A s := by
  obtain ⟨env, l, h1, h2, h3, h4, h5⟩ := G.plain
  have hd := hr.dp
  exact PySem.PylongRoom.of I.nolimit (by show X.A.depth + 100 < _; omega) (PySem.SeerAt.of (G.seer.keeps I.bk) G.tree h1 h2 h3 h4 h5)
theorem op_fdivX (G : Ctx X) {k : Nat} (hr : Room k X.A) (hk : 40 ≤ k) : OpR X (binaryOp .FloorDiv) (rI (fun _ j => j ≠ 0) fun i j => .int (i.fdiv j)) := by
  intro pins s σ H x y v u Q I rx ry h
  obtain ⟨i, j, rfl, rfl, hc, q⟩ := h
  obtain ⟨t, rfl⟩ := rx
  obtain ⟨t', rfl⟩ := ry
  exact PyProof.Rows.floordiv_int hc ⟨.int (i.fdiv j), H, I.tok _, ⟨_, rfl⟩, q⟩ (.inr (G.pylong hr hk I))

/-- the reading of an operation that makes data -/
def rBin (K : PySem.W.Frag) (mg : Str → Option Value) (f : D → D → Option D) : R2 := fun x y H Q =>
  ∃ ρ st d e z, Wd K mg ρ st H ∧ Rep K mg ρ H d x ∧ Rep K mg ρ H e y ∧ f d e = some z ∧ ∀ v H', Ext ρ H ρ H' → Wd K mg ρ st H' → Rep K mg ρ H' z v → Q v H'
theorem op_bin (G : Ctx X) {k : Nat} (hr : Room k X.A) (o : Operator) : OpR X (binaryOp o) (rBin X.K X.mg (binD k o)) := by
  intro pins s σ H x y v u Q I rx ry h
  obtain ⟨ρ, st, d, e, z, w, r1, r2, hz, q⟩ := h
  cases o with
  | Add =>
    unfold binD at hz
    cases r1 with
    | int i =>
      cases r2 with
      | int j => cases hz; exact op_add pins s σ H _ _ v u Q I rx ry ⟨i, j, rfl, rfl, q _ _ (Ext.refl _ _) w (.int _)⟩
      | _ => cases hz
    | str a =>
      cases r2 with
      | str b =>
        simp only at hz
        split at hz
        · rename_i hl
          cases hz
          exact op_add_str pins s σ H _ _ v u Q I rx ry ⟨a, b, rfl, rfl, hl, q _ _ (Ext.refl _ _) w (.str _)⟩
        · cases hz
      | _ => cases hz
    | @tup a xs ds t r =>
      cases r2 with
      | @tup b ys es t' r' =>
        simp only at hz
        split at hz
        · cases hz
        · rename_i hn
          split at hz
          · rename_i hl
            cases hz
            have l1 := r.length
            have l2 := r'.length
            have n1 : xs ≠ [] := fun e => hn (by subst e; cases r; simp)
            have n2 : ys ≠ [] := fun e => hn (by subst e; cases r'; simp)
            refine op_catA pins s σ H _ _ v u Q I rx ry ⟨a, b, xs, ys, rfl, rfl, t.sq, t'.sq, by omega, fun e => absurd e n1, fun _ e => absurd e n2, fun _ _ p hp => ?_⟩
            exact q _ _ (Ext.new hp) (w.new hp) (.tup (.inl ⟨.inl upd_same, w.fresh hp⟩) ((r.append r').ext (Ext.new hp)))
          · cases hz
      | _ => cases hz
    | @lst a xs ds t r =>
      cases r2 with
      | @lst b ys es t' r' =>
        simp only at hz
        split at hz
        · rename_i hl
          cases hz
          have l1 := r.length
          have l2 := r'.length
          refine op_cat pins s σ H _ _ v u Q I rx ry ⟨a, b, xs, ys, rfl, rfl, t.1, t'.1, by omega, fun p hp => ?_⟩
          exact q _ _ (Ext.new hp) (w.new hp) (.lst ⟨upd_same, w.fresh hp⟩ ((r.append r').ext (Ext.new hp)))
        · cases hz
      | _ => cases hz
    | _ => cases hz
  | Sub =>
    unfold binD at hz
    cases r1 with
    | int i =>
      cases r2 with
      | int j => cases hz; exact op_sub pins s σ H _ _ v u Q I rx ry ⟨i, j, rfl, rfl, q _ _ (Ext.refl _ _) w (.int _)⟩
      | _ => cases hz
    | _ => cases hz
  | Mult =>
    unfold binD at hz
    cases r1 with
    | int i =>
      cases r2 with
      | int j =>
        simp only at hz
        split at hz
        · rename_i hm
          cases hz
          exact op_mulX pins s σ H _ _ v u Q I rx ry ⟨i, j, rfl, rfl, hm, q _ _ (Ext.refl _ _) w (.int _)⟩
        · cases hz
      | _ => cases hz
    | _ => cases hz
  | FloorDiv =>
    unfold binD at hz
    cases r1 with
    | int i =>
      cases r2 with
      | int j =>
        simp only at hz
        split at hz
        · cases hz
        · rename_i hj
          split at hz
          · rename_i hk
            cases hz
            exact op_fdivX G hr hk pins s σ H _ _ v u Q I rx ry ⟨i, j, rfl, rfl, hj, q _ _ (Ext.refl _ _) w (.int _)⟩
          · cases hz
      | _ => cases hz
    | _ => cases hz
  | Mod =>
    unfold binD at hz
    cases r1 with
    | int i =>
      cases r2 with
      | int j =>
        simp only at hz
        split at hz
        · cases hz
        · rename_i hj
          cases hz
          exact op_modN pins s σ H _ _ v u Q I rx ry ⟨i, j, rfl, rfl, hj, q _ _ (Ext.refl _ _) w (.int _)⟩
      | _ => cases hz
    | _ => cases hz
  | Pow =>
    unfold binD at hz
    cases r1 with
    | int i =>
      cases r2 with
      | int j =>
        simp only at hz
        split at hz
        · rename_i hm
          cases hz
          exact op_powX pins s σ H _ _ v u Q I rx ry ⟨i, j, rfl, rfl, hm, q _ _ (Ext.refl _ _) w (.int _)⟩
        · cases hz
      | _ => cases hz
    | _ => cases hz
  | _ => cases hz

/-- the reading of a comparison -/
def rCmp (K : PySem.W.Frag) (mg : Str → Option Value) (f : D → D → Option Bool) : R2 := fun x y H Q =>
  ∃ ρ d e c, Rep K mg ρ H d x ∧ Rep K mg ρ H e y ∧ f d e = some c ∧ Q (.bl c) H
theorem eqD_split {x y : D} {c : Bool} (h : eqD x y = some c) : (∃ a b, x = .str a ∧ y = .str b ∧ c = decide (a = b)) ∨ (x.plain = true ∧ y.plain = true ∧ SeqAt.shaped x.py = true ∧ SeqAt.shaped y.py = true ∧ c = PyData.eqv x.py y.py) := by
  unfold eqD dataOk at h
  split at h
  · cases h
    exact .inl ⟨_, _, rfl, rfl, rfl⟩
  split at h
  · rename_i q
    simp only [Bool.and_eq_true] at q
    cases h
    exact .inr ⟨q.1.1, q.2.1, q.1.2, q.2.2, rfl⟩
  · cases h
theorem dec_strs {a b : Str} : decide (V.str a = V.str b) = decide (a = b) := by simp
theorem op_intC {o : CmpOp} {g : Int → Int → Bool} {f : D → D → Option Bool} (hf : ∀ d e c, f d e = some c → ∃ i j, d = .int i ∧ e = .int j ∧ c = g i j)
    (rule : ∀ (i j : Int) (t u : Tok) (Q : Value → Shared → Prop) (s : Shared), Q (.bool (g i j)) s → wpAny (model X.prog X.w) X.A (compareOp o (.int i t) (.int j u)) Q X.xe s) : OpR X (compareOp o) (rCmp X.K X.mg f) := by
  intro pins s σ H x y v u Q I rx ry h
  obtain ⟨ρ, d, e, c, r1, r2, hc, q⟩ := h
  obtain ⟨i, j, rfl, rfl, rfl⟩ := hf _ _ _ hc
  cases r1
  cases r2
  obtain ⟨t, rfl⟩ := rx
  obtain ⟨t', rfl⟩ := ry
  exact rule i j t t' _ s ⟨.bl _, H, I, rfl, q⟩
theorem isNon_dec {K : PySem.W.Frag} {mg : Str → Option Value} {d : D} {x : V} (r : Rep K mg ρ H d x) : isNon d = decide (x = .non) := by
  cases r <;> simp [isNon]
theorem op_cmp {k : Nat} (hr : Room k X.A) (o : CmpOp) : OpR X (compareOp o) (rCmp X.K X.mg (cmpD o)) := by
  cases o with
  | Eq =>
    intro pins s σ H x y v u Q I rx ry h
    obtain ⟨ρ, d, e, c, r1, r2, hc, q⟩ := h
    rcases eqD_split hc with ⟨a, b, rfl, rfl, rfl⟩ | ⟨p1, p2, s1, s2, rfl⟩
    · cases r1
      cases r2
      exact op_eq pins s σ H _ _ v u Q I rx ry ⟨rfl, by rw [dec_strs]; exact q⟩
    exact op_eqD hr.units pins s σ H x y v u Q I rx ry ⟨_, _, r1.dp p1, r2.dp p2, s1, s2, q⟩
  | NotEq =>
    intro pins s σ H x y v u Q I rx ry h
    obtain ⟨ρ, d, e, c, r1, r2, hc, q⟩ := h
    unfold cmpD at hc
    cases he : eqD d e with
    | none => simp only [he] at hc; cases hc
    | some b =>
      simp only [he, Option.map_some] at hc
      cases hc
      rcases eqD_split he with ⟨a, b, rfl, rfl, rfl⟩ | ⟨p1, p2, s1, s2, rfl⟩
      · cases r1
        cases r2
        exact op_ne pins s σ H _ _ v u Q I rx ry ⟨rfl, by rw [dec_strs]; exact q⟩
      exact op_neD hr.units pins s σ H x y v u Q I rx ry ⟨_, _, r1.dp p1, r2.dp p2, s1, s2, q⟩
  | Lt => exact op_intC (g := fun i j => decide (i < j)) (fun d e c h => by cases d <;> cases e <;> simp only [cmpD] at h <;> first | (cases h; exact ⟨_, _, rfl, rfl, rfl⟩) | cases h) fun _ _ _ _ _ _ h => lt_int h
  | LtE => exact op_intC (g := fun i j => decide (i ≤ j)) (fun d e c h => by cases d <;> cases e <;> simp only [cmpD] at h <;> first | (cases h; exact ⟨_, _, rfl, rfl, rfl⟩) | cases h) fun _ _ _ _ _ _ h => le_int h
  | Gt => exact op_intC (g := fun i j => decide (j < i)) (fun d e c h => by cases d <;> cases e <;> simp only [cmpD] at h <;> first | (cases h; exact ⟨_, _, rfl, rfl, rfl⟩) | cases h) fun _ _ _ _ _ _ h => gt_int h
  | GtE => exact op_intC (g := fun i j => decide (j ≤ i)) (fun d e c h => by cases d <;> cases e <;> simp only [cmpD] at h <;> first | (cases h; exact ⟨_, _, rfl, rfl, rfl⟩) | cases h) fun _ _ _ _ _ _ h => ge_int h
  | Is =>
    intro pins s σ H x y v u Q I rx ry h
    obtain ⟨ρ, d, e, c, r1, r2, hc, q⟩ := h
    unfold cmpD at hc
    cases r2 <;> simp only at hc <;> try cases hc
    exact op_isN pins s σ H x _ v u Q I rx ry ⟨rfl, by rw [← isNon_dec r1]; exact q⟩
  | IsNot =>
    intro pins s σ H x y v u Q I rx ry h
    obtain ⟨ρ, d, e, c, r1, r2, hc, q⟩ := h
    unfold cmpD at hc
    cases r2 <;> simp only at hc <;> try cases hc
    exact op_notN pins s σ H x _ v u Q I rx ry ⟨rfl, by rw [← isNon_dec r1]; exact q⟩
  | _ =>
    intro pins s σ H x y v u Q I rx ry h
    obtain ⟨ρ, d, e, c, r1, r2, hc, q⟩ := h
    cases hc
end
end Mu

set_option linter.all false
set_option Elab.async false
/-! Truth, places, slices, built-in functions, what is walked. -/
namespace Mu
open PySem PySem.Spec PyProof.Rows L2

section
variable {X : Cx} {K : PySem.W.Frag} {mg : Str → Option Value} {ρ : Rho} {H : Hp} {st : Sto}
/-- a sequence of the data is one of the heap -/
theorem seq_of {d : D} {x : V} {ds : List D} (w : Wd K mg ρ st H) (r : Rep K mg ρ H d x) (h : seqD st d = some ds) : ∃ a xs, x = .ref a ∧ (SqL K H a xs ∨ SqT K H a xs) ∧ RepL K mg ρ H ds xs := by
  cases r with
  | @tup a xs es t r => cases h; exact ⟨a, xs, rfl, .inr t.sq, r⟩
  | @lst a xs es t r => cases h; exact ⟨a, xs, rfl, .inl t.sq, r⟩
  | @rol a xs es t r => cases h; exact ⟨a, xs, rfl, .inl t.sq, r⟩
  | @ref i a hi =>
    obtain ⟨o, ho, ro⟩ := w.get hi
    cases o with
    | lst es =>
      have e : seqD st (.ref i) = some es := by simp [seqD, Sto.items, ho]
      rw [e] at h
      cases h
      obtain ⟨xs, hx, r⟩ := ro
      exact ⟨a, xs, rfl, .inl (SqL.of hx), r⟩
  | _ => cases h
/-- a list of the data is one of the heap -/
theorem items_of {d : D} {x : V} {ds : List D} (w : Wd K mg ρ st H) (r : Rep K mg ρ H d x) (h : Sto.items st d = some ds) : ∃ a xs, x = .ref a ∧ SqL K H a xs ∧ RepL K mg ρ H ds xs := by
  cases r with
  | @lst a xs es t r => cases h; exact ⟨a, xs, rfl, t.sq, r⟩
  | @ref i a hi =>
    obtain ⟨o, ho, ro⟩ := w.get hi
    cases o with
    | lst es =>
      have e : Sto.items st (.ref i) = some es := by simp [Sto.items, ho]
      rw [e] at h
      cases h
      obtain ⟨xs, hx, r⟩ := ro
      exact ⟨a, xs, rfl, SqL.of hx, r⟩
  | _ => cases h
theorem RepL.isEmpty {ds : List D} {vs : List V} (r : RepL K mg ρ H ds vs) : ds.isEmpty = vs.isEmpty := by cases r <;> rfl
theorem truth_of {d : D} {x : V} {c : Bool} (w : Wd K mg ρ st H) (r : Rep K mg ρ H d x) (h : truth st d = some c) : TruV K x H c := by
  cases r with
  | non => cases h; rfl
  | bl b => cases h; rfl
  | int i => cases h; rfl
  | str y =>
    have h' : (if y.length ≤ sizeLine then some ((y.length : Int) != 0) else none) = some c := h
    split at h'
    · rename_i hl; cases h'; exact ⟨hl, rfl⟩
    · cases h'
  | @tup a xs es t r => cases h; exact .inr (.inl ⟨xs, t.sq, by show (!es.isEmpty) = _; rw [r.isEmpty]⟩)
  | @lst a xs es t r => cases h; exact .inl ⟨xs, t.sq, by show (!es.isEmpty) = _; rw [r.isEmpty]⟩
  | @ref i a hi =>
    have h' : (Sto.items st (.ref i)).map (fun xs => !xs.isEmpty) = some c := h
    cases e : Sto.items st (.ref i) with
    | none => rw [e] at h'; cases h'
    | some es =>
      rw [e] at h'
      cases h'
      obtain ⟨b, xs, eb, hx, r⟩ := items_of w (.ref hi) e
      cases eb
      exact .inl ⟨xs, hx, by show (!es.isEmpty) = _; rw [r.isEmpty]⟩
  | _ => cases h
theorem atD_at {α : Type} {xs : List α} {i : Int} {x : α} (h : atD xs i = some x) : atI xs i = some x := by
  unfold atD at h
  unfold atI ixN
  by_cases h0 : 0 ≤ i
  · rw [if_pos h0] at h ⊢
    have := (List.getElem?_eq_some_iff.mp h).1
    rw [if_pos (by omega)]
    exact h
  · rw [if_neg h0] at h ⊢
    by_cases h1 : -(xs.length : Int) ≤ i
    · rw [if_pos h1] at h ⊢
      exact h
    · rw [if_neg h1] at h
      cases h
theorem RepL.at_ {ds : List D} {vs : List V} {i : Int} {d : D} (r : RepL K mg ρ H ds vs) (h : atD ds i = some d) : ∃ v, atI vs i = some v ∧ Rep K mg ρ H d v := by
  have hl := r.length
  unfold atD at h
  by_cases h0 : 0 ≤ i
  · rw [if_pos h0] at h
    obtain ⟨v, h1, h2⟩ := r.get h
    exact ⟨v, atD_at (by unfold atD; rw [if_pos h0]; exact h1), h2⟩
  · rw [if_neg h0] at h
    by_cases h1 : -(ds.length : Int) ≤ i
    · rw [if_pos h1] at h
      obtain ⟨v, h3, h2⟩ := r.get h
      exact ⟨v, atD_at (by unfold atD; rw [if_neg h0, if_pos (by rw [← hl]; exact h1), ← hl]; exact h3), h2⟩
    · rw [if_neg h1] at h
      cases h
theorem idx_of {d j : D} {x y : V} {z : D} {Q : VK} (w : Wd K mg ρ st H) (r : Rep K mg ρ H d x) (rj : Rep K mg ρ H j y) (h : idxD st d j = some z) (q : ∀ v, Rep K mg ρ H z v → Q v H) : rIx K x y H Q := by
  cases rj with
  | int i =>
    have main : ∀ {ds : List D}, seqD st d = some ds → atD ds i = some z → rIx K x (.int i) H Q := fun {ds} e ha => by
      obtain ⟨a, xs, rfl, hs, rs⟩ := seq_of w r e
      obtain ⟨v, hv, rv⟩ := rs.at_ ha
      rcases hs with hs | hs
      · exact .inl ⟨a, xs, i, v, rfl, rfl, hs, hv, q v rv⟩
      · exact .inr (.inl ⟨a, xs, i, v, rfl, rfl, hs, hv, q v rv⟩)
    have gen : (seqD st d).bind (fun xs => atD xs i) = some z → rIx K x (.int i) H Q := fun e => by
      cases e2 : seqD st d with
      | none => rw [e2] at e; cases e
      | some ds => rw [e2] at e; exact main e2 e
    cases d with
    | str s =>
      cases r
      unfold idxD at h
      simp only at h
      split at h
      · rename_i hl
        cases e : atD s.cps.toList i with
        | none => rw [e] at h; cases h
        | some c =>
          rw [e] at h
          cases h
          exact .inr (.inr ⟨s, i, c, rfl, rfl, hl, atD_at e, q _ (.str _)⟩)
      · cases h
    | _ => exact gen h
  | _ => cases h

/-! ### built-ins -/
def rBlt (K : PySem.W.Frag) (mg : Str → Option Value) (f : List D → Sto → Option D) : List V → Hp → VK → Prop := fun xs H Q =>
  ∃ ρ st ds z, Wd K mg ρ st H ∧ RepL K mg ρ H ds xs ∧ f ds st = some z ∧ ∀ v H', Ext ρ H ρ H' → Wd K mg ρ st H' → Rep K mg ρ H' z v → Q v H'
theorem repL1 {d : D} {xs : List V} (r : RepL K mg ρ H [d] xs) : ∃ x, xs = [x] ∧ Rep K mg ρ H d x := by
  cases r with
  | cons a b => cases b; exact ⟨_, rfl, a⟩
theorem repL2 {d e : D} {xs : List V} (r : RepL K mg ρ H [d, e] xs) : ∃ x y, xs = [x, y] ∧ Rep K mg ρ H d x ∧ Rep K mg ρ H e y := by
  cases r with
  | cons a b =>
    cases b with
    | cons c b => cases b; exact ⟨_, _, rfl, a, c⟩

theorem blt_len : CallR X (.builtin "len") (rBlt X.K X.mg lenD) := by
  intro pins s σ H xs us Q I r h
  obtain ⟨ρ, st, ds, z, w, rs, hz, q⟩ := h
  have gen : ∀ d, ds = [d] → (seqD st d).map (fun ys => D.int ys.length) = some z → wpAny (model X.prog X.w) X.A (call (.builtin "len") us) (EP X pins σ Q) X.xe s := fun d ed e => by
    subst ed
    obtain ⟨x, rfl, rd⟩ := repL1 rs
    cases e2 : seqD st d with
    | none => rw [e2] at e; cases e
    | some es =>
      rw [e2] at e
      cases e
      obtain ⟨a, ys, rfl, hs, r2⟩ := seq_of w rd e2
      have hl := r2.length
      refine call_len pins s σ H _ us Q I r ⟨_, ys.length, rfl, ?_, ?_⟩
      · rcases hs with hs | hs
        · exact .inl ⟨ys, hs, rfl⟩
        · exact .inr ⟨ys, hs, rfl⟩
      · rw [← hl]
        exact q _ _ (Ext.refl _ _) w (.int _)
  unfold lenD at hz
  split at hz
  · rename_i x
    obtain ⟨y, rfl, rd⟩ := repL1 rs
    cases rd
    split at hz
    · rename_i hl
      cases hz
      exact call_len pins s σ H _ us Q I r ⟨_, x.length, rfl, ⟨hl, rfl⟩, q _ _ (Ext.refl _ _) w (.int _)⟩
    · cases hz
  · exact gen _ rfl hz
  · cases hz
theorem blt_abs : CallR X (.builtin "abs") (rBlt X.K X.mg absD) := by
  intro pins s σ H xs us Q I r h
  obtain ⟨ρ, st, ds, z, w, rs, hz, q⟩ := h
  unfold absD at hz
  split at hz
  · cases hz
    obtain ⟨x, rfl, rd⟩ := repL1 rs
    cases rd
    exact call_abs pins s σ H _ us Q I r ⟨_, rfl, q _ _ (Ext.refl _ _) w (.int _)⟩
  · cases hz
theorem blt_min (G : Ctx X) : CallR X (.builtin "min") (rBlt X.K X.mg minD) := by
  intro pins s σ H xs us Q I r h
  obtain ⟨ρ, st, ds, z, w, rs, hz, q⟩ := h
  unfold minD at hz
  split at hz
  · cases hz
    obtain ⟨x, y, rfl, rd, re⟩ := repL2 rs
    cases rd
    cases re
    exact call_min2 G.calm pins s σ H _ us Q I r ⟨_, _, rfl, q _ _ (Ext.refl _ _) w (.int _)⟩
  · cases hz
theorem blt_max (G : Ctx X) : CallR X (.builtin "max") (rBlt X.K X.mg maxD) := by
  intro pins s σ H xs us Q I r h
  obtain ⟨ρ, st, ds, z, w, rs, hz, q⟩ := h
  unfold maxD at hz
  split at hz
  · cases hz
    obtain ⟨x, y, rfl, rd, re⟩ := repL2 rs
    cases rd
    cases re
    exact call_max2 G.calm pins s σ H _ us Q I r ⟨_, _, rfl, q _ _ (Ext.refl _ _) w (.int _)⟩
  · cases hz
theorem blt_int : CallR X (.type "int") (rBlt X.K X.mg intD) := by
  intro pins s σ H xs us Q I r h
  obtain ⟨ρ, st, ds, z, w, rs, hz, q⟩ := h
  unfold intD at hz
  split at hz
  · cases hz
    obtain ⟨x, rfl, rd⟩ := repL1 rs
    cases rd
    exact call_int1 pins s σ H _ us Q I r (.inl ⟨_, rfl, q _ _ (Ext.refl _ _) w (.int _)⟩)
  · cases hz
    obtain ⟨x, rfl, rd⟩ := repL1 rs
    cases rd
    exact call_int1 pins s σ H _ us Q I r (.inr ⟨_, rfl, q _ _ (Ext.refl _ _) w (.int _)⟩)
  · cases hz
theorem blt_tuple : CallR X (.type "tuple") (rBlt X.K X.mg tupleD) := by
  intro pins s σ H xs us Q I r h
  obtain ⟨ρ, st, ds, z, w, rs, hz, q⟩ := h
  unfold tupleD at hz
  split at hz
  · cases hz
    obtain ⟨x, rfl, rd⟩ := repL1 rs
    obtain ⟨a, xs, ea, ha⟩ : ∃ a xs, x = .ref a ∧ TupAt X.K ρ H a xs := by cases rd with | tup t _ => exact ⟨_, _, rfl, t⟩
    subst ea
    exact call_tuple_of pins s σ H _ us Q I r ⟨_, _, rfl, .inr ⟨ha.sq, q _ _ (Ext.refl _ _) w rd⟩⟩
  · rename_i d _
    obtain ⟨x, rfl, rd⟩ := repL1 rs
    cases e : Sto.items st d with
    | none => rw [e] at hz; cases hz
    | some es =>
      rw [e] at hz
      cases hz
      obtain ⟨a, ys, rfl, hs, r2⟩ := items_of w rd e
      exact call_tuple_of pins s σ H _ us Q I r ⟨a, ys, rfl, .inl ⟨hs, fun l hl => q _ _ (Ext.new hl) (w.new hl) (.tup (.inl ⟨.inl upd_same, w.fresh hl⟩) (r2.ext (Ext.new hl)))⟩⟩
  · cases hz
theorem blt_list : CallR X (.type "list") (rBlt X.K X.mg listD) := by
  intro pins s σ H xs us Q I r h
  obtain ⟨ρ, st, ds, z, w, rs, hz, q⟩ := h
  unfold listD at hz
  split at hz
  · rename_i d
    obtain ⟨x, rfl, rd⟩ := repL1 rs
    cases e : seqD st d with
    | none => rw [e] at hz; cases hz
    | some es =>
      rw [e] at hz
      cases hz
      obtain ⟨a, ys, rfl, hs, r2⟩ := seq_of w rd e
      exact call_list_of pins s σ H _ us Q I r ⟨a, ys, rfl, hs, fun l hl => q _ _ (Ext.new hl) (w.new hl) (.lst ⟨upd_same, w.fresh hl⟩ (r2.ext (Ext.new hl)))⟩
  · cases hz
theorem allB_of : ∀ {ds : List D} {vs : List V} {b : Bool}, RepL K mg ρ H ds vs → allB ds = some b → ∃ bs : List Bool, vs = bs.map V.bl ∧ b = bs.all id
  | [], _, _, r, h => by
    cases r
    cases h
    exact ⟨[], rfl, rfl⟩
  | d :: ds, _, b, r, h => by
    cases r with
    | @cons _ v _ vs r1 r2 =>
      cases d with
      | bl c =>
        have h' : (allB ds).map (c && ·) = some b := h
        cases e : allB ds with
        | none => rw [e] at h'; cases h'
        | some b' =>
          rw [e] at h'
          cases h'
          obtain ⟨bs, rfl, rfl⟩ := allB_of r2 e
          cases r1
          exact ⟨c :: bs, rfl, by simp⟩
      | _ => cases h
theorem blt_all (G : Ctx X) : CallR X (.builtin "all") (rBlt X.K X.mg allD) := by
  intro pins s σ H xs us Q I r h
  obtain ⟨ρ, st, ds, z, w, rs, hz, q⟩ := h
  unfold allD at hz
  split at hz
  · rename_i d
    obtain ⟨x, rfl, rd⟩ := repL1 rs
    cases e : Sto.items st d with
    | none => rw [e] at hz; cases hz
    | some es =>
      rw [e] at hz
      cases e2 : allB es with
      | none => simp only [Option.bind_some, e2, Option.map_none] at hz; cases hz
      | some b =>
        simp only [Option.bind_some, e2, Option.map_some] at hz
        cases hz
        obtain ⟨a, ys, rfl, hs, r2⟩ := items_of w rd e
        obtain ⟨bs, rfl, rfl⟩ := allB_of r2 e2
        exact cr_all G.calm pins s σ H _ us Q I r ⟨a, bs, rfl, hs, q _ _ (Ext.refl _ _) w (.bl _)⟩
  · cases hz
theorem kit_sub {a b : String} {r : Bool} (h : subTy a b = some r) (ha : a = "NoneType" ∨ a = "bool" ∨ a = "int" ∨ a = "str" ∨ a = "tuple" ∨ a = "list") : kitB a b = some r := by
  unfold subTy at h
  split at h
  · rename_i hb
    cases h
    simp only [Bool.or_eq_true, beq_iff_eq] at hb
    rcases hb with ((((rfl | rfl) | rfl) | rfl) | rfl) | rfl <;> rcases ha with rfl | rfl | rfl | rfl | rfl | rfl <;> decide +kernel
  · cases h
theorem ty_of {d : D} {x : V} {a : String} (w : Wd K mg ρ st H) (r : Rep K mg ρ H d x) (h : tyD st d = some a) : TyX K H x (.type a) ∧ (a = "NoneType" ∨ a = "bool" ∨ a = "int" ∨ a = "str" ∨ a = "tuple" ∨ a = "list") := by
  cases r with
  | non => cases h; exact ⟨.base .non, by simp⟩
  | bl b => cases h; exact ⟨.base (.bl _), by simp⟩
  | int i => cases h; exact ⟨.base (.int _), by simp⟩
  | str y => cases h; exact ⟨.base (.str _), by simp⟩
  | tup t r =>
    cases h
    refine ⟨?_, by simp⟩
    rcases t with ⟨t | ⟨o, t⟩, _⟩ | t
    · exact .base (.tup t)
    · exact .fTuple t
    · rcases t (fun _ => none) with (t | ⟨o, t⟩) | ⟨o, its, n, e, c, _⟩
      · cases t
      · cases t
      · exact .kTuple e c
  | lst t r => cases h; exact ⟨.base (.lst t.1), by simp⟩
  | @ref i a hi =>
    obtain ⟨o, ho, ro⟩ := w.get hi
    cases o with
    | lst es =>
      have e : tyD st (.ref i) = some "list" := by simp [tyD, ho]
      rw [e] at h
      cases h
      obtain ⟨xs, hx, r⟩ := ro
      exact ⟨.base (.lst hx), by simp⟩
  | _ => cases h
theorem blt_isi : CallR X (.builtin "isinstance") (rBlt X.K X.mg isiD) := by
  intro pins s σ H xs us Q I r h
  obtain ⟨ρ, st, ds, z, w, rs, hz, q⟩ := h
  unfold isiD at hz
  split at hz
  · rename_i d n
    obtain ⟨x, y, rfl, rd, re⟩ := repL2 rs
    cases re
    cases e : tyD st d with
    | none => rw [e] at hz; cases hz
    | some a =>
      rw [e] at hz
      cases e2 : subTy a n with
      | none => simp only [Option.bind_some, e2, Option.map_none] at hz; cases hz
      | some b =>
        simp only [Option.bind_some, e2, Option.map_some] at hz
        cases hz
        obtain ⟨t, ha⟩ := ty_of w rd e
        exact call_isi pins s σ H _ us Q I r ⟨x, _, _, _, b, rfl, .ty n, t, kit_ty (kit_sub e2 ha), q _ _ (Ext.refl _ _) w (.bl _)⟩
  · cases hz

mutual
theorem py_noDict : ∀ d : D, d.py.hasDict = false
  | .non => by simp [D.py, PyData.hasDict]
  | .bl _ => by simp [D.py, PyData.hasDict]
  | .int _ => by simp [D.py, PyData.hasDict]
  | .str _ => by simp [D.py, PyData.hasDict]
  | .ty _ => by simp [D.py, PyData.hasDict]
  | .fn _ => by simp [D.py, PyData.hasDict]
  | .ref _ => by simp [D.py, PyData.hasDict]
  | .rol _ => by simp [D.py, PyData.hasDict]
  | .tup xs => by simp [D.py, PyData.hasDict, pys_noDict xs]
  | .lst xs => by simp [D.py, PyData.hasDict, pys_noDict xs]
theorem pys_noDict : ∀ ds : List D, PyData.hasDictAll (D.pys ds) = false
  | [] => by simp [D.pys, PyData.hasDictAll]
  | d :: ds => by simp [D.pys, PyData.hasDictAll, py_noDict d, pys_noDict ds]
end
theorem blt_repr (G : Ctx X) {k : Nat} (hr : Room k X.A) : CallR X (.builtin "repr") (rBlt X.K X.mg reprL) := by
  intro pins s σ H xs us Q I r h
  obtain ⟨ρ, st, ds, z, w, rs, hz, q⟩ := h
  unfold reprL at hz
  split at hz
  · rename_i d
    obtain ⟨x, rfl, rd⟩ := repL1 rs
    unfold reprD at hz
    split at hz
    · rename_i hc
      simp only [Bool.and_eq_true, decide_eq_true_eq] at hc
      obtain ⟨⟨⟨hp, hs⟩, hl⟩, hd⟩ := hc
      cases hz
      have fin : ∀ {s' : Shared}, Inv X pins σ H s' → ∀ u : Tok, EP X pins σ Q (.str d.py.shown u) s' := fun I' u => ⟨.str _, H, I', ⟨_, rfl⟩, q _ _ (Ext.refl _ _) w (.str _)⟩
      obtain ⟨u, rfl, ru⟩ := vals1 r
      obtain ⟨as, hr1⟩ := Dp.reads I d.py x u (rd.dp hp) ru
      have hun := hr.units
      cases rd with
      | non =>
        cases ru
        simp only [D.py, PyData.shown] at fin hl
        exact PySem.P.repr_of_none (fin (I.tok _) _)
      | bl b =>
        cases ru
        simp only [D.py, PyData.shown] at fin hl
        exact PySem.P.repr_of_bool (fin (I.tok _) _)
      | int i =>
        obtain ⟨t, rfl⟩ := ru
        simp only [D.py, PyData.shown] at fin hl
        simp only [D.py, PyData.showable, decide_eq_true_eq] at hs
        exact PySem.P.repr_of_int hs (fin (I.tok _) _)
      | str y =>
        obtain ⟨t, rfl⟩ := ru
        simp only [D.py, PyData.shown] at fin hl
        exact PySem.P.repr_of_str (fin (I.tok _) _) hl
      | @tup a ys es t rr =>
        cases ru
        exact repr_of_reads' hr1 hs (PyData.noDict_hsm (py_noDict _)) G.gd (by omega) (fun _ _ e => e) (fun h' u tk hk => fin (I.kept hk) u) hl
      | @lst a ys es t rr =>
        cases ru
        exact repr_of_reads' hr1 hs (PyData.noDict_hsm (py_noDict _)) G.gd (by omega) (fun _ _ e => e) (fun h' u tk hk => fin (I.kept hk) u) hl
      | _ => simp [D.plain] at hp
    · cases hz
  · cases hz

/-! ### what is walked -/
/-- J walks the values ds, wherever the heap has gone from ρ, H -/
def WalkD (K : PySem.W.Frag) (mg : Str → Option Value) (ρ0 : Rho) (H0 : Hp) (J : It) (ds : List D) : Prop := ∀ ρ H, Ext ρ0 H0 ρ H →
  (∀ i, i < ds.length → J.go i H) ∧ J.stop ds.length H ∧ ∀ i x H', i < ds.length → J.yld i H x H' → ∀ st, Wd K mg ρ st H → Ext ρ H ρ H' ∧ Wd K mg ρ st H' ∧ ∃ d, ds[i]? = some d ∧ Rep K mg ρ H' d x
theorem walkd_same {J : It} {n : Nat} {G : Hp → Prop} {xs : List V} {ds : List D} (W : Walk J n G (YAt xs)) (hn : n = ds.length) (r : RepL K mg ρ H ds xs) (hG : ∀ ρ' H', Ext ρ H ρ' H' → G H') : WalkD K mg ρ H J ds := by
  subst hn
  intro ρ1 H1 e
  refine ⟨fun i hi => W.goes i H1 hi (hG _ _ e), W.stops H1 (hG _ _ e), fun i x H' hi y st w => ?_⟩
  obtain ⟨rfl, hx⟩ := W.yields i H1 x H' hi (hG _ _ e) y
  obtain ⟨d, h1, h2⟩ := (r.ext e).getV hx
  exact ⟨Ext.refl _ _, w, d, h1, h2⟩
theorem walkd_list {a : Addr} {xs : List V} {ds : List D} (t : RolAt K ρ H a xs) (r : RepL K mg ρ H ds xs) : WalkD K mg ρ H (Itl K a) ds :=
  walkd_same walk_list r.length.symm r fun _ _ e => (t.ext e).sq
theorem walkd_tup {a : Addr} {xs : List V} {ds : List D} (t : TupAt K ρ H a xs) (r : RepL K mg ρ H ds xs) : WalkD K mg ρ H (Itt K a) ds :=
  walkd_same walk_tup r.length.symm r fun _ _ e => (t.ext e).sq
theorem LstAt.rol {a : Addr} {xs : List V} (t : LstAt ρ H a xs) : RolAt K ρ H a xs := .inl ⟨.inl t.1, t.2⟩
theorem intsD_length : ∀ (n : Nat) (lo : Int), (intsD lo n).length = n
  | 0, _ => rfl
  | n + 1, lo => by simp [intsD, intsD_length n]
theorem intsD_get : ∀ (n : Nat) (lo : Int) (i : Nat), i < n → (intsD lo n)[i]? = some (.int (lo + i))
  | 0, _, _, h => absurd h (Nat.not_lt_zero _)
  | n + 1, lo, 0, _ => by simp [intsD]
  | n + 1, lo, i + 1, h => by
    have := intsD_get n (lo + 1) i (by omega)
    simp only [intsD, List.getElem?_cons_succ, this]
    congr 2
    omega
theorem walkd_range (lo : Int) (n : Nat) : WalkD K mg ρ H (Itr lo n) (intsD lo n) := by
  intro ρ1 H1 e
  rw [intsD_length]
  refine ⟨fun i hi => hi, Nat.le_refl _, fun i x H' hi y st w => ?_⟩
  obtain ⟨rfl, rfl⟩ := y
  exact ⟨Ext.refl _ _, w, _, intsD_get n lo i hi, .int _⟩
/-- new pairs -/
theorem walkd_pair {J : It} {n : Nat} {G : Hp → Prop} {fx fy : Nat → Option V} {ds : List D} (W : Walk J n G (YPair fx fy)) (hn : n = ds.length)
    (hp : ∀ i x y, i < n → fx i = some x → fy i = some y → ∃ d e, ds[i]? = some (.tup [d, e]) ∧ Rep K mg ρ H d x ∧ Rep K mg ρ H e y) (hG : ∀ ρ' H', Ext ρ H ρ' H' → G H') : WalkD K mg ρ H J ds := by
  subst hn
  intro ρ1 H1 e
  refine ⟨fun i hi => W.goes i H1 hi (hG _ _ e), W.stops H1 (hG _ _ e), fun i v H' hi y st w => ?_⟩
  obtain ⟨T, x, y', rfl, hT, rfl, h1, h2⟩ := W.yields i H1 v H' hi (hG _ _ e) y
  obtain ⟨d, e', hd, r1, r2⟩ := hp i x y' hi h1 h2
  refine ⟨Ext.new hT, w.new hT, _, hd, .tup (.inl ⟨.inl upd_same, w.fresh hT⟩) (.cons ((r1.ext e).ext (Ext.new hT)) (.cons ((r2.ext e).ext (Ext.new hT)) .nil))⟩
theorem pairs_length : ∀ xs ys : List D, (pairs xs ys).length = min xs.length ys.length
  | [], _ => by simp [pairs]
  | _ :: _, [] => by simp [pairs]
  | x :: xs, y :: ys => by simp only [pairs, List.length_cons, pairs_length xs ys]; omega
theorem pairs_get : ∀ (xs ys : List D) (i : Nat) (x y : D), xs[i]? = some x → ys[i]? = some y → (pairs xs ys)[i]? = some (.tup [x, y])
  | [], _, _, _, _, h, _ => by simp at h
  | _ :: _, [], _, _, _, _, h => by simp at h
  | x :: xs, y :: ys, 0, _, _, h1, h2 => by
    simp at h1 h2
    subst h1
    subst h2
    rfl
  | x :: xs, y :: ys, i + 1, _, _, h1, h2 => by
    simp at h1 h2
    simpa [pairs] using pairs_get xs ys i _ _ h1 h2
theorem enumD_length : ∀ (xs : List D) (i : Int), (enumD i xs).length = xs.length
  | [], _ => rfl
  | x :: xs, i => by simp [enumD, enumD_length xs]
theorem enumD_get : ∀ (xs : List D) (j : Int) (i : Nat) (x : D), xs[i]? = some x → (enumD j xs)[i]? = some (.tup [.int (j + i), x])
  | [], _, _, _, h => by simp at h
  | x :: xs, j, 0, _, h => by
    simp at h
    subst h
    simp [enumD]
  | x :: xs, j, i + 1, _, h => by
    simp at h
    have := enumD_get xs (j + 1) i _ h
    simp only [enumD, List.getElem?_cons_succ, this]
    congr 4
    omega
theorem walkd_enum {a : Addr} {xs : List V} {ds : List D} (t : RolAt K ρ H a xs) (r : RepL K mg ρ H ds xs) : WalkD K mg ρ H (Ite K a) (enumD 0 ds) := by
  refine walkd_pair walk_enum (by rw [enumD_length]; exact r.length.symm) (fun i x y hi h1 h2 => ?_) fun _ _ e => (t.ext e).sq
  obtain ⟨d, e1, e2⟩ := r.getV h2
  cases h1
  refine ⟨_, d, enumD_get ds 0 i d e1, ?_, e2⟩
  have : (0 : Int) + (i : Int) = ((i : Nat) : Int) := by omega
  rw [this]
  exact .int _
theorem walkd_zip {J : It} {n : Nat} {G : Hp → Prop} {xs ys : List V} {ds es : List D} (W : Walk J n G (YPair (fun i => xs[i]?) (fun i => ys[i]?))) (hn : n = min xs.length ys.length) (r1 : RepL K mg ρ H ds xs) (r2 : RepL K mg ρ H es ys)
    (hG : ∀ ρ' H', Ext ρ H ρ' H' → G H') : WalkD K mg ρ H J (pairs ds es) := by
  refine walkd_pair W (by rw [pairs_length, hn, r1.length, r2.length]) (fun i x y hi h1 h2 => ?_) hG
  obtain ⟨d, a1, a2⟩ := r1.getV h1
  obtain ⟨e, b1, b2⟩ := r2.getV h2
  exact ⟨d, e, pairs_get ds es i d e a1 b1, a2, b2⟩
theorem walk_zipT' {a b : Addr} {xs ys : List V} : Walk (RZ.ItzT K a b) (min xs.length ys.length) (fun H => SqT K H a xs ∧ SqT K H b ys) (YPair (fun i => xs[i]?) (fun i => ys[i]?)) := by
  refine ⟨fun i _ hi q => ?_, fun _ q => ⟨xs, ys, q.1, q.2, by omega⟩, fun i H v H' _ q y => ?_⟩
  · have h1 : i < xs.length := by omega
    have h2 : i < ys.length := by omega
    exact ⟨xs, ys, xs[i], ys[i], q.1, q.2, by simp [h1], by simp [h2]⟩
  · obtain ⟨T, u, z, e1, e2, e3, e4, e5⟩ := y
    exact ⟨T, u, z, e1, e2, e3, e4 xs q.1, e5 ys q.2⟩
end
end Mu

set_option linter.all false
set_option Elab.async false
/-! Expressions: each form of the interpreter over the hand layer's rule. -/
namespace Mu
open PySem PySem.Spec PyProof.Rows L2

abbrev RE (X : Cx) (W : WX) (f : Env → Sto → Res D) : TE := Rdg X.K X.mg W (Rep X.K X.mg) f
abbrev RL (X : Cx) (W : WX) (f : Env → Sto → Res (List D)) : TA := Rdg X.K X.mg W (RepL X.K X.mg) f
abbrev RB (X : Cx) (W : WX) (f : Env → Sto → Res Bool) : TT := Rdg X.K X.mg W (fun _ _ b c => b = c) f

section
variable {X : Cx} {W : WX} {x l r : Expr} {pos : Pos} {fa fb fc : Env → Sto → Res D} {ft fu : Env → Sto → Res Bool}
theorem PE.imp {t t' : TE} (h : PE X x t) (i : ∀ σ H Q, t' σ H Q → t σ H Q) : PE X x t' := ⟨fun p s σ H Q I q => h.run p s σ H Q I (i σ H Q q)⟩
theorem PT.imp {t t' : TT} (h : PT X x t) (i : ∀ σ H Q, t' σ H Q → t σ H Q) : PT X x t' := ⟨fun p s σ H Q I q => h.run p s σ H Q I (i σ H Q q)⟩
theorem PA.imp {xs : List Expr} {t t' : TA} (h : PA X xs t) (i : ∀ σ H Q, t' σ H Q → t σ H Q) : PA X xs t' := ⟨fun ps p s σ H Q I q => h.run ps p s σ H Q I (i σ H Q q)⟩
theorem PI.imp {tg : Expr} {t t' : TI} (h : PI X tg x t) (i : ∀ σ H R, t' σ H R → t σ H R) : PI X tg x t' := ⟨fun p s σ H R I q => h.run p s σ H R I (i σ H R q)⟩
theorem PI.or {tg : Expr} {t t' : TI} (h : PI X tg x t) (h' : PI X tg x t') : PI X tg x (fun σ H R => t σ H R ∨ t' σ H R) := ⟨fun p s σ H R I q => by
  rcases q with q | q
  · exact h.run p s σ H R I q
  · exact h'.run p s σ H R I q⟩
theorem s_no {f : Env → Sto → Res D} (h : ∀ env st, f env st = .stuck) : PE X x (RE X W f) := ⟨fun p s σ H Q I ⟨ρ, env, st, _, _, q⟩ => by rw [h] at q; exact q.elim⟩
theorem st_no {f : Env → Sto → Res Bool} (h : ∀ env st, f env st = .stuck) : PT X x (RB X W f) := ⟨fun p s σ H Q I ⟨ρ, env, st, _, _, q⟩ => by rw [h] at q; exact q.elim⟩
theorem Post.some {α β : Type} {K : PySem.W.Frag} {mg : Str → Option Value} {σ : L2.St} {ρ : Rho} {H : Hp} {R : Rho → Hp → α → β → Prop} {o : Option α} {st : Sto} {Q : β → Hp → Prop} (h : Post K mg W σ ρ H R (.of o st) Q) :
    ∃ a, o = some a ∧ Post K mg W σ ρ H R (.ok a st) Q := by
  cases o with
  | none => exact h.elim
  | some a => exact ⟨a, rfl, h⟩

theorem s_var {i : Nat} {y : Str} (hN : X.N[i]? = some y) (hv : Vis X.env.scope y) (hd : (y == ("__debug__" : Str)) = false) (hc : (y == ("__classdict__" : Str)) = false) :
    PE X (.Name y pos) (RE X W fun env st => .of (env.at i) st) := by
  refine PE.imp (pe_var hN hv hd hc) fun σ H Q ⟨ρ, env, st, er, w, q⟩ => ?_
  obtain ⟨d, hd, q⟩ := q.some
  have e : env[i]? = some (some d) := by
    unfold Env.at at hd
    split at hd
    · rename_i e; cases hd; exact e
    · cases hd
  obtain ⟨v, h1, h2⟩ := er.at_ i d e
  exact ⟨v, h1, q.here w h2⟩
theorem s_val {d : D} {v : V} (h : PE X x (tC v)) (r : ∀ ρ H, Rep X.K X.mg ρ H d v) : PE X x (RE X W fun _ st => .ok d st) :=
  PE.imp h fun σ H Q ⟨ρ, env, st, er, w, q⟩ => q.here w (r ρ H)
theorem Rdg.go {α β γ δ : Type} {K : PySem.W.Frag} {mg : Str → Option Value} {σ : L2.St} {ρ : Rho} {H : Hp} {R : Rho → Hp → α → β → Prop} {R' : Rho → Hp → γ → δ → Prop} {st : Sto} {env : Env} {f : Env → Sto → Res α} {g : α → Sto → Res γ} {Q : δ → Hp → Prop} {Q' : β → Hp → Prop}
    (er : EnvRep K mg ρ H env σ) (w : Wd K mg ρ st H) (h : Post K mg W σ ρ H R' ((f env st).bind g) Q)
    (k : ∀ ρ1 a st1 v H1, Ext ρ H ρ1 H1 → EnvRep K mg ρ1 H1 env σ → Wd K mg ρ1 st1 H1 → R ρ1 H1 a v → Post K mg W σ ρ1 H1 R' (g a st1) Q → Q' v H1) : Rdg K mg W R f σ H Q' := by
  obtain ⟨ρ0, env0, st0, er0, w0, q0⟩ := Rdg.bind (R := R) er w h
  exact ⟨ρ0, env0, st0, er0, w0, q0.mono fun v H1 ⟨ρ1, d, st1, e1, er1, w1, r1, q1⟩ => k ρ1 d st1 v H1 e1 er1 w1 r1 q1⟩
/-- the same, with what was run -/
theorem Rdg.goE {α β γ δ : Type} {K : PySem.W.Frag} {mg : Str → Option Value} {σ : L2.St} {ρ : Rho} {H : Hp} {R : Rho → Hp → α → β → Prop} {R' : Rho → Hp → γ → δ → Prop} {st : Sto} {env : Env} {f : Env → Sto → Res α} {g : α → Sto → Res γ} {Q : δ → Hp → Prop} {Q' : β → Hp → Prop}
    (er : EnvRep K mg ρ H env σ) (w : Wd K mg ρ st H) (h : Post K mg W σ ρ H R' ((f env st).bind g) Q)
    (k : ∀ ρ1 a st1 v H1, f env st = .ok a st1 → Ext ρ H ρ1 H1 → EnvRep K mg ρ1 H1 env σ → Wd K mg ρ1 st1 H1 → R ρ1 H1 a v → Post K mg W σ ρ1 H1 R' (g a st1) Q → Q' v H1) : Rdg K mg W R f σ H Q' := by
  refine ⟨ρ, env, st, er, w, ?_⟩
  cases e : f env st with
  | ok d st' =>
    rw [e] at h
    exact fun v H1 ρ1 e1 w1 r1 => k ρ1 d st' v H1 e e1 (er.ext e1) w1 r1 (Post.ext e1 h)
  | exc c fs st' =>
    rw [e] at h
    exact h
  | stuck =>
    rw [e] at h
    exact h
theorem s_bin (G : Ctx X) {k : Nat} (hr : Room k X.A) {o : Operator} (ha : PE X l (RE X W fa)) (hb : PE X r (RE X W fb)) :
    PE X (.BinOp l o r pos) (RE X W fun env st => (fa env st).bind fun x st => (fb env st).bind fun y st => .of (binD k o x y) st) := by
  refine PE.imp (pe_op (op_bin G hr o) ha hb) fun σ H Q ⟨ρ, env, st, er, w, q⟩ => ?_
  refine Rdg.go er w q fun ρ1 d st1 v H1 e1 er1 w1 r1 q1 => ?_
  refine Rdg.go er1 w1 q1 fun ρ2 e st2 u H2 e2 er2 w2 r2 q2 => ?_
  obtain ⟨z, hz, q3⟩ := q2.some
  exact ⟨ρ2, st2, d, e, z, w2, r1.ext e2, r2, hz, fun v' H' e' w' r' => q3 v' H' ρ2 e' w' r'⟩
theorem s_neg (ha : PE X l (RE X W fa)) : PE X (.UnaryOp .USub l pos) (RE X W fun env st => (fa env st).bind fun x st => match x with
      | .int i => .ok (.int (-i)) st
      | _ => .stuck) := by
  refine PE.imp (pe_un un_neg ha) fun σ H Q ⟨ρ, env, st, er, w, q⟩ => ?_
  refine Rdg.go er w q fun ρ1 d st1 v H1 e1 er1 w1 r1 q1 => ?_
  cases r1 with
  | int i => exact ⟨i, rfl, q1.here w1 (.int _)⟩
  | _ => exact q1.elim
theorem s_cmp {k : Nat} (hr : Room k X.A) {o : CmpOp} (hm : behindInMarks o r = false) (ha : PE X l (RE X W fa)) (hb : PE X r (RE X W fb)) :
    PE X (.Compare l [o] [r] pos) (RE X W fun env st => (fa env st).bind fun x st => (fb env st).bind fun y st => .of ((cmpD o x y).map .bl) st) := by
  refine PE.imp (pe_cmpR (op_cmp hr o) ha hb hm) fun σ H Q ⟨ρ, env, st, er, w, q⟩ => ?_
  refine Rdg.go er w q fun ρ1 d st1 v H1 e1 er1 w1 r1 q1 => ?_
  refine Rdg.go er1 w1 q1 fun ρ2 e st2 u H2 e2 er2 w2 r2 q2 => ?_
  obtain ⟨z, hz, q3⟩ := q2.some
  cases hc : cmpD o d e with
  | none => rw [hc] at hz; cases hz
  | some c =>
    rw [hc] at hz
    cases hz
    exact ⟨ρ2, d, e, c, r1.ext e2, r2, hc, q3.here w2 (.bl _)⟩
/-- the same as a test -/
theorem st_cmp {k : Nat} (hr : Room k X.A) {o : CmpOp} (hm : behindInMarks o r = false) (ha : PE X l (RE X W fa)) (hb : PE X r (RE X W fb)) :
    PT X (.Compare l [o] [r] pos) (RB X W fun env st => asBool ((fa env st).bind fun x st => (fb env st).bind fun y st => .of ((cmpD o x y).map .bl) st)) := by
  refine PT.imp (pt_cmpR (op_cmp hr o) ha hb hm) fun σ H Q ⟨ρ, env, st, er, w, q⟩ => ?_
  have q' : Post X.K X.mg W σ ρ H (fun _ _ b c => b = c) ((fa env st).bind fun x st => (fb env st).bind fun y st => .of (cmpD o x y) st) Q := by
    dsimp only at q
    revert q
    cases fa env st with
    | ok d1 s1 =>
      simp only [Res.bind_ok]
      cases fb env s1 with
      | ok d2 s2 => cases hc : cmpD o d1 d2 <;> simp [Res.of, hc, asBool]
      | exc _ _ _ => exact id
      | stuck => exact id
    | exc _ _ _ => exact id
    | stuck => exact id
  refine Rdg.go er w q' fun ρ1 d st1 v H1 e1 er1 w1 r1 q1 => ?_
  refine Rdg.go er1 w1 q1 fun ρ2 e st2 u H2 e2 er2 w2 r2 q2 => ?_
  obtain ⟨c, hc, q3⟩ := q2.some
  exact ⟨ρ2, d, e, c, r1.ext e2, r2, hc, c, rfl, q3.here w2 rfl⟩
theorem s_cmp2 {k : Nat} (hr : Room k X.A) {o p : CmpOp} {y : Expr} (hm : lastMarks [o, p] [r, y] = false) (ha : PE X l (RE X W fa)) (hb : PE X r (RE X W fb)) (hc : PE X y (RE X W fc)) :
    PE X (.Compare l [o, p] [r, y] pos) (RE X W fun env st => (fa env st).bind fun x st => (fb env st).bind fun y st => match cmpD o x y with
      | some true => (fc env st).bind fun z st => .of ((cmpD p y z).map .bl) st
      | some false => .ok (.bl false) st
      | none => .stuck) := by
  refine PE.imp (pe_chain (op_cmp hr o) (op_cmp hr p) ha hb hc hm) fun σ H Q ⟨ρ, env, st, er, w, q⟩ => ?_
  refine Rdg.go er w q fun ρ1 d st1 v H1 e1 er1 w1 r1 q1 => ?_
  refine Rdg.go er1 w1 q1 fun ρ2 e st2 u H2 e2 er2 w2 r2 q2 => ?_
  cases h : cmpD o d e with
  | none => simp only [h] at q2; exact q2.elim
  | some c =>
    simp only [h] at q2
    refine ⟨ρ2, d, e, c, r1.ext e2, r2, h, c, rfl, ?_⟩
    cases c with
    | false => exact iteF (q2.here w2 (.bl _))
    | true =>
      refine iteT (Rdg.go er2 w2 q2 fun ρ3 f st3 t H3 e3 er3 w3 r3 q3 => ?_)
      obtain ⟨z, hz, q3⟩ := q3.some
      cases hc : cmpD p e f with
      | none => rw [hc] at hz; cases hz
      | some c =>
        rw [hc] at hz
        cases hz
        exact ⟨ρ3, e, f, c, r2.ext e3, r3, hc, q3.here w3 (.bl _)⟩
theorem st_cmp2 {k : Nat} (hr : Room k X.A) {o p : CmpOp} {y : Expr} (hm : lastMarks [o, p] [r, y] = false) (ha : PE X l (RE X W fa)) (hb : PE X r (RE X W fb)) (hc : PE X y (RE X W fc)) :
    PT X (.Compare l [o, p] [r, y] pos) (RB X W fun env st => asBool ((fa env st).bind fun x st => (fb env st).bind fun y st => match cmpD o x y with
      | some true => (fc env st).bind fun z st => .of ((cmpD p y z).map .bl) st
      | some false => .ok (.bl false) st
      | none => .stuck)) := by
  refine PT.imp (pt_chain (op_cmp hr o) (op_cmp hr p) ha hb hc hm) fun σ H Q ⟨ρ, env, st, er, w, q⟩ => ?_
  have q' : Post X.K X.mg W σ ρ H (fun _ _ b c => b = c) ((fa env st).bind fun x st => (fb env st).bind fun y st => match cmpD o x y with
      | some true => (fc env st).bind fun z st => .of (cmpD p y z) st
      | some false => .ok false st
      | none => .stuck) Q := by
    dsimp only at q
    revert q
    cases fa env st with
    | ok d1 s1 =>
      simp only [Res.bind_ok]
      cases fb env s1 with
      | ok d2 s2 =>
        simp only [Res.bind_ok]
        cases hc : cmpD o d1 d2 with
        | none => simp [asBool]
        | some c =>
          cases c with
          | false => simp [asBool]
          | true =>
            simp only
            cases fc env s2 with
            | ok d3 s3 => cases hd : cmpD p d2 d3 <;> simp [Res.of, hd, asBool]
            | exc _ _ _ => exact id
            | stuck => exact id
      | exc _ _ _ => exact id
      | stuck => exact id
    | exc _ _ _ => exact id
    | stuck => exact id
  refine Rdg.go er w q' fun ρ1 d st1 v H1 e1 er1 w1 r1 q1 => ?_
  refine Rdg.go er1 w1 q1 fun ρ2 e st2 u H2 e2 er2 w2 r2 q2 => ?_
  cases h : cmpD o d e with
  | none => simp only [h] at q2; exact q2.elim
  | some c =>
    simp only [h] at q2
    refine ⟨ρ2, d, e, c, r1.ext e2, r2, h, c, rfl, ?_⟩
    cases c with
    | false => exact iteF ⟨false, rfl, q2.here w2 rfl⟩
    | true =>
      refine iteT (Rdg.go er2 w2 q2 fun ρ3 f st3 t H3 e3 er3 w3 r3 q3 => ?_)
      obtain ⟨c, hc, q3⟩ := q3.some
      exact ⟨ρ3, e, f, c, r2.ext e3, r3, hc, c, rfl, q3.here w3 rfl⟩

/-! ### truth -/
theorem s_not (ha : PE X l (RE X W fa)) : PE X (.UnaryOp .Not l pos) (RE X W fun env st => (fa env st).bind fun x st => .of ((truth st x).map fun c => .bl (!c)) st) := by
  refine PE.imp (pe_notT ha) fun σ H Q ⟨ρ, env, st, er, w, q⟩ => ?_
  refine Rdg.go er w q fun ρ1 d st1 v H1 e1 er1 w1 r1 q1 => ?_
  obtain ⟨z, hz, q2⟩ := q1.some
  cases h : truth st1 d with
  | none => rw [h] at hz; cases hz
  | some c =>
    rw [h] at hz
    cases hz
    exact ⟨c, truth_of w1 r1 h, q2.here w1 (.bl _)⟩
theorem s_and {rest : List Expr} (ha : PE X l (RE X W fa)) (hb : PE X (.BoolOp .And (r :: rest) pos) (RE X W fb)) :
    PE X (.BoolOp .And (l :: r :: rest) pos) (RE X W fun env st => (fa env st).bind fun x st => match truth st x with
      | some true => fb env st
      | some false => .ok x st
      | none => .stuck) := by
  refine PE.imp (pe_andT ha hb) fun σ H Q ⟨ρ, env, st, er, w, q⟩ => ?_
  refine Rdg.go er w q fun ρ1 d st1 v H1 e1 er1 w1 r1 q1 => ?_
  cases h : truth st1 d with
  | none => simp only [h] at q1; exact q1.elim
  | some c =>
    simp only [h] at q1
    refine ⟨c, truth_of w1 r1 h, ?_⟩
    cases c with
    | false => exact iteF (q1.here w1 r1)
    | true => exact iteT ⟨ρ1, env, st1, er1, w1, q1⟩
theorem s_or {rest : List Expr} (ha : PE X l (RE X W fa)) (hb : PE X (.BoolOp .Or (r :: rest) pos) (RE X W fb)) :
    PE X (.BoolOp .Or (l :: r :: rest) pos) (RE X W fun env st => (fa env st).bind fun x st => match truth st x with
      | some true => .ok x st
      | some false => fb env st
      | none => .stuck) := by
  refine PE.imp (pe_orT ha hb) fun σ H Q ⟨ρ, env, st, er, w, q⟩ => ?_
  refine Rdg.go er w q fun ρ1 d st1 v H1 e1 er1 w1 r1 q1 => ?_
  cases h : truth st1 d with
  | none => simp only [h] at q1; exact q1.elim
  | some c =>
    simp only [h] at q1
    refine ⟨c, truth_of w1 r1 h, ?_⟩
    cases c with
    | false => exact iteF ⟨ρ1, env, st1, er1, w1, q1⟩
    | true => exact iteT (q1.here w1 r1)
theorem st_truth (hp : ∀ whole, isTrue l X.env whole = (do let v ← whole; standAt l.pos; holding [v] (truthy v))) (ha : PE X l (RE X W fa)) :
    PT X l (RB X W fun env st => (fa env st).bind fun d st => .of (truth st d) st) := by
  refine PT.imp (pt_truth ha hp) fun σ H Q ⟨ρ, env, st, er, w, q⟩ => ?_
  refine Rdg.go er w q fun ρ1 d st1 v H1 e1 er1 w1 r1 q1 => ?_
  obtain ⟨c, hc, q2⟩ := q1.some
  exact ⟨c, truth_of w1 r1 hc, q2.here w1 rfl⟩
theorem st_not (ha : PT X l (RB X W ft)) : PT X (.UnaryOp .Not l pos) (RB X W fun env st => (ft env st).bind fun c st => .ok (!c) st) := by
  refine PT.imp (pt_not ha) fun σ H Q ⟨ρ, env, st, er, w, q⟩ => ?_
  refine Rdg.go er w q fun ρ1 d st1 v H1 e1 er1 w1 r1 q1 => ?_
  subst r1
  exact q1.here w1 rfl
theorem st_and {rest : List Expr} (ha : PT X l (RB X W ft)) (hb : PW X (.BoolOp .And (r :: rest) pos) (RB X W fu)) :
    PW X (.BoolOp .And (l :: r :: rest) pos) (RB X W fun env st => (ft env st).bind fun c st => if c then fu env st else .ok false st) := by
  refine ⟨fun whole p s σ H Q I ⟨ρ, env, st, er, w, q⟩ => (pw_and ha hb).run whole p s σ H Q I ?_⟩
  refine Rdg.go er w q fun ρ1 d st1 v H1 e1 er1 w1 r1 q1 => ?_
  subst r1
  cases d with
  | false => exact iteF (Post.here (st := st1) (by simpa using q1) w1 rfl)
  | true => exact iteT ⟨ρ1, env, st1, er1, w1, by simpa using q1⟩
theorem st_or {rest : List Expr} (ha : PT X l (RB X W ft)) (hb : PW X (.BoolOp .Or (r :: rest) pos) (RB X W fu)) :
    PW X (.BoolOp .Or (l :: r :: rest) pos) (RB X W fun env st => (ft env st).bind fun c st => if c then .ok true st else fu env st) := by
  refine ⟨fun whole p s σ H Q I ⟨ρ, env, st, er, w, q⟩ => (pw_or ha hb).run whole p s σ H Q I ?_⟩
  refine Rdg.go er w q fun ρ1 d st1 v H1 e1 er1 w1 r1 q1 => ?_
  subst r1
  cases d with
  | false => exact iteF ⟨ρ1, env, st1, er1, w1, by simpa using q1⟩
  | true => exact iteT (Post.here (st := st1) (by simpa using q1) w1 rfl)
theorem s_ite {t : Expr} (hc : PT X t (RB X W ft)) (ha : PE X l (RE X W fa)) (hb : PE X r (RE X W fb)) :
    PE X (.IfExp t l r pos) (RE X W fun env st => (ft env st).bind fun c st => if c then fa env st else fb env st) := by
  refine PE.imp (pe_ifExp hc ha hb) fun σ H Q ⟨ρ, env, st, er, w, q⟩ => ?_
  refine Rdg.go er w q fun ρ1 d st1 v H1 e1 er1 w1 r1 q1 => ?_
  subst r1
  cases d with
  | false => exact iteF ⟨ρ1, env, st1, er1, w1, by simpa using q1⟩
  | true => exact iteT ⟨ρ1, env, st1, er1, w1, by simpa using q1⟩

/-! ### lists of expressions -/
theorem sl_nil {f : E → Sto → Res D} : PA X [] (RL X W fun _ st => evL f [] st) :=
  PA.imp pa_nil fun σ H Q ⟨ρ, env, st, er, w, q⟩ => Post.here (st := st) q w .nil
theorem sl_cons {e : E} {es : List E} {xs : List Expr} {f : E → Env → Sto → Res D} (hs : starEach (x :: xs) X.env = (false, eval x X.env) :: starEach xs X.env) (ha : PE X x (RE X W (f e))) (hr : PA X xs (RL X W fun env st => evL (fun e st => f e env st) es st)) :
    PA X (x :: xs) (RL X W fun env st => evL (fun e st => f e env st) (e :: es) st) := by
  refine PA.imp (pa_cons ha hr hs) fun σ H Q ⟨ρ, env, st, er, w, q⟩ => ?_
  have q : Post X.K X.mg W σ ρ H (RepL X.K X.mg) ((f e env st).bind fun d st => (evL (fun e st => f e env st) es st).bind fun ds st => .ok (d :: ds) st) Q := q
  refine Rdg.go er w q fun ρ1 d st1 v H1 e1 er1 w1 r1 q1 => ?_
  refine Rdg.go (f := fun env st => evL (fun e st => f e env st) es st) er1 w1 q1 fun ρ2 ds st2 vs H2 e2 er2 w2 r2 q2 => ?_
  exact q2.here w2 (.cons (r1.ext e2) r2)
theorem s_tup {xs : List Expr} {kk : Nat} {fl : Env → Sto → Res (List D)} (h : PA X xs (RL X W fl)) :
    PE X (.Tuple xs kk pos) (RE X W fun env st => (fl env st).bind fun ds st => if ds.length ≤ sizeLine then .ok (.tup ds) st else .stuck) := by
  refine PE.imp (pe_tup h) fun σ H Q ⟨ρ, env, st, er, w, q⟩ => ?_
  refine Rdg.go er w q fun ρ1 ds st1 vs H1 e1 er1 w1 r1 q1 => ?_
  split at q1
  · rename_i hl
    refine ⟨by rw [← r1.length]; exact hl, fun p hp => ?_⟩
    exact q1.ok (Ext.new hp) (w1.new hp) (.tup (.inl ⟨.inl upd_same, w1.fresh hp⟩) (r1.ext (Ext.new hp)))
  · exact q1.elim
theorem s_lst {xs : List Expr} {fl : Env → Sto → Res (List D)} (h : PA X xs (RL X W fl)) :
    PE X (.List xs pos) (RE X W fun env st => (fl env st).bind fun ds st => if ds.length ≤ sizeLine then .ok (.lst ds) st else .stuck) := by
  refine PE.imp (pe_lst h) fun σ H Q ⟨ρ, env, st, er, w, q⟩ => ?_
  refine Rdg.go er w q fun ρ1 ds st1 vs H1 e1 er1 w1 r1 q1 => ?_
  split at q1
  · rename_i hl
    refine ⟨by rw [← r1.length]; exact hl, fun p hp => ?_⟩
    exact q1.ok (Ext.new hp) (w1.new hp) (.lst ⟨upd_same, w1.fresh hp⟩ (r1.ext (Ext.new hp)))
  · exact q1.elim
theorem s_lstR {xs : List Expr} {fl : Env → Sto → Res (List D)} (h : PA X xs (RL X W fl)) :
    PE X (.List xs pos) (RE X W fun env st => (fl env st).bind fun ds st => if ds.length ≤ sizeLine then .ok (.ref st.length) (st ++ [.lst ds]) else .stuck) := by
  refine PE.imp (pe_lst h) fun σ H Q ⟨ρ, env, st, er, w, q⟩ => ?_
  refine Rdg.go er w q fun ρ1 ds st1 vs H1 e1 er1 w1 r1 q1 => ?_
  split at q1
  · rename_i hl
    refine ⟨by rw [← r1.length]; exact hl, fun p hp => ?_⟩
    refine q1.ok (Ext.push hp) (w1.push hp ⟨_, upd_same, r1.ext (Ext.push hp)⟩) (.ref w1.last)
  · exact q1.elim
theorem s_idx (hp : PlainIx r) (ha : PE X l (RE X W fa)) (hb : PE X r (RE X W fb)) :
    PE X (.Subscript l r pos) (RE X W fun env st => (fa env st).bind fun x st => (fb env st).bind fun j st => .of (idxD st x j) st) := by
  refine PE.imp (pe_ix ix_seq ha hb hp) fun σ H Q ⟨ρ, env, st, er, w, q⟩ => ?_
  refine Rdg.go er w q fun ρ1 d st1 v H1 e1 er1 w1 r1 q1 => ?_
  refine Rdg.go er1 w1 q1 fun ρ2 e st2 u H2 e2 er2 w2 r2 q2 => ?_
  obtain ⟨z, hz, q3⟩ := q2.some
  exact idx_of w2 (r1.ext e2) r2 hz fun v' r' => q3.here w2 r'

/-! ### slices -/
abbrev RO (X : Cx) (W : WX) (f : Env → Sto → Res (Option Int)) : TO := Rdg X.K X.mg W (fun _ _ a b => a = b) f
theorem so_none {f : E → Sto → Res D} : PO X none (RO X W fun _ st => evO f none st) :=
  ⟨fun p s σ H Q I ⟨ρ, env, st, er, w, q⟩ => po_none.run p s σ H Q I (Post.here (st := st) q w rfl)⟩
theorem so_some {e : E} {f : E → Env → Sto → Res D} (ha : PE X x (RE X W (f e))) : PO X (some x) (RO X W fun env st => evO (fun e st => f e env st) (some e) st) := by
  refine ⟨fun p s σ H Q I ⟨ρ, env, st, er, w, q⟩ => (po_some ha).run p s σ H Q I ?_⟩
  have q : Post X.K X.mg W σ ρ H (fun _ _ a b => a = b) ((f e env st).bind fun d st => match d with
    | .int i => .ok (some i) st
    | _ => .stuck) Q := q
  refine Rdg.go er w q fun ρ1 d st1 v H1 e1 er1 w1 r1 q1 => ?_
  cases r1 with
  | int i => exact ⟨i, rfl, q1.here w1 rfl⟩
  | _ => exact q1.elim
theorem cut_rep {K : PySem.W.Frag} {mg : Str → Option Value} {ρ : Rho} {H : Hp} {ds : List D} {vs : List V} (r : RepL K mg ρ H ds vs) (lo hi : Option Int) : RepL K mg ρ H (cutD ds lo hi) (cutV vs lo hi) := by
  unfold cutD cutV
  rw [r.length]
  exact (r.drop _).take _
theorem s_slc {lo hi : Option Expr} {p2 : Pos} {fl fh : Env → Sto → Res (Option Int)} (ha : PE X l (RE X W fa)) (hl : PO X lo (RO X W fl)) (hh : PO X hi (RO X W fh)) :
    PE X (.Subscript l (.Slice lo hi none p2) pos) (RE X W fun env st => (fa env st).bind fun x st => (fl env st).bind fun l st => (fh env st).bind fun h st => match x with
      | .tup xs => .ok (.tup (cutD xs l h)) st
      | .lst xs => .ok (.lst (cutD xs l h)) st
      | _ => .stuck) := by
  refine PE.imp (pe_slice (SlR.or sl_list sl_tupA) ha hl hh) fun σ H Q ⟨ρ, env, st, er, w, q⟩ => ?_
  refine Rdg.go er w q fun ρ1 d st1 v H1 e1 er1 w1 r1 q1 => ?_
  refine Rdg.go er1 w1 q1 fun ρ2 lo' st2 lo2 H2 e2 er2 w2 r2 q2 => ?_
  refine Rdg.go er2 w2 q2 fun ρ3 hi' st3 hi2 H3 e3 er3 w3 r3 q3 => ?_
  subst r2
  subst r3
  have r1 := (r1.ext e2).ext e3
  cases r1 with
  | @tup a xs ds t r =>
    refine .inr ⟨a, xs, rfl, t.sq, fun hw => ?_, fun _ p hp => ?_⟩
    · refine q3.here w3 (.tup t ?_)
      have e : cutD ds lo' hi' = ds := by
        unfold cutD
        rw [r.length, hw.1, hw.2]
        simp [← r.length]
      rw [e]
      exact r
    · exact q3.ok (Ext.new hp) (w3.new hp) (.tup (.inl ⟨.inl upd_same, w3.fresh hp⟩) ((cut_rep r _ _).ext (Ext.new hp)))
  | @lst a xs ds t r =>
    exact .inl ⟨a, xs, rfl, t.sq, fun p hp => q3.ok (Ext.new hp) (w3.new hp) (.lst ⟨upd_same, w3.fresh hp⟩ ((cut_rep r _ _).ext (Ext.new hp)))⟩
  | _ => exact q3.elim
theorem s_rev {kk : Nat} {p1 p2 p3 : Pos} (ha : PE X l (RE X W fa)) :
    PE X (.Subscript l (.Slice none none (some (.UnaryOp .USub (.Constant (.int 1) kk p1) p2)) p3) pos) (RE X W fun env st => (fa env st).bind fun x st => match x with
      | .lst xs => .ok (.lst xs.reverse) st
      | _ => .stuck) := by
  refine PE.imp (pe_revL ha) fun σ H Q ⟨ρ, env, st, er, w, q⟩ => ?_
  refine Rdg.go er w q fun ρ1 d st1 v H1 e1 er1 w1 r1 q1 => ?_
  cases r1 with
  | @lst a xs ds t r => exact ⟨a, xs, rfl, t.sq, fun p hp => q1.ok (Ext.new hp) (w1.new hp) (.lst ⟨upd_same, w1.fresh hp⟩ (r.reverse.ext (Ext.new hp)))⟩
  | _ => exact q1.elim

/-! ### calls -/
theorem s_blt {fl : Env → Sto → Res (List D)} {f : List D → Sto → Option D} {t : TE} (ht : ∀ σ H Q, RL X W fl σ H (fun vs H1 => rBlt X.K X.mg f vs H1 Q) → t σ H Q) (h : PE X x t) :
    PE X x (RE X W fun env st => (fl env st).bind fun ds st => .of (f ds st) st) := by
  refine PE.imp h fun σ H Q ⟨ρ, env, st, er, w, q⟩ => ht σ H Q ?_
  refine Rdg.go er w q fun ρ1 ds st1 vs H1 e1 er1 w1 r1 q1 => ?_
  obtain ⟨z, hz, q2⟩ := q1.some
  exact ⟨ρ1, st1, ds, z, w1, r1, hz, fun v H' e' w' r' => q2.ok e' w' r'⟩
end
end Mu

set_option linter.all false
set_option Elab.async false
/-! What is walked, targets, comprehensions. -/
namespace Mu
open PySem PySem.Spec PyProof.Rows L2

abbrev RI (X : Cx) (W : WX) (g : Env → Sto → Res (List D)) : TI := Rdg X.K X.mg W (fun ρ H ds J => WalkD X.K X.mg ρ H J ds) g
section
variable {X : Cx} {W : WX} {x l r tg : Expr} {pos p : Pos} {fa fb : Env → Sto → Res D}
theorem i_seq (ha : PE X x (RE X W fa)) : PI X tg x (RI X W fun env st => (fa env st).bind fun d st => match d with
    | .tup xs => .ok xs st
    | .lst xs => .ok xs st
    | .rol xs => .ok xs st
    | _ => .stuck) := by
  refine PI.imp (PI.or (pi_list ha) (pi_tup ha)) fun σ H R ⟨ρ, env, st, er, w, q⟩ => ?_
  have left : (∀ ds st', fa env st ≠ .ok (.tup ds) st') → iList X.K (RE X W fa) σ H R ∨ iTup X.K (RE X W fa) σ H R := fun hn => by
    refine .inl (Rdg.goE er w q fun ρ1 d st1 v H1 he e1 er1 w1 r1 q1 => ?_)
    cases r1 with
    | tup t r => exact absurd he (hn _ _)
    | @lst a xs ds t r => exact ⟨a, rfl, ⟨xs, t.sq⟩, q1.here w1 (walkd_list t.rol r)⟩
    | @rol a xs ds t r => exact ⟨a, rfl, ⟨xs, t.sq⟩, q1.here w1 (walkd_list t r)⟩
    | _ => exact q1.elim
  cases he : fa env st with
  | ok d st1 =>
    cases d with
    | tup ds =>
      refine .inr (Rdg.goE er w q fun ρ1 d st1 v H1 he' e1 er1 w1 r1 q1 => ?_)
      rw [he] at he'
      cases he'
      obtain ⟨a, xs, ev, t, r⟩ : ∃ a xs, v = .ref a ∧ TupAt X.K ρ1 H1 a xs ∧ RepL X.K X.mg ρ1 H1 ds xs := by cases r1 with | tup t r => exact ⟨_, _, rfl, t, r⟩
      exact ⟨a, ev, ⟨xs, t.sq⟩, q1.here w1 (walkd_tup t r)⟩
    | _ => exact left fun ds st' h => by rw [he] at h; cases h
  | exc _ _ _ => exact left fun ds st' h => by rw [he] at h; cases h
  | stuck => exact left fun ds st' h => by rw [he] at h; cases h
theorem i_rng1 {fl : Env → Sto → Res (List D)} (hg : Gl X "range") (hm : X.mg "range" = none) (ha : PA X [x] (RL X W fl)) (hs : starEach [x] X.env = [(false, eval x X.env)]) (hl : ∀ env st ds st', fl env st = .ok ds st' → ds.length = 1) :
    PI X tg (.Call (.Name "range" p) [x] [] pos) (RI X W fun env st => (fl env st).bind fun ds st => .of (rngD ds) st) := by
  refine PI.imp (pi_range1 hg hm ha hs) fun σ H R ⟨ρ, env, st, er, w, q⟩ => ?_
  refine Rdg.goE er w q fun ρ1 ds st1 vs H1 he e1 er1 w1 r1 q1 => ?_
  have hlen := hl _ _ _ _ he
  cases r1 with
  | nil => simp at hlen
  | @cons d v ds vs r rr =>
    cases rr with
    | cons _ _ => simp at hlen
    | nil =>
      obtain ⟨z, hz, q2⟩ := Post.some q1
      cases r with
      | int j =>
        simp only [rngD] at hz
        split at hz
        · rename_i hb
          cases hz
          exact ⟨j, rfl, by omega, by omega, q2.here w1 (walkd_range 0 _)⟩
        · cases hz
      | _ => cases hz
theorem i_rng2 {fl : Env → Sto → Res (List D)} (hg : Gl X "range") (hm : X.mg "range" = none) (ha : PA X [l, r] (RL X W fl)) (hs : starEach [l, r] X.env = [(false, eval l X.env), (false, eval r X.env)]) (hs2 : starEach [r] X.env = [(false, eval r X.env)]) (hl : ∀ env st ds st', fl env st = .ok ds st' → ds.length = 2) :
    PI X tg (.Call (.Name "range" p) [l, r] [] pos) (RI X W fun env st => (fl env st).bind fun ds st => .of (rngD ds) st) := by
  refine PI.imp (pi_range2 hg hm ha hs hs2) fun σ H R ⟨ρ, env, st, er, w, q⟩ => ?_
  refine Rdg.goE er w q fun ρ1 ds st1 vs H1 he e1 er1 w1 r1 q1 => ?_
  have hlen := hl _ _ _ _ he
  cases r1 with
  | nil => simp at hlen
  | @cons d v ds vs r rr =>
    cases rr with
    | nil => simp at hlen
    | @cons d' v' ds vs r' rr =>
      cases rr with
      | cons _ _ => simp at hlen
      | nil =>
        obtain ⟨z, hz, q2⟩ := Post.some q1
        cases r with
        | int i =>
          cases r' with
          | int j =>
            simp only [rngD] at hz
            split at hz
            · rename_i ha
              split at hz
              · rename_i hb
                cases hz
                exact ⟨i, j, rfl, by omega, q2.here w1 (walkd_range i _)⟩
              · cases hz
            · cases hz
          | _ => cases hz
        | _ => cases hz
theorem sl_two (hs1 : starEach [l, r] X.env = (false, eval l X.env) :: starEach [r] X.env) (hs2 : starEach [r] X.env = (false, eval r X.env) :: starEach [] X.env) (ha : PE X l (RE X W fa)) (hb : PE X r (RE X W fb)) :
    PA X [l, r] (RL X W fun env st => (fa env st).bind fun x st => (fb env st).bind fun y st => .ok [x, y] st) := by
  refine PA.imp (pa_cons ha (pa_cons hb pa_nil hs2) hs1) fun σ H Q ⟨ρ, env, st, er, w, q⟩ => ?_
  refine Rdg.go er w q fun ρ1 d st1 v H1 e1 er1 w1 r1 q1 => ?_
  refine Rdg.go er1 w1 q1 fun ρ2 e st2 u H2 e2 er2 w2 r2 q2 => ?_
  exact q2.here w2 (.cons (r1.ext e2) (.cons r2 .nil))
theorem i_zip {elts : List Expr} {kk : Nat} {tpos : Pos} (hg : Gl X "zip") (hm : X.mg "zip" = none) (hs1 : starEach [l, r] X.env = (false, eval l X.env) :: starEach [r] X.env) (hs2 : starEach [r] X.env = (false, eval r X.env) :: starEach [] X.env)
    (hpl : (backTo pos (starEach [r] X.env)).any (·.1) = false) (ha : PE X l (RE X W fa)) (hb : PE X r (RE X W fb)) :
    PI X (.Tuple elts kk tpos) (.Call (.Name "zip" p) [l, r] [] pos) (RI X W fun env st => (fa env st).bind fun x st => (fb env st).bind fun y st => match x, y with
    | .tup xs, .tup ys => .ok (pairs xs ys) st
    | .lst xs, .lst ys => .ok (pairs xs ys) st
    | _, _ => .stuck) := by
  refine PI.imp (RZ.pi_zipA hg hm (sl_two hs1 hs2 ha hb) hs1 hpl) fun σ H R ⟨ρ, env, st, er, w, q⟩ => ?_
  have q' : Post X.K X.mg W σ ρ H (fun ρ H ds J => WalkD X.K X.mg ρ H J ds) (((fa env st).bind fun x st => (fb env st).bind fun y st => .ok [x, y] st).bind fun ds st => match ds with
    | [.tup xs, .tup ys] => .ok (pairs xs ys) st
    | [.lst xs, .lst ys] => .ok (pairs xs ys) st
    | _ => .stuck) R := by
    dsimp only at q
    revert q
    cases fa env st with
    | ok d1 s1 =>
      simp only [Res.bind_ok]
      cases fb env s1 with
      | ok d2 s2 => simp only [Res.bind_ok]; cases d1 <;> cases d2 <;> exact id
      | exc _ _ _ => exact id
      | stuck => exact id
    | exc _ _ _ => exact id
    | stuck => exact id
  refine Rdg.go (f := fun env st => (fa env st).bind fun x st => (fb env st).bind fun y st => .ok [x, y] st) er w q' fun ρ1 ds st1 vs H1 e1 er1 w1 r1 q1 => ?_
  split at q1
  · obtain ⟨x, y, rfl, rx, ry⟩ := repL2 r1
    cases rx with
    | @tup a xs _ t r =>
      cases ry with
      | @tup b ys _ t' r' =>
        refine ⟨a, b, xs, ys, rfl, .inr ⟨t.sq, t'.sq, q1.here w1 (walkd_zip walk_zipT' rfl r r' fun _ _ e => ⟨(t.ext e).sq, (t'.ext e).sq⟩)⟩⟩
  · obtain ⟨x, y, rfl, rx, ry⟩ := repL2 r1
    cases rx with
    | @lst a xs _ t r =>
      cases ry with
      | @lst b ys _ t' r' =>
        refine ⟨a, b, xs, ys, rfl, .inl ⟨t.sq, t'.sq, q1.here w1 (walkd_zip (walk_zip rfl) rfl r r' fun _ _ e => ⟨(t.ext e).sq, (t'.ext e).sq⟩)⟩⟩
  · exact q1.elim
theorem i_enum {elts : List Expr} {kk : Nat} {tpos : Pos} {fl : Env → Sto → Res (List D)} (hg : Gl X "enumerate") (hm : X.mg "enumerate" = none) (ha : PE X x (RE X W fa)) (hs : starEach [x] X.env = [(false, eval x X.env)]) :
    PI X (.Tuple elts kk tpos) (.Call (.Name "enumerate" p) [x] [] pos) (RI X W fun env st => (fa env st).bind fun x st => match x with
    | .lst xs => .ok (enumD 0 xs) st
    | _ => .stuck) := by
  refine PI.imp (pi_enum hg hm (pa_cons ha pa_nil hs) hs) fun σ H R ⟨ρ, env, st, er, w, q⟩ => ?_
  refine Rdg.go er w q fun ρ1 d st1 v H1 e1 er1 w1 r1 q1 => ?_
  cases r1 with
  | @lst a xs ds t r => exact ⟨a, xs, rfl, t.sq, q1.here w1 (walkd_enum t.rol r)⟩
  | _ => exact q1.elim
end

/-! ### targets -/
def PostT (K : PySem.W.Frag) (mg : Str → Option Value) (σ : L2.St) (ρ : Rho) (H : Hp) (sl : List Nat) (r : Res Env) (Q : L2.St → Hp → Prop) : Prop := match r with
  | .ok env st => ∀ σ' H' ρ', Ext ρ H ρ' H' → Wd K mg ρ' st H' → EnvRep K mg ρ' H' env σ' → σ'.length = σ.length → (∀ j, j ∉ sl → σ'[j]? = σ[j]?) → Q σ' H'
  | _ => False
def RT (X : Cx) (sl : List Nat) (g : D → Env → Sto → Res Env) : TG := fun v σ H Q => ∃ ρ d env st, Rep X.K X.mg ρ H d v ∧ EnvRep X.K X.mg ρ H env σ ∧ Wd X.K X.mg ρ st H ∧ PostT X.K X.mg σ ρ H sl (g d env st) Q
def RTs (X : Cx) (sl : List Nat) (g : List D → Env → Sto → Res Env) : TGs := fun vs σ H Q => ∃ ρ ds env st, RepL X.K X.mg ρ H ds vs ∧ EnvRep X.K X.mg ρ H env σ ∧ Wd X.K X.mg ρ st H ∧ PostT X.K X.mg σ ρ H sl (g ds env st) Q
section
variable {X : Cx} {W : WX} {x l r tg : Expr} {pos p : Pos} {fa fb : Env → Sto → Res D} {sl sl' : List Nat}
theorem PG.imp {t t' : TG} (h : PG X x t) (i : ∀ v σ H Q, t' v σ H Q → t v σ H Q) : PG X x t' := ⟨fun ps s σ H v u Q I rv q => h.run ps s σ H v u Q I rv (i v σ H Q q)⟩
theorem PGs.imp {xs : List Expr} {t t' : TGs} (h : PGs X xs t) (i : ∀ v σ H Q, t' v σ H Q → t v σ H Q) : PGs X xs t' := ⟨fun ps s σ H v u Q I rv q => h.run ps s σ H v u Q I rv (i v σ H Q q)⟩
theorem g_name {i : Nat} {y : Str} (hN : X.N.Nodup) (hi : X.N[i]? = some y) (hx : Loc X.env.scope y) (hf : X.fn y = true ∨ X.env.scope.names.lookup y = some .local) (hs : i ∈ sl) :
    PG X (.Name y pos) (RT X sl fun d env st => .ok (env.set i (some d)) st) := by
  refine PG.imp (pg_name hN hi hx hf) fun v σ H Q ⟨ρ, d, env, st, rd, er, w, q⟩ => ?_
  exact q _ _ ρ (Ext.refl _ _) w (er.set rd i) (by simp) fun j hj => List.getElem?_set_ne fun e => hj (by rw [← e]; exact hs)
theorem g_tup {xs : List Expr} {kk n : Nat} {g : List D → Env → Sto → Res Env} (hc : X.calm = true) (h : PGs X xs (RTs X sl g)) (hn : (assignEach xs X.env).length = n) (hst : (assignEach xs X.env).findIdx? (·.1) = none) :
    PG X (.Tuple xs kk pos) (RT X sl fun d env st => match d with
      | .tup ds => if ds.length = n then g ds env st else .stuck
      | _ => .stuck) := by
  refine PG.imp (pg_tup hc h hn hst) fun v σ H Q ⟨ρ, d, env, st, rd, er, w, q⟩ => ?_
  cases rd with
  | @tup a vs ds t r =>
    dsimp only at q
    split at q
    · rename_i hl
      exact ⟨a, vs, rfl, t.sq, by rw [← r.length]; exact hl, ρ, ds, env, st, r, er, w, q⟩
    · exact q.elim
  | _ => exact q.elim
theorem gs_nil {g : List D → Env → Sto → Res Env} (hg : ∀ ds env st, g ds env st = match ds with
    | [] => .ok env st
    | _ => .stuck) : PGs X [] (RTs X sl g) := by
  refine PGs.imp pgs_nil fun vs σ H Q ⟨ρ, ds, env, st, rd, er, w, q⟩ => ?_
  rw [hg] at q
  cases rd with
  | nil => exact ⟨rfl, q _ _ ρ (Ext.refl _ _) w er rfl fun _ _ => rfl⟩
  | cons _ _ => exact q.elim
theorem gs_cons {xs : List Expr} {g : D → Env → Sto → Res Env} {g' : List D → Env → Sto → Res Env} (hs : (assignEach (x :: xs) X.env).map (·.2) = assign x X.env :: (assignEach xs X.env).map (·.2)) (h1 : PG X x (RT X sl g)) (h2 : PGs X xs (RTs X sl g')) :
    PGs X (x :: xs) (RTs X sl fun ds env st => match ds with
      | [] => .stuck
      | d :: ds => (g d env st).bind fun env st => g' ds env st) := by
  refine PGs.imp (pgs_cons h1 h2 hs) fun vs σ H Q ⟨ρ, ds, env, st, rd, er, w, q⟩ => ?_
  cases rd with
  | nil => exact q.elim
  | @cons d v ds vs r rr =>
    refine ⟨v, vs, rfl, ρ, d, env, st, r, er, w, ?_⟩
    dsimp only at q
    cases e : g d env st with
    | ok env1 st1 =>
      rw [e] at q
      refine fun σ1 H1 ρ1 e1 w1 er1 hl1 hj1 => ⟨ρ1, ds, env1, st1, rr.ext e1, er1, w1, ?_⟩
      simp only [Res.bind_ok] at q
      cases e2 : g' ds env1 st1 with
      | ok env2 st2 =>
        rw [e2] at q
        exact fun σ2 H2 ρ2 e2 w2 er2 hl2 hj2 => q σ2 H2 ρ2 (e1.trans e2) w2 er2 (hl2.trans hl1) fun j hj => (hj2 j hj).trans (hj1 j hj)
      | exc _ _ _ => rw [e2] at q; exact q
      | stuck => rw [e2] at q; exact q
    | exc _ _ _ => rw [e] at q; exact q
    | stuck => rw [e] at q; exact q
/-- a step of an expression within a target -/
theorem PostT.go {σ : L2.St} {ρ : Rho} {H : Hp} {st : Sto} {env : Env} {f : Env → Sto → Res D} {g : D → Sto → Res Env} {Q : L2.St → Hp → Prop} {Q' : VK}
    (er : EnvRep X.K X.mg ρ H env σ) (w : Wd X.K X.mg ρ st H) (h : PostT X.K X.mg σ ρ H sl ((f env st).bind g) Q)
    (k : ∀ ρ1 a st1 v H1, Ext ρ H ρ1 H1 → EnvRep X.K X.mg ρ1 H1 env σ → Wd X.K X.mg ρ1 st1 H1 → Rep X.K X.mg ρ1 H1 a v → PostT X.K X.mg σ ρ1 H1 sl (g a st1) Q → Q' v H1) : RE X W f σ H Q' := by
  refine ⟨ρ, env, st, er, w, ?_⟩
  cases e : f env st with
  | ok d st' =>
    rw [e] at h
    refine fun v H1 ρ1 e1 w1 r1 => k ρ1 d st' v H1 e1 (er.ext e1) w1 r1 ?_
    simp only [Res.bind_ok] at h
    revert h
    cases g d st' with
    | ok env2 st2 => exact fun h σ2 H2 ρ2 e2 => h σ2 H2 ρ2 (e1.trans e2)
    | exc _ _ _ => exact id
    | stuck => exact id
  | exc _ _ _ => rw [e] at h; exact h.elim
  | stuck => rw [e] at h; exact h
theorem g_sub (ho : PE X l (RE X W fa)) (hi : PE X r (RE X W fb))
    (ha : ∀ v, assign (.Subscript l r pos) X.env v = (do
      let ov ← holding [v] (eval l X.env)
      let iv ← holding [v, ov] (eval r X.env)
      standAt pos
      holding [v, ov, iv] (setItem ov iv v)
      release [v, ov, iv] [])) :
    PG X (.Subscript l r pos) (RT X sl fun d env st => (fa env st).bind fun x st => (fb env st).bind fun j st => match x, j with
    | .ref i, .int j => match st[i]? with
      | some (.lst xs) => if 0 ≤ j ∧ j < xs.length then .ok env (st.set i (.lst (xs.set j.toNat d))) else .stuck
      | _ => .stuck
    | _, _ => .stuck) := by
  refine PG.imp (pg_sub ho hi set_list ha) fun v σ H Q ⟨ρ, d, env, st, rd, er, w, q⟩ => ?_
  refine PostT.go er w q fun ρ1 x st1 vx H1 e1 er1 w1 r1 q1 => ?_
  refine PostT.go er1 w1 q1 fun ρ2 j st2 vj H2 e2 er2 w2 r2 q2 => ?_
  have rx := r1.ext e2
  have rdd := (rd.ext e1).ext e2
  cases rx with
  | @ref i a hi =>
    cases r2 with
    | int j =>
      obtain ⟨o, ho, ro⟩ := w2.get hi
      simp only [ho] at q2
      cases o with
      | lst xs =>
        simp only at q2
        split at q2
        · rename_i hj
          obtain ⟨vs, hv, rv⟩ := ro
          have hl := rv.length
          refine ⟨a, vs, j, j.toNat, rfl, rfl, hv, by unfold ixN; rw [if_pos hj.1, if_pos (by omega)], ?_⟩
          exact q2 σ _ ρ2 (Ext.put hi) (w2.put hi ⟨_, upd_same, (RepL.set rdd j.toNat rv).ext (Ext.put hi)⟩) (er2.ext (Ext.put hi)) rfl fun _ _ => rfl
        · exact q2.elim
    | _ => exact q2.elim
  | _ => first | exact q2.elim | (cases r2 <;> exact q2.elim)
end
end Mu

set_option linter.all false
set_option Elab.async false
/-! List comprehensions. -/
namespace Mu
open PySem PySem.Spec PyProof.Rows L2

abbrev W0 : WX := fun _ _ _ _ => False
theorem wipe_set {i : Nat} {x : Option V} : ∀ {vs : List Nat} {σ : L2.St}, i ∈ vs → L2.wipe (σ.set i x) vs = L2.wipe σ vs
  | [], _, h => by simp at h
  | v :: vs, σ, h => by
    unfold L2.wipe
    by_cases hv : i ∈ vs
    · rw [wipe_set hv]
    · have e : i = v := by
        rcases List.mem_cons.mp h with e | e
        · exact e
        · exact absurd e hv
      subst e
      have aux : ∀ {ws : List Nat} {σ : L2.St}, i ∉ ws → L2.wipe (σ.set i x) ws = (L2.wipe σ ws).set i x := by
        intro ws
        induction ws with
        | nil => intro σ _; rfl
        | cons w ws ih =>
          intro σ hn
          unfold L2.wipe
          rw [ih (fun m => hn (List.mem_cons_of_mem _ m)), List.set_comm]
          exact fun e => hn (by rw [e]; exact List.mem_cons_self)
      rw [aux hv, List.set_set]
theorem wipe_at : ∀ {vs : List Nat} {σ : L2.St} {j : Nat}, (L2.wipe σ vs)[j]? = if j ∈ vs then (σ[j]?).map (fun _ => none) else σ[j]?
  | [], _, _ => by simp [L2.wipe]
  | v :: vs, σ, j => by
    unfold L2.wipe
    by_cases e : v = j
    · subst e
      simp only [List.mem_cons, true_or, if_true]
      by_cases hl : v < σ.length
      · rw [List.getElem?_set_self (by rw [L2.wipe_length]; exact hl)]
        simp [hl]
      · rw [List.getElem?_eq_none (by rw [List.length_set, L2.wipe_length]; omega), List.getElem?_eq_none (by omega)]
        rfl
    · rw [List.getElem?_set_ne e, wipe_at]
      have : (j ∈ v :: vs) = (j ∈ vs) := by simp [List.mem_cons, Ne.symm e]
      simp only [this]
theorem wipe_eq {vs sl : List Nat} {σ σ' : L2.St} (hl : σ'.length = σ.length) (hj : ∀ j, j ∉ sl → σ'[j]? = σ[j]?) (hs : ∀ j ∈ sl, j ∈ vs) : L2.wipe σ' vs = L2.wipe σ vs := by
  refine List.ext_getElem? fun j => ?_
  rw [wipe_at, wipe_at]
  by_cases h : j ∈ vs
  · rw [if_pos h, if_pos h]
    by_cases h2 : j < σ.length
    · simp [h2, hl]
    · rw [List.getElem?_eq_none (by omega), List.getElem?_eq_none (by omega)]
  · rw [if_neg h, if_neg h]
    exact hj j fun m => h (hs j m)
theorem wipe_wipe {vs : List Nat} {σ : L2.St} : L2.wipe (L2.wipe σ vs) vs = L2.wipe σ vs := by
  refine List.ext_getElem? fun j => ?_
  rw [wipe_at, wipe_at]
  by_cases h : j ∈ vs
  · simp only [h, if_true]
    cases σ[j]? <;> rfl
  · simp [h]

section
variable {X : Cx} {W : WX} {gi : Env → Sto → Res (List D)} {gt : D → Env → Sto → Res Env} {ft : Env → Sto → Res Bool} {fe : Env → Sto → Res D} {sl vs : List Nat} {rr : Bool}
/-- the reading of a comprehension -/
theorem lc_read (hsl : ∀ j ∈ sl, j ∈ vs) {σ : L2.St} {H : Hp} {Q : VK} (h : RE X W (compR gi gt ft fe vs rr) σ H Q) :
    tLc (RI X W gi) (RT X sl gt) (RB X W0 ft) (RE X W0 fe) vs σ H Q := by
  obtain ⟨ρ, env, st, er, w, q⟩ := h
  unfold compR at q
  refine Rdg.go er w q fun ρ1 ds st1 J H1 e1 er1 w1 walk q1 => ?_
  intro L hL
  have fin := fun (L0 : L ∉ ρ1.no) => True
  have hLn : L ∉ ρ1.no := fun m => (w1.pv L m).1 hL
  refine ⟨fun i m Hc => ∃ ρ' st' acc vs', i ≤ ds.length ∧ m = ds.length - i ∧ L ∈ ρ'.no ∧ (∀ b ∈ ρ1.no, b ∈ ρ'.no) ∧ Ext ρ1 H1 ρ' Hc ∧ Wd X.K X.mg ρ' st' Hc ∧ Hc L = some (.lst vs') ∧ RepL X.K X.mg ρ' Hc acc vs' ∧
    Post X.K X.mg W σ ρ1 H1 (Rep X.K X.mg) ((compL (turnC gt ft fe vs env) (ds.drop i) acc st').bind fun ds st => if rr then .ok (D.ref st.length) (st ++ [O.lst ds]) else .ok (D.lst ds) st) Q,
    ⟨ds.length, ρ1.hide L, st1, [], [], Nat.zero_le _, rfl, List.mem_cons_self, fun b m => List.mem_cons_of_mem _ m, Ext.hide hL, w1.hide hL, upd_same, .nil, q1⟩, ?_⟩
  rintro i m Hc ⟨ρ', st', acc, vs', hi, rfl, hLm, hsub, ex, wc, hcL, racc, qc⟩
  obtain ⟨go, stop, yld⟩ := walk ρ' Hc ex
  by_cases hlt : i < ds.length
  · refine .inr ⟨go i hlt, fun H' => ∃ ρ' st' acc vs', L ∈ ρ'.no ∧ (∀ b ∈ ρ1.no, b ∈ ρ'.no) ∧ Ext ρ1 H1 ρ' H' ∧ Wd X.K X.mg ρ' st' H' ∧ H' L = some (.lst vs') ∧ RepL X.K X.mg ρ' H' acc vs' ∧
      Post X.K X.mg W σ ρ1 H1 (Rep X.K X.mg) ((compL (turnC gt ft fe vs env) (ds.drop (i + 1)) acc st').bind fun ds st => if rr then .ok (D.ref st.length) (st ++ [O.lst ds]) else .ok (D.lst ds) st) Q,
      fun H' ⟨ρ2, st2, acc2, vs2, a1, a2, a3, a4, a5, a6, a7⟩ => ⟨ds.length - (i + 1), by omega, ρ2, st2, acc2, vs2, by omega, rfl, a1, a2, a3, a4, a5, a6, a7⟩, fun x H' y => ?_⟩
    obtain ⟨ey, wy, d, hd, rd⟩ := yld i x H' hlt y st' wc
    have hLix : L ∉ ρ'.ix := (wc.pv L hLm).2
    have keep : ∀ {ρa ρb : Rho} {Ha Hb : Hp}, Ext ρa Ha ρb Hb → L ∈ ρa.no → L ∈ ρb.no := fun e m => by
      obtain ⟨l, e2, _⟩ := e.no
      rw [e2]
      exact List.mem_append_right _ m
    have keepS : ∀ {ρa ρb : Rho} {Ha Hb : Hp}, Ext ρa Ha ρb Hb → (∀ b ∈ ρ1.no, b ∈ ρa.no) → ∀ b ∈ ρ1.no, b ∈ ρb.no := fun e m b hb => by
      obtain ⟨l, e2, _⟩ := e.no
      rw [e2]
      exact List.mem_append_right _ (m b hb)
    have hdrop : ds.drop i = d :: ds.drop (i + 1) := by
      rw [List.drop_eq_getElem_cons hlt]
      congr 1
      have := List.getElem?_eq_getElem hlt
      rw [this] at hd
      exact Option.some.inj hd
    rw [hdrop] at qc
    have ery : EnvRep X.K X.mg ρ' H' (wipeE env vs) (L2.wipe σ vs) := ((er1.ext ex).ext ey).wipe vs
    -- the target
    refine ⟨ρ', d, wipeE env vs, st', rd, ery, wy, ?_⟩
    have qc : Post X.K X.mg W σ ρ1 H1 (Rep X.K X.mg) (((turnC gt ft fe vs env d st').bind fun o st => match o with
        | some d => if acc.length < sizeLine then compL (turnC gt ft fe vs env) (ds.drop (i + 1)) (acc ++ [d]) st else .stuck
        | none => compL (turnC gt ft fe vs env) (ds.drop (i + 1)) acc st).bind fun ds st => if rr then .ok (D.ref st.length) (st ++ [O.lst ds]) else .ok (D.lst ds) st) Q := qc
    unfold turnC at qc
    cases hg : gt d (wipeE env vs) st' with
    | exc _ _ _ => rw [hg] at qc; exact qc.elim
    | stuck => rw [hg] at qc; exact qc.elim
    | ok env2 st2 =>
      rw [hg] at qc
      simp only [Res.bind_ok] at qc
      intro σ2 H2 ρ2 e2 w2 er2 hl2 hj2
      refine ⟨?_, ?_⟩
      · rw [wipe_eq hl2 hj2 hsl, wipe_wipe]
      -- the test
      refine ⟨ρ2, env2, st2, er2, w2, ?_⟩
      cases ht : ft env2 st2 with
      | exc _ _ _ => rw [ht] at qc; exact qc.elim
      | stuck => rw [ht] at qc; exact qc.elim
      | ok b st3 =>
        rw [ht] at qc
        simp only [Res.bind_ok] at qc
        intro b' H3 ρ3 e3 w3 hb
        subst hb
        cases b with
        | false =>
          simp only [Bool.false_eq_true, if_false, Res.still_ok, Res.bind_ok] at qc ⊢
          have e123 := (ey.trans e2).trans e3
          have hL3 : H3 L = some (.lst vs') := e123.same _ _ hcL hLix
          exact ⟨ρ3, st3, acc, vs', keep e123 hLm, keepS e123 hsub, ex.trans e123, w3, hL3, racc.ext e123, qc⟩
        | true =>
          simp only [if_true] at qc ⊢
          refine ⟨ρ3, env2, st3, er2.ext e3, w3, ?_⟩
          cases he : fe env2 st3 with
          | exc _ _ _ => rw [he] at qc; exact qc.elim
          | stuck => rw [he] at qc; exact qc.elim
          | ok z st4 =>
            rw [he] at qc
            simp only [Res.bind_ok, Res.still_ok] at qc
            intro zv H4 ρ4 e4 w4 rz
            have e14 := ((ey.trans e2).trans e3).trans e4
            have hL4 : H4 L = some (.lst vs') := e14.same _ _ hcL hLix
            have racc4 := racc.ext e14
            have hlen := racc4.length
            split at qc
            · rename_i hsz
              refine ⟨vs', hL4, by rw [← hlen]; exact hsz, ρ4, st4, acc ++ [z], vs' ++ [zv], keep e14 hLm, keepS e14 hsub, ?_, w4.priv (keep e14 hLm), upd_same, (racc4.append (.cons rz .nil)).priv (keep e14 hLm), qc⟩
              have ee := ex.trans e14
              refine ⟨ee.no, ee.more, fun a o ha hn => ?_, fun a ha => ee.live a (upd_live ha)⟩
              rw [upd_ne (ne_of_none ha hL)]
              exact ee.same a o ha hn
            · exact qc.elim
  · have ei : i = ds.length := by omega
    subst ei
    refine .inl ⟨stop, ?_⟩
    rw [List.drop_eq_nil_of_le (Nat.le_refl _)] at qc
    have qc : Post X.K X.mg W σ ρ1 H1 (Rep X.K X.mg) (if rr then .ok (D.ref st'.length) (st' ++ [O.lst acc]) else .ok (D.lst acc) st') Q := qc
    have exs : Ext ρ1 H1 (ρ'.show ρ1.no) Hc := ⟨⟨[], rfl, by simp⟩, ex.more, ex.same, ex.live⟩
    cases rr with
    | false =>
      simp only [Bool.false_eq_true, if_false] at qc
      exact qc.ok exs (wc.show hsub) (.lst ⟨hcL, (wc.pv L hLm).2, hLn⟩ (racc.show hsub))
    | true =>
      simp only [if_true] at qc
      refine qc.ok ?_ (wc.own hLm hsub hLn hcL racc) (.ref (wc.show hsub).last)
      obtain ⟨l, e2, hl⟩ := ex.more
      refine ⟨⟨[], rfl, by simp⟩, ⟨l ++ [L], ?_, fun a m => ?_⟩, ex.same, ex.live⟩
      · show ρ'.ix ++ [L] = ρ1.ix ++ (l ++ [L])
        rw [e2, List.append_assoc]
      · rcases List.mem_append.mp m with m | m
        · exact hl a m
        · have : a = L := by simpa using m
          rw [this]; exact hL

variable {tg iter elt : Expr} {ifs : List Expr} {scope : Scope} {own : List (Str × Nat)} {pos : Pos}
theorem s_comp (hc : X.calm = true) (hN : X.N.Nodup) (hi : PI X tg iter (RI X W gi)) (ok : BlkOk X.N X.env.scope scope own)
    (hg : ∀ (s : Shared) (H : Hp) (C : Addr) (cl : List (Str × Addr)) (fp : List Addr), PG (X.blk s H scope (compEnvC scope cl C X.env) fp) tg (RT X sl gt))
    (ht : ∀ (s : Shared) (H : Hp) (C : Addr) (cl : List (Str × Addr)) (fp : List Addr), PTs (X.blk s H scope (compEnvC scope cl C X.env) fp) ifs (RB X W0 ft))
    (he : ∀ (s : Shared) (H : Hp) (C : Addr) (cl : List (Str × Addr)) (fp : List Addr), PE (X.blk s H scope (compEnvC scope cl C X.env) fp) elt (RE X W0 fe))
    (hs : ∀ x, foldedSetIterable iter X.env x = pure x) (hsl : ∀ j ∈ sl, j ∈ own.map (·.2)) :
    PE X (.ListComp elt [⟨tg, iter, ifs, 0⟩] scope pos) (RE X W (compR gi gt ft fe (own.map (·.2)) rr)) :=
  PE.imp (pe_lc hc hN hi ok hg ht he hs) fun σ H Q h => lc_read hsl h
end
end Mu

set_option linter.all false
set_option Elab.async false
/-! The tie between the text's own trees and the interpreter's, and: expressions are sound. -/
namespace Mu
open PySem PySem.Spec PyProof.Rows L2

/-! ### the check -/
/-- where a piece of text stands: the slots' names, the scope, which cells were made at the entry -/
structure Ct where
  N : List Str
  sc : Scope
  fnB : Str → Bool
  fnT : Str → Bool
def Ct.kind (c : Ct) (x : Str) : Option NameKind := c.sc.names.lookup x
def Ct.vis (c : Ct) (x : Str) : Bool := match c.kind x with
  | some .local => true
  | some .cell => true
  | some .free => true
  | _ => false
def Ct.loc (c : Ct) (x : Str) : Bool := match c.kind x with
  | some .local => true
  | some .cell => true
  | _ => false
def Ct.gl (c : Ct) (x : Str) : Bool := match c.kind x with
  | some .globalImplicit => true
  | _ => false
def Ct.mine (c : Ct) (x : Str) : Bool := c.fnB x || match c.kind x with
  | some .local => true
  | _ => false
def Ct.blk (c : Ct) (scope : Scope) : Ct := ⟨c.N, relS scope c.sc, fun x => scope.names.lookup x == some .cell, c.fnT⟩
def okName (y : Str) : Bool := !(y == ("__debug__" : Str)) && !(y == ("__classdict__" : Str)) && !decide (y = ("__name__" : Str))
def nStar : Expr → Bool
  | .Starred .. => false
  | _ => true
def nSlice : Expr → Bool
  | .Slice .. => false
  | _ => true
def nSet : Expr → Bool
  | .Set .. => false
  | _ => true
def nComp : Expr → Bool
  | .ListComp .. => false
  | .SetComp .. => false
  | .DictComp .. => false
  | _ => true
def plainT : Expr → Bool
  | .UnaryOp .Not _ _ => false
  | .BoolOp .. => false
  | .IfExp .. => false
  | .Compare .. => false
  | _ => true
def litB : D → Const → Bool
  | .non, .none => true
  | .bl a, .bool b => a == b
  | .int a, .int b => decide (a = b)
  | .str a, .str b => decide (a = b)
  | _, _ => false
/-- slots that a target stores -/
def tgS : Tg → List Nat
  | .name i => [i]
  | .tup ts => tgSs ts
  | .sub _ _ => []
where tgSs : List Tg → List Nat
  | [] => []
  | t :: ts => tgS t ++ tgSs ts
def zipAll {α β : Type} (f : α → β → Bool) : List α → List β → Bool
  | [], [] => true
  | a :: as, b :: bs => f a b && zipAll f as bs
  | _, _ => false

mutual
def chkE (c : Ct) : Nat → E → Expr → Bool
  | 0, _, _ => false
  | n + 1, e, x => match e, x with
    | .var i, .Name y _ => decide (c.N[i]? = some y) && c.vis y && okName y
    | .lit d, .Constant v _ _ => litB d v
    | .con z, .Name y _ => decide (z = y) && c.gl y && okName y
    | .bty z, .Name y _ => decide (z = y) && c.gl y && okName y
    | .bin o a b, .BinOp l p r _ => decide (o = p) && chkE c n a l && chkE c n b r
    | .neg a, .UnaryOp .USub l _ => chkE c n a l
    | .cmp o a b, .Compare l [p] [r] _ => decide (o = p) && !behindInMarks o r && chkE c n a l && chkE c n b r
    | .cmp2 o p a b d, .Compare l [o', p'] [r, s] _ => decide (o = o') && decide (p = p') && !lastMarks [o, p] [r, s] && chkE c n a l && chkE c n b r && chkE c n d s
    | .not a, .UnaryOp .Not l _ => chkE c n a l
    | .and a b, .BoolOp .And (l :: r :: rest) pos => chkE c n a l && (match rest with | [] => chkE c n b r | _ => chkE c n b (.BoolOp .And (r :: rest) pos))
    | .or a b, .BoolOp .Or (l :: r :: rest) pos => chkE c n a l && (match rest with | [] => chkE c n b r | _ => chkE c n b (.BoolOp .Or (r :: rest) pos))
    | .ite t a b, .IfExp u l r _ => chkT c n t u && chkE c n a l && chkE c n b r
    | .tup es, .Tuple xs _ _ => xs.all nStar && zipAll (fun e x => chkE c n e x) es xs
    | .lst es, .List xs _ => xs.all nStar && zipAll (fun e x => chkE c n e x) es xs
    | .lstR es, .List xs _ => xs.all nStar && zipAll (fun e x => chkE c n e x) es xs
    | .call f es, .Call (.Name y _) xs [] _ => decide (f = y) && c.fnT f && c.gl y && okName y && xs.all nStar && zipAll (fun e x => chkE c n e x) es xs
    | .blt f es, .Call (.Name y _) xs [] _ => (bltTab.lookup f).isSome && decide (f = y) && c.gl y && okName y && !xs.isEmpty && xs.all nStar && zipAll (fun e x => chkE c n e x) es xs
    | .idx a i, .Subscript l r _ => nSlice r && chkE c n a l && chkE c n i r
    | .slc a lo hi, .Subscript l (.Slice p q none _) _ => chkE c n a l && chkO c n lo p && chkO c n hi q
    | .rev a, .Subscript l (.Slice none none (some (.UnaryOp .USub (.Constant (.int 1) _ _) _)) _) _ => chkE c n a l
    | .comp _ el tg it cond own, .ListComp x [⟨t, i, ifs, 0⟩] scope _ => blkC c.N c.sc scope own && chkI c n t it i && nSet i && chkG (c.blk scope) n tg t && (tgS tg).all (fun j => (own.map (·.2)).contains j) &&
        (match cond, ifs with
          | none, [] => true
          | some e, [y] => chkT (c.blk scope) n e y
          | _, _ => false) && chkE (c.blk scope) n el x
    | _, _ => false
def chkT (c : Ct) : Nat → E → Expr → Bool
  | 0, _, _ => false
  | n + 1, e, x => match e, x with
    | .not a, .UnaryOp .Not l _ => chkT c n a l
    | .and a b, .BoolOp .And (l :: r :: rest) pos => chkT c n a l && (match rest with | [] => chkT c n b r | _ => chkT c n b (.BoolOp .And (r :: rest) pos))
    | .or a b, .BoolOp .Or (l :: r :: rest) pos => chkT c n a l && (match rest with | [] => chkT c n b r | _ => chkT c n b (.BoolOp .Or (r :: rest) pos))
    | .cmp o a b, .Compare l [p] [r] _ => decide (o = p) && !behindInMarks o r && chkE c n a l && chkE c n b r
    | .cmp2 o p a b d, .Compare l [o', p'] [r, s] _ => decide (o = o') && decide (p = p') && !lastMarks [o, p] [r, s] && chkE c n a l && chkE c n b r && chkE c n d s
    | .not _, _ => false
    | .and _ _, _ => false
    | .or _ _, _ => false
    | .cmp _ _ _, _ => false
    | .cmp2 _ _ _ _ _, _ => false
    | .ite _ _ _, _ => false
    | e, x => plainT x && chkE c n e x
def chkO (c : Ct) : Nat → Option E → Option Expr → Bool
  | 0, _, _ => false
  | n + 1, e, x => match e, x with
    | none, none => true
    | some e, some x => chkE c n e x
    | _, _ => false
def chkI (c : Ct) : Nat → Expr → Iz → Expr → Bool
  | 0, _, _, _ => false
  | n + 1, t, it, i => match it, i with
    | .seq e, x => chkE c n e x
    | .rng [a], .Call (.Name y _) [x] [] _ => decide (y = ("range" : Str)) && c.gl y && nStar x && chkE c n a x
    | .rng [a, b], .Call (.Name y _) [x, z] [] _ => decide (y = ("range" : Str)) && c.gl y && nStar x && nStar z && chkE c n a x && chkE c n b z
    | .zip a b, .Call (.Name y _) [x, z] [] _ => decide (y = ("zip" : Str)) && c.gl y && nStar x && nStar z && (match t with | .Tuple _ _ _ => true | _ => false) && chkE c n a x && chkE c n b z
    | .enum a, .Call (.Name y _) [x] [] _ => decide (y = ("enumerate" : Str)) && c.gl y && nStar x && (match t with | .Tuple _ _ _ => true | _ => false) && chkE c n a x
    | _, _ => false
def chkG (c : Ct) : Nat → Tg → Expr → Bool
  | 0, _, _ => false
  | n + 1, t, x => match t, x with
    | .name i, .Name y _ => decide (c.N[i]? = some y) && c.loc y && c.mine y
    | .tup ts, .Tuple xs _ _ => xs.all nStar && zipAll (fun t x => chkG c n t x) ts xs
    | .sub a i, .Subscript l r _ => nSlice r && chkE c n a l && chkE c n i r
    | _, _ => false
end

/-! ### defs that may raise, where no object is under way -/
structure FnG (P : Program) (w : World) (K : PySem.W.Frag) (mg : Str → Option Value) (base : Heap) (k : Nat) (f : Addr) (fd : FuncData) (ps : List Str) (sp : Sp) : Prop where
  len : ∀ vs H Q E, sp vs H Q E → vs.length = ps.length
  run : ∀ (A : Around) (outer : List PySem.Env) (s : Shared) (H : Hp) (args : Args) (us : List Value) (vs : List V) (Q : VK) (E : XK), Room k A → A.guards = some [] → Env0 P w K mg base A outer s H →
    BindsTo s fd args (ps.zip us) → Vals vs us → sp vs H Q E → codeAny (model P w) A (.call (.ref f) args) (CR (L2.CX P w) outer P w H s Q E) s
/-- what a def promises: what the interpreter's call says -/
def spC (K : PySem.W.Frag) (mg : Str → Option Value) (n : Nat) (call : List D → Sto → Res D) : Sp := fun vs H Q E => vs.length = n ∧ ∃ ρ ds st, RepL K mg ρ H ds vs ∧ Wd K mg ρ st H ∧ Post K mg (fun c d _ H => E c d H) [] ρ H (Rep K mg) (call ds st) Q
section
variable {X : Cx} {W : WX} {k : Nat} {f : Addr} {fd : FuncData} {ps : List Str} {sp : Sp} {x : Str} {p pos : Pos} {e : Expr} {es : List Expr} {t : TA}
theorem run_fnG {pins : List (Addr × Obj)} {σ : L2.St} {H : Hp} {s : Shared} {Q : VK} {us ws : List Value} {vs zs : List V} (F : FnG X.prog X.w X.K X.mg X.base k f fd ps sp) (hr : Room k X.A) (hg : X.A.guards = some []) (hb : Binds X.K fd ps ws) (rz : Vals zs ws) (tk : Takes X W)
    (I : Inv X pins σ H s) (r : Vals vs us) (h : sp (vs ++ zs) H Q (WE W σ)) : wpAny (model X.prog X.w) X.A (call (.ref f) us) (EP X pins σ Q) X.xe s := by
  have r2 : Vals (vs ++ zs) (us ++ ws) := r.append rz
  have hl : (us ++ ws).length = ps.length := by rw [← r2.length]; exact F.len _ _ _ _ h
  have q := F.run X.A X.stack s H ⟨us, []⟩ (us ++ ws) (vs ++ zs) Q (WE W σ) hr hg I.env0 (hb s us I.kIn hl) r2 h
  refine wpAny_call (codeAny_mono q fun r s' hq => ?_)
  match r, hq with
  | .error e, hq => exact passAt tk σ pins H s e s' I hq
  | .ok (.ret u), hq => exact I.after hq
/-- a call of what stands at f, however it runs -/
def CallAt (X : Cx) (f : Addr) (r : L2.St → List V → Hp → VK → Prop) : Prop :=
  ∀ (pins : List (Addr × Obj)) (s : Shared) (σ : L2.St) (H : Hp) (xs : List V) (us : List Value) (Q : VK), Inv X pins σ H s → Vals xs us → r σ xs H Q → wpAny (model X.prog X.w) X.A (call (.ref f) us) (EP X pins σ Q) X.xe s
theorem pe_callK {r : L2.St → List V → Hp → VK → Prop} (hc : CallAt X f r) (hgl : Gl X x) (hm : X.mg x = some (.ref f)) (hk : PySem.W.keepIn X.K (.ref f) = true)
    (ha : PA X (e :: es) t) (hdb : (x == ("__debug__" : Str)) = false) (he : starEach (e :: es) X.env = (false, eval e X.env) :: starEach es X.env) (hpl : (backTo pos (starEach es X.env)).any (·.1) = false) :
    PE X (.Call (.Name x p) (e :: es) [] pos) (fun σ H Q => t σ H fun vs H1 => r σ vs H1 Q) := by
  refine ⟨fun pins s σ H Q I h => wpAny_Call_Name_kw (ld_glob I hgl hm ?_ hdb)⟩
  refine PySem.W.callWith_K (h₀ := X.base) I.ok.mod.kin hk (thn (ha.run pos pins s σ H _ I h) fun us s1 hq => ?_) he hpl
  obtain ⟨vs, H1, I1, r, q⟩ := hq
  exact ⟨I1.kIn, hc pins s1 σ H1 vs us Q I1 r q⟩
theorem pe_callK0 {r : L2.St → List V → Hp → VK → Prop} (hc : CallAt X f r) (hgl : Gl X x) (hm : X.mg x = some (.ref f)) (hk : PySem.W.keepIn X.K (.ref f) = true)
    (hdb : (x == ("__debug__" : Str)) = false) : PE X (.Call (.Name x p) [] [] pos) (fun σ H Q => r σ [] H Q) := by
  refine ⟨fun pins s σ H Q I h => wpAny_Call_Name_kw (ld_glob I hgl hm ?_ hdb)⟩
  exact PySem.W.callWith_K0 I.kIn hk (hc pins s σ H [] [] Q I .nil h)
end

/-! ### what a context must bear -/
def blts : List Str := ["len", "abs", "min", "max", "int", "bool", "str", "tuple", "list", "dict", "all", "isinstance", "repr", "range", "zip", "enumerate"]
structure Good (C : Cf) (c : Ct) (W : WX) (X : Cx) : Prop where
  N : X.N = c.N
  sc : X.env.scope = c.sc
  fn : ∀ x, c.fnB x = true → X.fn x = true
  nd : X.N.Nodup
  cx : Ctx X
  room : Room C.k X.A
  tk : Takes X W
  call : ∀ f, c.fnT f = true → ∃ a fd ps, X.mg f = some (.ref a) ∧ PySem.W.keepIn X.K (.ref a) = true ∧ FnG X.prog X.w X.K X.mg X.base C.k a fd ps (spC X.K X.mg ps.length (C.call f)) ∧
    ∀ n, (∀ ds st, ds.length = n → C.call f ds st = .stuck) ∨ ∃ (pad : List D) (zs : List V) (ws : List Value), n + pad.length = ps.length ∧ Vals zs ws ∧ (∀ ρ H, RepL X.K X.mg ρ H pad zs) ∧ Binds X.K fd ps ws ∧
      ∀ ds st, ds.length = n → C.call f ds st = C.call f (ds ++ pad) st
  con : ∀ x d, C.con x = some d → ∃ v u, X.mg x = some u ∧ RelV v u ∧ ∀ ρ H, Rep X.K X.mg ρ H d v
  blt : ∀ x ∈ blts, X.mg x = none
section
variable {C : Cf} {c : Ct} {W : WX} {X : Cx}
theorem Good.blk (G : Good C c W X) (s : Shared) (H : Hp) (scope : Scope) (a : Addr) (cl : List (Str × Addr)) (fp : List Addr) : Good C (c.blk scope) W0 (X.blk s H scope (compEnvC scope cl a X.env) fp) :=
  ⟨G.N, by show relS scope X.env.scope = relS scope c.sc; rw [G.sc], fun x h => h, G.nd, ⟨G.cx.calm, G.cx.gd, G.cx.seer, G.cx.tree, G.cx.plain⟩, G.room, takes0, G.call, G.con, G.blt⟩
theorem Good.visOk (G : Good C c W X) {x : Str} (h : c.vis x = true) : Vis X.env.scope x := by
  unfold Vis
  rw [G.sc]
  unfold Ct.vis Ct.kind at h
  split at h
  · exact .inl (by assumption)
  · exact .inr (.inl (by assumption))
  · exact .inr (.inr (by assumption))
  · cases h
theorem Good.locOk (G : Good C c W X) {x : Str} (h : c.loc x = true) : L2.Loc X.env.scope x := by
  unfold L2.Loc
  rw [G.sc]
  unfold Ct.loc Ct.kind at h
  split at h
  · exact .inl (by assumption)
  · exact .inr (by assumption)
  · cases h
theorem Good.glOk (G : Good C c W X) {x : Str} (h : c.gl x = true) : Gl X x := by
  show X.env.scope.names.lookup x = some .globalImplicit
  rw [G.sc]
  unfold Ct.gl Ct.kind at h
  split at h
  · assumption
  · cases h
theorem Good.mineOk (G : Good C c W X) {x : Str} (h : c.mine x = true) : X.fn x = true ∨ X.env.scope.names.lookup x = some .local := by
  unfold Ct.mine at h
  rw [Bool.or_eq_true] at h
  rcases h with h | h
  · exact .inl (G.fn x h)
  · right
    rw [G.sc]
    unfold Ct.kind at h
    split at h
    · assumption
    · cases h
theorem okName_of {y : Str} (h : okName y = true) : (y == ("__debug__" : Str)) = false ∧ (y == ("__classdict__" : Str)) = false ∧ y ≠ ("__name__" : Str) := by
  unfold okName at h
  simp only [Bool.and_eq_true, Bool.not_eq_true', decide_eq_false_iff_not] at h
  exact ⟨h.1.1, h.1.2, h.2⟩
theorem star_of {x : Expr} {xs : List Expr} {env : PySem.Env} (h : nStar x = true) : starEach (x :: xs) env = (false, eval x env) :: starEach xs env := by
  cases x <;> first | rfl | cases h
theorem plain_of : ∀ {xs : List Expr} {env : PySem.Env} {pos : Pos}, xs.all nStar = true → (backTo pos (starEach xs env)).any (·.1) = false
  | [], _, _, _ => rfl
  | x :: xs, env, pos, h => by
    rw [List.all_cons, Bool.and_eq_true] at h
    rw [star_of h.1]
    have q := plain_of (xs := xs) (env := env) (pos := pos) h.2
    show (false || _) = false
    rw [Bool.false_or]
    exact q
theorem slice_of {x : Expr} (h : nSlice x = true) : PlainIx x := by
  intro o i
  cases x <;> first | rfl | cases h
theorem set_of {x : Expr} (h : nSet x = true) (env : PySem.Env) : ∀ v, foldedSetIterable x env v = pure v := by
  intro v
  cases x <;> first | rfl | cases h
theorem plainT_of {x : Expr} {env : PySem.Env} (h : plainT x = true) : ∀ whole, isTrue x env whole = (do let v ← whole; standAt x.pos; holding [v] (truthy v)) := by
  intro whole
  cases x with
  | UnaryOp o a p => cases o <;> first | rfl | cases h
  | BoolOp _ _ _ => cases h
  | IfExp _ _ _ _ => cases h
  | Compare _ _ _ _ => cases h
  | _ => rfl
theorem assign_of {x : Expr} {xs : List Expr} {env : PySem.Env} (h : nStar x = true) : assignEach (x :: xs) env = (false, assign x env) :: assignEach xs env := by
  cases x <;> first | rfl | cases h
theorem assigns_of : ∀ {xs : List Expr} {env : PySem.Env}, xs.all nStar = true → (assignEach xs env).length = xs.length ∧ (assignEach xs env).findIdx? (·.1) = none
  | [], _, _ => ⟨rfl, rfl⟩
  | x :: xs, env, h => by
    rw [List.all_cons, Bool.and_eq_true] at h
    obtain ⟨h1, h2⟩ := assigns_of (xs := xs) (env := env) h.2
    rw [assign_of h.1]
    refine ⟨by simp [h1], ?_⟩
    rw [List.findIdx?_cons]
    simp only [Bool.false_eq_true, if_false, h2]
    rfl
theorem sub_of {l r : Expr} {pos : Pos} {env : PySem.Env} (h : nSlice r = true) : ∀ v, assign (.Subscript l r pos) env v = (do
      let ov ← holding [v] (eval l env)
      let iv ← holding [v, ov] (eval r env)
      standAt pos
      holding [v, ov, iv] (setItem ov iv v)
      release [v, ov, iv] []) := by
  intro v
  cases r <;> first | rfl | cases h
theorem evL_len {f : E → Sto → Res D} : ∀ {es : List E} {st : Sto} {ds : List D} {st' : Sto}, evL f es st = .ok ds st' → ds.length = es.length
  | [], _, _, _, h => by cases h; rfl
  | e :: es, st, ds, st', h => by
    unfold evL at h
    cases h1 : f e st with
    | ok d s1 =>
      rw [h1] at h
      simp only [Res.bind_ok] at h
      cases h2 : evL f es s1 with
      | ok ds2 s2 =>
        rw [h2] at h
        cases h
        simp [evL_len h2]
      | exc _ _ _ => rw [h2] at h; cases h
      | stuck => rw [h2] at h; cases h
    | exc _ _ _ => rw [h1] at h; cases h
    | stuck => rw [h1] at h; cases h
end
end Mu

set_option linter.all false
set_option Elab.async false
/-! Expressions are sound. -/
namespace Mu
open PySem PySem.Spec PyProof.Rows L2

structure Snd (n : Nat) : Prop where
  e : ∀ {C : Cf} {c : Ct} {W : WX} {X : Cx} (_ : Good C c W X) (m : Nat) (e : E) (x : Expr), chkE c n e x = true → PE X x (RE X W fun env st => ev C m e env st)
  t : ∀ {C : Cf} {c : Ct} {W : WX} {X : Cx} (_ : Good C c W X) (m : Nat) (e : E) (x : Expr), chkT c n e x = true → PT X x (RB X W fun env st => evT C m e env st)
  o : ∀ {C : Cf} {c : Ct} {W : WX} {X : Cx} (_ : Good C c W X) (m : Nat) (e : Option E) (x : Option Expr), chkO c n e x = true → PO X x (RO X W fun env st => evO (fun e st => ev C m e env st) e st)
  i : ∀ {C : Cf} {c : Ct} {W : WX} {X : Cx} (_ : Good C c W X) (m : Nat) (tg : Expr) (it : Iz) (x : Expr), chkI c n tg it x = true → PI X tg x (RI X W fun env st => itD (fun e st => ev C m e env st) it st)
  g : ∀ {C : Cf} {c : Ct} {W : WX} {X : Cx} (_ : Good C c W X) (m : Nat) (t : Tg) (x : Expr), chkG c n t x = true → ∀ sl : List Nat, (∀ j ∈ tgS t, j ∈ sl) → PG X x (RT X sl fun d env st => tgD (fun e env st => ev C m e env st) t d env st)

section
variable {C : Cf} {c : Ct} {W : WX} {X : Cx} {n : Nat}
theorem zip_len {α β : Type} {f : α → β → Bool} : ∀ (es : List α) (xs : List β), zipAll f es xs = true → es.length = xs.length
  | [], [], _ => rfl
  | [], _ :: _, h => by cases h
  | _ :: _, [], h => by cases h
  | e :: es, x :: xs, h => by
    have h : (f e x && zipAll f es xs) = true := h
    rw [Bool.and_eq_true] at h
    simp [zip_len es xs h.2]
theorem zip_args (ih : Snd n) (G : Good C c W X) (m : Nat) : ∀ (es : List E) (xs : List Expr), xs.all nStar = true → zipAll (fun e x => chkE c n e x) es xs = true → PA X xs (RL X W fun env st => evL (fun e st => ev C m e env st) es st)
  | [], [], _, _ => sl_nil (f := fun _ _ => .stuck)
  | [], _ :: _, _, h => by cases h
  | _ :: _, [], _, h => by cases h
  | e :: es, x :: xs, hs, h => by
    rw [List.all_cons, Bool.and_eq_true] at hs
    have h : (chkE c n e x && zipAll (fun e x => chkE c n e x) es xs) = true := h
    rw [Bool.and_eq_true] at h
    exact sl_cons (f := fun e env st => ev C m e env st) (star_of hs.1) (ih.e G m e x h.1) (zip_args ih G m es xs hs.2 h.2)
theorem zip_tgs (ih : Snd n) (G : Good C c W X) (m : Nat) (sl : List Nat) : ∀ (ts : List Tg) (xs : List Expr), xs.all nStar = true → zipAll (fun t x => chkG c n t x) ts xs = true → (∀ j ∈ tgS.tgSs ts, j ∈ sl) →
    PGs X xs (RTs X sl fun ds env st => tgsD (fun e env st => ev C m e env st) ts ds env st)
  | [], [], _, _, _ => gs_nil fun ds env st => by cases ds <;> (unfold tgsD; rfl)
  | [], _ :: _, _, h, _ => by cases h
  | _ :: _, [], _, h, _ => by cases h
  | t :: ts, x :: xs, hs, h, hj => by
    rw [List.all_cons, Bool.and_eq_true] at hs
    have h : (chkG c n t x && zipAll (fun t x => chkG c n t x) ts xs) = true := h
    rw [Bool.and_eq_true] at h
    have hj : ∀ j ∈ tgS t ++ tgS.tgSs ts, j ∈ sl := fun j m => hj j (by unfold tgS.tgSs; exact m)
    have q := gs_cons (xs := xs) (by rw [assign_of hs.1]; rfl) (ih.g G m t x h.1 sl fun j m => hj j (List.mem_append_left _ m)) (zip_tgs ih G m sl ts xs hs.2 h.2 fun j m => hj j (List.mem_append_right _ m))
    refine PGs.imp q fun vs σ H Q ⟨ρ, ds, env, st, rd, er, w, z⟩ => ⟨ρ, ds, env, st, rd, er, w, ?_⟩
    cases ds with
    | nil => unfold tgsD at z; exact z
    | cons d ds => unfold tgsD at z; exact z
theorem Good.calls (G : Good C c W X) {f : Str} {xs : List Expr} {p pos : Pos} {fl : Env → Sto → Res (List D)} (ht : c.fnT f = true) (hg : c.gl f = true) (ho : okName f = true) (hs : xs.all nStar = true) (ha : PA X xs (RL X W fl)) (hnil : xs = [] → ∀ env st, fl env st = .ok [] st)
    (hlen : ∀ env st ds st', fl env st = .ok ds st' → ds.length = xs.length) : PE X (.Call (.Name f p) xs [] pos) (RE X W fun env st => (fl env st).bind fun ds st => C.call f ds st) := by
  obtain ⟨o1, o2, o3⟩ := okName_of ho
  obtain ⟨a, fd, ps, hm, hk, F, hb⟩ := G.call f ht
  obtain ⟨r, hc, hr⟩ : ∃ r, CallAt X a r ∧ ∀ σ H Q ρ ds st vs, ds.length = xs.length → RepL X.K X.mg ρ H ds vs → Wd X.K X.mg ρ st H → Post X.K X.mg W σ ρ H (Rep X.K X.mg) (C.call f ds st) Q → r σ vs H Q := by
    rcases hb xs.length with h | ⟨pad, zs, ws, hn, rz, rp, hb, he⟩
    · exact ⟨fun _ _ _ _ => False, fun _ _ _ _ _ _ _ _ _ h => h.elim, fun σ H Q ρ ds st vs hl _ _ q => by rw [h ds st hl] at q; exact q⟩
    · refine ⟨fun σ vs H Q => spC X.K X.mg ps.length (C.call f) (vs ++ zs) H Q (WE W σ), fun pins s σ H xs us Q I r h => run_fnG F G.room G.cx.gd hb rz G.tk I r h, fun σ H Q ρ ds st vs hl rd w q => ?_⟩
      have rr := rd.append (rp ρ H)
      refine ⟨by rw [← rr.length, List.length_append, hl]; exact hn, ρ, ds ++ pad, st, rr, w, ?_⟩
      rw [he ds st hl] at q
      revert q
      cases C.call f (ds ++ pad) st with
      | ok d st2 => exact id
      | exc cc fs st2 => exact fun q c d H2 ρ2 e2 w2 x => q c d H2 ρ2 e2 w2 x
      | stuck => exact id
  have rd : ∀ σ H Q, RE X W (fun env st => (fl env st).bind fun ds st => C.call f ds st) σ H Q → RL X W fl σ H fun vs H1 => r σ vs H1 Q := fun σ H Q ⟨ρ, env, st, er, w, q⟩ => by
    refine Rdg.goE er w q fun ρ1 ds st1 vs H1 e e1 er1 w1 r1 q1 => ?_
    exact hr σ H1 Q ρ1 ds st1 vs (hlen _ _ _ _ e) r1 w1 q1
  cases xs with
  | nil =>
    refine PE.imp (pe_callK0 hc (G.glOk hg) hm hk o1) fun σ H Q h => ?_
    obtain ⟨ρ, env, st, er, w, q⟩ := rd σ H Q h
    rw [hnil rfl] at q
    exact q.here w .nil
  | cons x xs =>
    rw [List.all_cons, Bool.and_eq_true] at hs
    exact PE.imp (pe_callK hc (G.glOk hg) hm hk ha o1 (star_of hs.1) (plain_of hs.2)) fun σ H Q h => rd σ H Q h

theorem names_mem {f : Str} (h : f ∈ blts) (G : Good C c W X) : X.mg f = none := G.blt f h
/-- the built-ins by their names -/
theorem Good.bltc (G : Good C c W X) {f : Str} {g : List D → Sto → Option D} {xs : List Expr} {p pos : Pos} {fl : Env → Sto → Res (List D)} (hf : bltTab.lookup f = some g) (hg : c.gl f = true) (ho : okName f = true) (hne : xs.isEmpty = false) (hs : xs.all nStar = true)
    (ha : PA X xs (RL X W fl)) : PE X (.Call (.Name f p) xs [] pos) (RE X W fun env st => (fl env st).bind fun ds st => .of (g ds st) st) := by
  obtain ⟨o1, o2, o3⟩ := okName_of ho
  have hG := G.glOk hg
  cases xs with
  | nil => cases hne
  | cons x xs =>
    rw [List.all_cons, Bool.and_eq_true] at hs
    have he := star_of (xs := xs) (env := X.env) hs.1
    have hp := plain_of (xs := xs) (env := X.env) (pos := pos) hs.2
    have bf : ∀ {id : String} {r : List V → Hp → VK → Prop}, CallR X (.builtin id) r → X.mg f = none → bootBuiltins f = some (.builtin id) → PE X (.Call (.Name f p) (x :: xs) [] pos) (tCB r (RL X W fl)) := fun hc hm hv => pe_callB hc hG hm hv ha o3 o1 he hp
    have bt : ∀ {id : String} {r : List V → Hp → VK → Prop}, CallR X (.type id) r → X.mg f = none → bootBuiltins f = some (.type id) → PE X (.Call (.Name f p) (x :: xs) [] pos) (tCB r (RL X W fl)) := fun hc hm hv => pe_callTy hc hG hm hv ha o3 o1 he hp
    have mem : (f, g) ∈ bltTab := PySem.mem_of_lookup hf
    simp only [bltTab, List.mem_cons, List.not_mem_nil, or_false, Prod.mk.injEq] at mem
    rcases mem with ⟨rfl, rfl⟩ | ⟨rfl, rfl⟩ | ⟨rfl, rfl⟩ | ⟨rfl, rfl⟩ | ⟨rfl, rfl⟩ | ⟨rfl, rfl⟩ | ⟨rfl, rfl⟩ | ⟨rfl, rfl⟩ | ⟨rfl, rfl⟩ | ⟨rfl, rfl⟩
    · exact s_blt (fun _ _ _ h => h) (bf blt_len (G.blt _ (by decide +kernel)) (by decide +kernel))
    · exact s_blt (fun _ _ _ h => h) (bf blt_abs (G.blt _ (by decide +kernel)) (by decide +kernel))
    · exact s_blt (fun _ _ _ h => h) (bf (blt_min G.cx) (G.blt _ (by decide +kernel)) (by decide +kernel))
    · exact s_blt (fun _ _ _ h => h) (bf (blt_max G.cx) (G.blt _ (by decide +kernel)) (by decide +kernel))
    · exact s_blt (fun _ _ _ h => h) (bt blt_int (G.blt _ (by decide +kernel)) (by decide +kernel))
    · exact s_blt (fun _ _ _ h => h) (bt blt_tuple (G.blt _ (by decide +kernel)) (by decide +kernel))
    · exact s_blt (fun _ _ _ h => h) (bt blt_list (G.blt _ (by decide +kernel)) (by decide +kernel))
    · exact s_blt (fun _ _ _ h => h) (bf (blt_all G.cx) (G.blt _ (by decide +kernel)) (by decide +kernel))
    · exact s_blt (fun _ _ _ h => h) (bf blt_isi (G.blt _ (by decide +kernel)) (by decide +kernel))
    · exact s_blt (fun _ _ _ h => h) (bf (blt_repr G.cx G.room) (G.blt _ (by decide +kernel)) (by decide +kernel))
theorem Good.bty (G : Good C c W X) {f : Str} {pos : Pos} (hg : c.gl f = true) (ho : okName f = true) : PE X (.Name f pos) (RE X W fun _ st => .of ((btyTab.lookup f).map D.ty) st) := by
  obtain ⟨o1, o2, o3⟩ := okName_of ho
  have hG := G.glOk hg
  cases h : btyTab.lookup f with
  | none => exact s_no fun env st => rfl
  | some t =>
    have mem : (f, t) ∈ btyTab := PySem.mem_of_lookup h
    have bb : ∀ {n : String}, X.mg f = none → bootBuiltins f = some (.type n) → PE X (.Name f pos) (RE X W fun _ st => .ok (D.ty n) st) := fun hm hv => s_val (pe_bltn (v := .ty _) hG hm hv rfl o3 o1) fun ρ H => .ty _
    simp only [btyTab, List.mem_cons, List.not_mem_nil, or_false, Prod.mk.injEq] at mem
    rcases mem with ⟨rfl, rfl⟩ | ⟨rfl, rfl⟩ | ⟨rfl, rfl⟩ | ⟨rfl, rfl⟩ | ⟨rfl, rfl⟩ | ⟨rfl, rfl⟩ <;> exact bb (G.blt _ (by decide +kernel)) (by decide +kernel)
theorem Good.conOk (G : Good C c W X) {z : Str} {pos : Pos} (hg : c.gl z = true) (ho : okName z = true) : PE X (.Name z pos) (RE X W fun _ st => .of (C.con z) st) := by
  obtain ⟨o1, o2, o3⟩ := okName_of ho
  cases h : C.con z with
  | none => exact s_no fun env st => rfl
  | some d =>
    obtain ⟨v, u, hm, r, q⟩ := G.con z d h
    exact s_val (pe_glob (G.glOk hg) hm r o1) q
theorem lit_of {d : D} {v : Const} {kk : Nat} {pos : Pos} (h : litB d v = true) : PE X (.Constant v kk pos) (RE X W fun _ st => .ok d st) := by
  unfold litB at h
  split at h
  · exact s_val pe_non fun _ _ => .non
  · have e := beq_iff_eq.mp h
    subst e
    exact s_val pe_bl fun _ _ => .bl _
  · have e := of_decide_eq_true h
    subst e
    exact s_val pe_int fun _ _ => .int _
  · have e := of_decide_eq_true h
    subst e
    exact s_val pe_str fun _ _ => .str _
  · cases h

theorem snd_e (ih : Snd n) (G : Good C c W X) (m : Nat) (e : E) (x : Expr) (h : chkE c (n + 1) e x = true) : PE X x (RE X W fun env st => ev C m e env st) := by
  cases m with
  | zero => exact s_no fun _ _ => rfl
  | succ m =>
    unfold chkE at h
    split at h
    · simp only [Bool.and_eq_true, decide_eq_true_eq] at h
      obtain ⟨o1, o2, o3⟩ := okName_of h.2
      exact s_var (by rw [G.N]; exact h.1.1) (G.visOk h.1.2) o1 o2
    · exact lit_of h
    · simp only [Bool.and_eq_true, decide_eq_true_eq] at h
      obtain ⟨⟨rfl, h1⟩, h2⟩ := h
      exact G.conOk h1 h2
    · simp only [Bool.and_eq_true, decide_eq_true_eq] at h
      obtain ⟨⟨rfl, h1⟩, h2⟩ := h
      exact G.bty h1 h2
    · simp only [Bool.and_eq_true, decide_eq_true_eq] at h
      obtain ⟨⟨rfl, h1⟩, h2⟩ := h
      exact s_bin G.cx G.room (ih.e G m _ _ h1) (ih.e G m _ _ h2)
    · exact s_neg (ih.e G m _ _ h)
    · simp only [Bool.and_eq_true, Bool.not_eq_true', decide_eq_true_eq] at h
      obtain ⟨⟨⟨rfl, h0⟩, h1⟩, h2⟩ := h
      exact s_cmp G.room h0 (ih.e G m _ _ h1) (ih.e G m _ _ h2)
    · simp only [Bool.and_eq_true, Bool.not_eq_true', decide_eq_true_eq] at h
      obtain ⟨⟨⟨⟨⟨rfl, rfl⟩, h0⟩, h1⟩, h2⟩, h3⟩ := h
      exact s_cmp2 G.room h0 (ih.e G m _ _ h1) (ih.e G m _ _ h2) (ih.e G m _ _ h3)
    · exact s_not (ih.e G m _ _ h)
    · rw [Bool.and_eq_true] at h
      obtain ⟨h1, h2⟩ := h
      refine s_and (ih.e G m _ _ h1) ?_
      split at h2
      · exact ⟨fun p s σ H Q I q => (pe_one (ih.e G m _ _ h2)).run p s σ H Q I q⟩
      · exact ih.e G m _ _ h2
    · rw [Bool.and_eq_true] at h
      obtain ⟨h1, h2⟩ := h
      refine s_or (ih.e G m _ _ h1) ?_
      split at h2
      · exact ⟨fun p s σ H Q I q => (pe_one (ih.e G m _ _ h2)).run p s σ H Q I q⟩
      · exact ih.e G m _ _ h2
    · simp only [Bool.and_eq_true] at h
      exact s_ite (ih.t G m _ _ h.1.1) (ih.e G m _ _ h.1.2) (ih.e G m _ _ h.2)
    · rw [Bool.and_eq_true] at h
      exact s_tup (zip_args ih G m _ _ h.1 h.2)
    · rw [Bool.and_eq_true] at h
      exact s_lst (zip_args ih G m _ _ h.1 h.2)
    · rw [Bool.and_eq_true] at h
      exact s_lstR (zip_args ih G m _ _ h.1 h.2)
    · simp only [Bool.and_eq_true, decide_eq_true_eq] at h
      obtain ⟨⟨⟨⟨⟨rfl, h1⟩, h2⟩, h3⟩, h5⟩, h6⟩ := h
      rename_i f es p xs pos
      have q := G.calls (p := p) (pos := pos) h1 h2 h3 h5 (zip_args ih G m es xs h5 h6) (fun e env st => by
        subst e
        cases es with
        | nil => rfl
        | cons _ _ => cases h6) fun env st ds st' e => (evL_len e).trans (zip_len es xs h6)
      exact PE.imp q fun σ H Q z => z
    · simp only [Bool.and_eq_true, Bool.not_eq_true', decide_eq_true_eq] at h
      obtain ⟨⟨⟨⟨⟨⟨h0, rfl⟩, h1⟩, h2⟩, h3⟩, h4⟩, h5⟩ := h
      rename_i f es p xs pos
      cases hl : bltTab.lookup f with
      | none => rw [hl] at h0; cases h0
      | some g =>
        have q := G.bltc (p := p) (pos := pos) hl h1 h2 h3 h4 (zip_args ih G m es xs h4 h5)
        refine PE.imp q fun σ H Q z => ?_
        simpa only [ev, bltD, hl] using z
    · rw [Bool.and_eq_true, Bool.and_eq_true] at h
      exact s_idx (slice_of h.1.1) (ih.e G m _ _ h.1.2) (ih.e G m _ _ h.2)
    · rw [Bool.and_eq_true, Bool.and_eq_true] at h
      exact s_slc (ih.e G m _ _ h.1.1) (ih.o G m _ _ h.1.2) (ih.o G m _ _ h.2)
    · exact s_rev (ih.e G m _ _ h)
    · simp only [Bool.and_eq_true] at h
      obtain ⟨⟨⟨⟨⟨⟨h1, h2⟩, h3⟩, h4⟩, h5⟩, h6⟩, h7⟩ := h
      rename_i r el tg it cond own xx t i ifs scope pos
      refine s_comp (sl := tgS tg) (gt := fun x env st => tgD (fun e env st => ev C m e env st) tg x env st) (ft := condT (fun c env st => evT C m c env st) cond) (fe := fun env st => ev C m el env st)
        G.cx.calm G.nd (ih.i G m t it i h2) (blkOk_by (by rw [G.N, G.sc]; exact h1)) (fun s H a cl fp => ih.g (G.blk s H scope a cl fp) m tg t h4 _ fun j hj => hj) (fun s H a cl fp => ?_) (fun s H a cl fp => ih.e (G.blk s H scope a cl fp) m el xx h7) (set_of h3 _) ?_
      · split at h6
        · refine ⟨fun p s σ H Q I z => pts_nil.run p s σ H Q I ?_⟩
          obtain ⟨ρ, env, st, er, w, q⟩ := z
          exact Post.here (st := st) q w rfl
        · exact ⟨fun p s' σ H' Q I z => (pts_one (ih.t (G.blk s H scope a cl fp) m _ _ h6)).run p s' σ H' Q I z⟩
        · cases h6
      · intro j hj
        have q := List.all_eq_true.mp h5 j hj
        exact List.contains_iff_mem.mp q
    · cases h
end
end Mu

set_option linter.all false
set_option Elab.async false
/-! Tests, slices' parts, what is walked, targets are sound; all of it by induction. -/
namespace Mu
open PySem PySem.Spec PyProof.Rows L2
section
variable {C : Cf} {c : Ct} {W : WX} {X : Cx} {n : Nat}
theorem pw_of {l : Expr} {o : BoolOp} {pos : Pos} {ft : Env → Sto → Res Bool} (h : PT X l (RB X W ft)) : PW X (.BoolOp o [l] pos) (RB X W ft) := by
  cases o with
  | And => exact pw_and1 h
  | Or => exact pw_or1 h
theorem snd_w (ih : Snd n) (G : Good C c W X) (m : Nat) : ∀ (o : BoolOp) (e : E) (r : Expr) (rest : List Expr) (pos : Pos), (match rest with | [] => chkT c n e r | _ => chkT c n e (.BoolOp o (r :: rest) pos)) = true →
    (∀ e x, chkT c n e x = true → ∀ l pos', x = .BoolOp o l pos' → PW X x (RB X W fun env st => evT C m e env st)) → PW X (.BoolOp o (r :: rest) pos) (RB X W fun env st => evT C m e env st) := by
  intro o e r rest pos h hw
  split at h
  · exact pw_of (ih.t G m _ _ h)
  · exact hw _ _ h _ _ rfl
theorem evT_else {m : Nat} {e : E} (h1 : ∀ a, e ≠ .not a) (h2 : ∀ a b, e ≠ .and a b) (h3 : ∀ a b, e ≠ .or a b) (h4 : ∀ o a b, e ≠ .cmp o a b) (h5 : ∀ o p a b d, e ≠ .cmp2 o p a b d) (h6 : ∀ a b d, e ≠ .ite a b d) (env : Env) (st : Sto) :
    evT C (m + 1) e env st = (ev C m e env st).bind fun d st => .of (truth st d) st := by
  cases e <;> first | rfl | exact absurd rfl (h1 _) | exact absurd rfl (h2 _ _) | exact absurd rfl (h3 _ _) | exact absurd rfl (h4 _ _ _) | exact absurd rfl (h5 _ _ _ _ _) | exact absurd rfl (h6 _ _ _)
end
/-- tests whatever their whole is -/
theorem snd_pw {C : Cf} {c : Ct} {W : WX} {X : Cx} (G : Good C c W X) : ∀ (n : Nat), (∀ k, k < n → Snd k) → ∀ (m : Nat) (e : E) (x : Expr), chkT c n e x = true → ∀ o l pos, x = .BoolOp o l pos → PW X x (RB X W fun env st => evT C m e env st) := by
  intro n
  induction n with
  | zero => intro _ m e x h; cases h
  | succ n ih =>
    intro hS m e x h o l pos ex
    subst ex
    have S := hS n (Nat.lt_succ_self n)
    have ih' := ih fun k hk => hS k (Nat.lt_succ_of_lt hk)
    cases m with
    | zero => exact ⟨fun wh p s σ H Q I ⟨ρ, env, st, _, _, q⟩ => q.elim⟩
    | succ m =>
      unfold chkT at h
      split at h
      · rename_i he; cases he
      · rename_i he
        cases he
        rw [Bool.and_eq_true] at h
        exact st_and (S.t G m _ _ h.1) (snd_w S G m _ _ _ _ _ h.2 fun e x hx l p ex => ih' m e x hx _ l p ex)
      · rename_i he
        cases he
        rw [Bool.and_eq_true] at h
        exact st_or (S.t G m _ _ h.1) (snd_w S G m _ _ _ _ _ h.2 fun e x hx l p ex => ih' m e x hx _ l p ex)
      · rename_i he; cases he
      · rename_i he; cases he
      · cases h
      · cases h
      · cases h
      · cases h
      · cases h
      · cases h
      · rw [Bool.and_eq_true] at h
        cases h.1
section
variable {C : Cf} {c : Ct} {W : WX} {X : Cx} {n : Nat}
theorem snd_t (hS : ∀ k, k < n + 1 → Snd k) (G : Good C c W X) (m : Nat) (e : E) (x : Expr) (h : chkT c (n + 1) e x = true) : PT X x (RB X W fun env st => evT C m e env st) := by
  have ih := hS n (Nat.lt_succ_self n)
  have hw := h
  cases m with
  | zero => exact st_no fun _ _ => rfl
  | succ m =>
    unfold chkT at h
    split at h
    · exact st_not (ih.t G m _ _ h)
    · exact (snd_pw G (n + 1) hS (m + 1) _ _ hw _ _ _ rfl).pt
    · exact (snd_pw G (n + 1) hS (m + 1) _ _ hw _ _ _ rfl).pt
    · simp only [Bool.and_eq_true, Bool.not_eq_true', decide_eq_true_eq] at h
      obtain ⟨⟨⟨rfl, h0⟩, h1⟩, h2⟩ := h
      cases m with
      | zero => exact st_no fun _ _ => rfl
      | succ m => exact st_cmp G.room h0 (ih.e G m _ _ h1) (ih.e G m _ _ h2)
    · simp only [Bool.and_eq_true, Bool.not_eq_true', decide_eq_true_eq] at h
      obtain ⟨⟨⟨⟨⟨rfl, rfl⟩, h0⟩, h1⟩, h2⟩, h3⟩ := h
      cases m with
      | zero => exact st_no fun _ _ => rfl
      | succ m => exact st_cmp2 G.room h0 (ih.e G m _ _ h1) (ih.e G m _ _ h2) (ih.e G m _ _ h3)
    · cases h
    · cases h
    · cases h
    · cases h
    · cases h
    · cases h
    · rename_i h1 h2 h3 h4 h5 h6 _ _ _ _ _
      rw [Bool.and_eq_true] at h
      refine PT.imp (st_truth (W := W) (plainT_of h.1) (ih.e G m _ _ h.2)) fun σ H Q z => ?_
      obtain ⟨ρ, env, st, er, w, q⟩ := z
      refine ⟨ρ, env, st, er, w, ?_⟩
      have q : Post X.K X.mg W σ ρ H (fun _ _ b c => b = c) (evT C (m + 1) e env st) Q := q
      rw [evT_else] at q
      · exact q
      all_goals (intros; rintro rfl; first | exact h1 _ rfl | exact h2 _ _ rfl | exact h3 _ _ rfl | exact h4 _ _ _ rfl | exact h5 _ _ _ _ _ rfl | exact h6 _ _ _ rfl)
theorem snd_o (ih : Snd n) (G : Good C c W X) (m : Nat) (e : Option E) (x : Option Expr) (h : chkO c (n + 1) e x = true) : PO X x (RO X W fun env st => evO (fun e st => ev C m e env st) e st) := by
  unfold chkO at h
  split at h
  · exact so_none (f := fun _ _ => .stuck)
  · exact so_some (f := fun e env st => ev C m e env st) (ih.e G m _ _ h)
  · cases h
theorem snd_i (ih : Snd n) (G : Good C c W X) (m : Nat) (tg : Expr) (it : Iz) (x : Expr) (h : chkI c (n + 1) tg it x = true) : PI X tg x (RI X W fun env st => itD (fun e st => ev C m e env st) it st) := by
  unfold chkI at h
  split at h
  · exact i_seq (ih.e G m _ _ h)
  · simp only [Bool.and_eq_true, decide_eq_true_eq] at h
    obtain ⟨⟨⟨rfl, h1⟩, h2⟩, h3⟩ := h
    refine i_rng1 (fl := fun env st => evL (fun e st => ev C m e env st) [_] st) (G.glOk h1) (G.blt _ (by decide +kernel)) (zip_args ih G m [_] [_] (by simp [h2]) (by simp [zipAll, h3])) (star_of h2) fun env st ds st' e => evL_len e
  · simp only [Bool.and_eq_true, decide_eq_true_eq] at h
    obtain ⟨⟨⟨⟨⟨rfl, h1⟩, h2⟩, h3⟩, h4⟩, h5⟩ := h
    refine i_rng2 (fl := fun env st => evL (fun e st => ev C m e env st) [_, _] st) (G.glOk h1) (G.blt _ (by decide +kernel)) (zip_args ih G m [_, _] [_, _] (by simp [h2, h3]) (by simp [zipAll, h4, h5])) ((star_of h2).trans (by rw [star_of h3]; rfl)) (star_of h3) fun env st ds st' e => evL_len e
  · simp only [Bool.and_eq_true, decide_eq_true_eq] at h
    obtain ⟨⟨⟨⟨⟨⟨rfl, h1⟩, h2⟩, h3⟩, h4⟩, h5⟩, h6⟩ := h
    split at h4
    · exact i_zip (G.glOk h1) (G.blt _ (by decide +kernel)) (star_of h2) (star_of h3) (plain_of (by simp [h3])) (ih.e G m _ _ h5) (ih.e G m _ _ h6)
    · cases h4
  · simp only [Bool.and_eq_true, decide_eq_true_eq] at h
    obtain ⟨⟨⟨⟨rfl, h1⟩, h2⟩, h3⟩, h4⟩ := h
    split at h3
    · exact i_enum (fl := fun _ _ => .stuck) (G.glOk h1) (G.blt _ (by decide +kernel)) (ih.e G m _ _ h4) (star_of h2)
    · cases h3
  · cases h
theorem snd_g (ih : Snd n) (G : Good C c W X) (m : Nat) (t : Tg) (x : Expr) (h : chkG c (n + 1) t x = true) (sl : List Nat) (hj : ∀ j ∈ tgS t, j ∈ sl) : PG X x (RT X sl fun d env st => tgD (fun e env st => ev C m e env st) t d env st) := by
  unfold chkG at h
  split at h
  · simp only [Bool.and_eq_true, decide_eq_true_eq] at h
    refine PG.imp (g_name (sl := sl) G.nd (by rw [G.N]; exact h.1.1) (G.locOk h.1.2) (G.mineOk h.2) (hj _ (by simp [tgS]))) fun v σ H Q ⟨ρ, d, env, st, rd, er, w, z⟩ => ⟨ρ, d, env, st, rd, er, w, ?_⟩
    unfold tgD at z
    exact z
  · rw [Bool.and_eq_true] at h
    rename_i ts xs _ _
    obtain ⟨a1, a2⟩ := assigns_of (env := X.env) h.1
    have hl : xs.length = ts.length := by
      have aux : ∀ (ts : List Tg) (xs : List Expr), zipAll (fun t x => chkG c n t x) ts xs = true → xs.length = ts.length := by
        intro ts
        induction ts with
        | nil => intro xs h; cases xs <;> first | rfl | cases h
        | cons t ts ih =>
          intro xs h
          cases xs with
          | nil => cases h
          | cons x xs =>
            have h : (chkG c n t x && zipAll (fun t x => chkG c n t x) ts xs) = true := h
            rw [Bool.and_eq_true] at h
            simp [ih xs h.2]
      exact aux _ _ h.2
    refine PG.imp (g_tup (n := ts.length) G.cx.calm (zip_tgs ih G m sl ts xs h.1 h.2 fun j m => hj j (by unfold tgS; exact m)) (by rw [a1, hl]) a2) fun v σ H Q ⟨ρ, d, env, st, rd, er, w, z⟩ => ⟨ρ, d, env, st, rd, er, w, ?_⟩
    unfold tgD at z
    exact z
  · simp only [Bool.and_eq_true] at h
    refine PG.imp (g_sub (sl := sl) (fa := fun env st => ev C m _ env st) (fb := fun env st => ev C m _ env st) (ih.e G m _ _ h.1.2) (ih.e G m _ _ h.2) (sub_of h.1.1)) fun v σ H Q ⟨ρ, d, env, st, rd, er, w, z⟩ => ⟨ρ, d, env, st, rd, er, w, ?_⟩
    unfold tgD at z
    exact z
  · cases h
end
theorem snd : ∀ n, Snd n := by
  intro n
  induction n using Nat.strongRecOn with
  | _ n ih =>
    cases n with
    | zero => exact ⟨fun _ _ _ _ h => (by cases h), fun _ _ _ _ h => (by cases h), fun _ _ _ _ h => (by cases h), fun _ _ _ _ _ h => (by cases h), fun _ _ _ _ h => (by cases h)⟩
    | succ n =>
      have S := ih n (Nat.lt_succ_self n)
      exact ⟨fun G m e x h => snd_e S G m e x h, fun G m e x h => snd_t ih G m e x h, fun G m e x h => snd_o S G m e x h, fun G m tg it x h => snd_i S G m tg it x h, fun G m t x h sl hj => snd_g S G m t x h sl hj⟩
end Mu

set_option linter.all false
set_option Elab.async false
/-! Statements are sound. -/
namespace Mu
open PySem PySem.Spec PyProof.Rows L2

/-- whether a, b = x, y stores from the right, and which names; none: not said -/
def swP (c : Ct) (ts vs : List Expr) : Option (Option (List Str)) :=
  if (!(ts.length == 2 || ts.length == 3) || vs.length != ts.length) = true then some none
  else if (vs.any fun x => !nStar x) = true then some none
  else
    let line := (ts.head?.map (·.pos.line)).getD 0
    let names := ts.filterMap fun
      | .Name id pos => if c.kind id == some .local && pos.line == line then some id else none
      | _ => none
    if (names.length != ts.length || names.eraseDups.length != names.length) = true then some none
    else if (vs.all (foldedForSure 8)) = true then some none
    else if (vs.all (constantsAlone 8)) = true then none
    else some (some names)
theorem swP_of {c : Ct} {env : PySem.Env} {ts vs : List Expr} {k k' : Nat} {p p' : Pos} {r : Option (List Str)} (hk : env.blockKind = .function) (hs : env.scope = c.sc) (h : swP c ts vs = some r) :
    swappedStores [.Tuple ts k p] (.Tuple vs k' p') env = pure r := by
  have hkind : ∀ id, env.kindOf id = c.kind id := fun id => by unfold Env.kindOf Ct.kind; rw [hs]
  have hst : (vs.any fun | .Starred .. => true | _ => false) = vs.any fun x => !nStar x := by
    congr 1
    funext x
    cases x <;> rfl
  unfold swP at h
  unfold swappedStores
  simp only [hk, hkind]
  split at h
  · rename_i h1
    cases h
    exact if_pos (by rw [Bool.or_eq_true]; exact .inl h1)
  · rename_i h1
    refine (if_neg (by rw [Bool.or_eq_true]; rintro (q | q); exact h1 q; exact absurd q (by decide))).trans ?_
    split at h
    · rename_i h2
      cases h
      exact if_pos (hst.trans h2)
    · rename_i h2
      refine (if_neg fun q => h2 (hst.symm.trans q)).trans ?_
      simp only at h
      split at h
      · rename_i h3
        cases h
        exact if_pos h3
      · rename_i h3
        refine (if_neg h3).trans ?_
        split at h
        · rename_i h4
          cases h
          exact if_pos h4
        · rename_i h4
          refine (if_neg h4).trans ?_
          split at h
          · cases h
          · rename_i h5
            cases h
            exact if_neg h5

abbrev RS (X : Cx) (W : WX) (f : Env → Sto → SR) : TS := RdS X.K X.mg W f
section
variable {X : Cx} {W : WX} {x l r tg : Expr} {pos : Pos} {fa fb : Env → Sto → Res D} {ft : Env → Sto → Res Bool} {fs fu : Env → Sto → SR} {ss ts : List Stmt} {s : Stmt}
theorem PS.imp {t t' : TS} (h : PS X s t) (i : ∀ D σ H, t' D σ H → t D σ H) : PS X s t' := ⟨fun p st σ H D I q => h.run p st σ H D I (i D σ H q)⟩
theorem PSs.imp {t t' : TS} (h : PSs X ss t) (i : ∀ D σ H, t' D σ H → t D σ H) : PSs X ss t' := ⟨fun p st σ H D I q => h.run p st σ H D I (i D σ H q)⟩
theorem ss_no {f : Env → Sto → SR} (h : ∀ env st, f env st = .stuck) : PS X s (RS X W f) := ⟨fun p st' σ H D I ⟨ρ, env, st, _, _, q⟩ => by rw [h] at q; exact q.elim⟩
/-- an expression, then what a statement does with it -/
theorem Rdg.runE {α β : Type} {K : PySem.W.Frag} {mg : Str → Option Value} {σ : L2.St} {ρ : Rho} {H : Hp} {R : Rho → Hp → α → β → Prop} {st : Sto} {env : Env} {D : Ends} {f : Env → Sto → Res α} {g : α → Sto → SR} {Q' : β → Hp → Prop}
    (er : EnvRep K mg ρ H env σ) (w : Wd K mg ρ st H) (h : PostS K mg W ρ H ((f env st).run env g) D)
    (k : ∀ ρ1 a st1 v H1, Ext ρ H ρ1 H1 → EnvRep K mg ρ1 H1 env σ → Wd K mg ρ1 st1 H1 → R ρ1 H1 a v → PostS K mg W ρ1 H1 (g a st1) D → Q' v H1) : Rdg K mg W R f σ H Q' := by
  obtain ⟨ρ0, env0, st0, er0, w0, q0⟩ := Rdg.run (R := R) er w h
  exact ⟨ρ0, env0, st0, er0, w0, q0.mono fun v H1 ⟨ρ1, d, st1, e1, er1, w1, r1, q1⟩ => k ρ1 d st1 v H1 e1 er1 w1 r1 q1⟩
theorem swap_no {e : Expr} {t : Option Expr} {l : Nat} {env : PySem.Env} (h : nComp e = true) : swapsWith e t l env = pure false := by
  cases e <;> first | rfl | cases h
theorem ss_expr (hn : nComp x = true) (ha : PE X x (RE X W fa)) : PS X (.Expr x pos) (RS X W fun env st => (fa env st).run env fun _ st => .next env st) := by
  refine PS.imp (ps_expr ha (swap_no hn)) fun D σ H ⟨ρ, env, st, er, w, q⟩ => ?_
  exact Rdg.runE er w q fun ρ1 a st1 v H1 e1 er1 w1 r1 q1 => q1 σ H1 ρ1 (Ext.refl _ _) w1 er1
theorem ss_ret (ha : PE X x (RE X W fa)) : PS X (.Return (some x) pos) (RS X W fun env st => (fa env st).run env fun d st => .ret d st) := by
  refine PS.imp (ps_ret ha) fun D σ H ⟨ρ, env, st, er, w, q⟩ => ?_
  exact Rdg.runE er w q fun ρ1 a st1 v H1 e1 er1 w1 r1 q1 => q1 v H1 ρ1 (Ext.refl _ _) w1 r1
theorem ss_retN : PS X (.Return none pos) (RS X W fun _ st => .ret .non st) :=
  PS.imp ps_retN fun D σ H ⟨ρ, env, st, er, w, q⟩ => q _ H ρ (Ext.refl _ _) w .non
theorem ss_pass : PS X (.Pass pos) (RS X W fun env st => .next env st) := PS.imp ps_pass fun D σ H ⟨ρ, env, st, er, w, q⟩ => q σ H ρ (Ext.refl _ _) w er
theorem ss_brk : PS X (.Break pos) (RS X W fun env st => .brk env st) := PS.imp ps_break fun D σ H ⟨ρ, env, st, er, w, q⟩ => q σ H ρ (Ext.refl _ _) w er
theorem ss_cont : PS X (.Continue pos) (RS X W fun env st => .cont env st) := PS.imp ps_continue fun D σ H ⟨ρ, env, st, er, w, q⟩ => q σ H ρ (Ext.refl _ _) w er
theorem ss_if (hc : PT X x (RB X W ft)) (ha : PSs X ss (RS X W fs)) (hb : PSs X ts (RS X W fu)) : PS X (.If x ss ts pos) (RS X W fun env st => (ft env st).run env fun c st => if c then fs env st else fu env st) := by
  refine PS.imp (ps_if hc ha hb) fun D σ H ⟨ρ, env, st, er, w, q⟩ => ?_
  refine Rdg.runE er w q fun ρ1 a st1 v H1 e1 er1 w1 r1 q1 => ?_
  subst r1
  cases a with
  | false => exact iteF ⟨ρ1, env, st1, er1, w1, by simpa using q1⟩
  | true => exact iteT ⟨ρ1, env, st1, er1, w1, by simpa using q1⟩
theorem sss_nil {f : S → Env → Sto → SR} : PSs X [] (RS X W fun env st => exL f [] env st) :=
  PSs.imp pss_nil fun D σ H ⟨ρ, env, st, er, w, q⟩ => q σ H ρ (Ext.refl _ _) w er
theorem sss_cons {f : S → Env → Sto → SR} {s' : S} {ss' : List S} (h1 : PS X s (RS X W (f s'))) (h2 : PSs X ss (RS X W fun env st => exL f ss' env st)) : PSs X (s :: ss) (RS X W fun env st => exL f (s' :: ss') env st) := by
  refine PSs.imp (pss_cons h1 h2) fun D σ H ⟨ρ, env, st, er, w, q⟩ => ⟨ρ, env, st, er, w, ?_⟩
  have q : PostS X.K X.mg W ρ H ((f s' env st).then fun env st => exL f ss' env st) D := q
  cases e : f s' env st with
  | next env1 st1 =>
    rw [e] at q
    exact fun σ' H' ρ' e' w' er' => ⟨ρ', env1, st1, er', w', PostS.ext e' q⟩
  | ret d st1 => rw [e] at q; exact q
  | brk env1 st1 => rw [e] at q; exact q
  | cont env1 st1 => rw [e] at q; exact q
  | exc c fs env1 st1 => rw [e] at q; exact q
  | stuck => rw [e] at q; exact q
/-- behind a loop's turn -/
theorem PostS.turn {ρ : Rho} {H : Hp} {r : SR} {D : Ends} {k : Env → Sto → SR} {N : L2.St → Hp → Prop}
    (q : PostS X.K X.mg W ρ H (match r with
      | .next env st => k env st
      | .cont env st => k env st
      | .brk env st => .next env st
      | r => r) D)
    (hN : ∀ env st σ' H' ρ', Ext ρ H ρ' H' → Wd X.K X.mg ρ' st H' → EnvRep X.K X.mg ρ' H' env σ' → PostS X.K X.mg W ρ H (k env st) D → N σ' H') : PostS X.K X.mg W ρ H r { D with nx := N, ct := N, bk := D.nx } := by
  cases r with
  | next env st => exact fun σ' H' ρ' e w er => hN env st σ' H' ρ' e w er q
  | cont env st => exact fun σ' H' ρ' e w er => hN env st σ' H' ρ' e w er q
  | brk env st => exact q
  | ret d st => exact q
  | exc c fs env st => exact q
  | stuck => exact q
theorem ss_whl (hp : PassesOwn (model X.prog X.w) X.A X.env X.xe) (hc : PT X x (RB X W ft)) (hb : PSs X ss (RS X W fs)) (n : Nat) : PS X (.While x ss [] pos) (RS X W fun env st => whlN ft fs n env st) := by
  refine PS.imp (ps_while hp hc hb) fun D σ H ⟨ρ, env, st, er, w, q⟩ => ?_
  refine ⟨fun m σ H => ∃ ρ env st, EnvRep X.K X.mg ρ H env σ ∧ Wd X.K X.mg ρ st H ∧ PostS X.K X.mg W ρ H (whlN ft fs m env st) D, ⟨n, ρ, env, st, er, w, q⟩, ?_⟩
  rintro m σ H ⟨ρ, env, st, er, w, q⟩
  cases m with
  | zero => exact q.elim
  | succ m =>
    have q : PostS X.K X.mg W ρ H ((ft env st).run env fun c st => if c then match fs env st with
      | .next env st => whlN ft fs m env st
      | .cont env st => whlN ft fs m env st
      | .brk env st => .next env st
      | r => r
      else .next env st) D := q
    refine Rdg.runE er w q fun ρ1 a st1 v H1 e1 er1 w1 r1 q1 => ?_
    subst r1
    cases a with
    | false =>
      simp only [Bool.false_eq_true, if_false] at q1
      exact iteF (q1 σ H1 ρ1 (Ext.refl _ _) w1 er1)
    | true =>
      simp only [if_true] at q1
      refine iteT ⟨fun σ H => ∃ ρ env st, EnvRep X.K X.mg ρ H env σ ∧ Wd X.K X.mg ρ st H ∧ PostS X.K X.mg W ρ H (whlN ft fs m env st) D, fun σ' H' h => ⟨m, Nat.lt_succ_self m, h⟩, ρ1, env, st1, er1, w1, ?_⟩
      exact PostS.turn (k := fun env st => whlN ft fs m env st) q1 fun env2 st2 σ' H' ρ' e' w' er' q' => ⟨ρ', env2, st2, er', w', PostS.ext e' q'⟩
theorem ss_for {gi : Env → Sto → Res (List D)} {gt : D → Env → Sto → Res Env} {sl : List Nat} (hp : PassesOwn (model X.prog X.w) X.A X.env X.xe) (hc : X.calm = true) (hi : PI X tg x (RI X W gi)) (hg : PG X tg (RT X sl gt)) (hb : PSs X ss (RS X W fs))
    (hs : ∀ v, foldedSetIterable x X.env v = pure v) : PS X (.For tg x ss [] pos) (RS X W fun env st => (gi env st).run env fun xs st => forL (fun x env st => (gt x env st).still.run env fun env st => fs env st) xs env st) := by
  refine PS.imp (ps_for hp hc hi hg hb hs) fun D σ H ⟨ρ, env, st, er, w, q⟩ => ?_
  refine Rdg.runE er w q fun ρ1 ds st1 J H1 e1 er1 w1 walk q1 => ?_
  refine ⟨fun i m σ' H' => ∃ ρ' env' st', i ≤ ds.length ∧ m = ds.length - i ∧ Ext ρ1 H1 ρ' H' ∧ EnvRep X.K X.mg ρ' H' env' σ' ∧ Wd X.K X.mg ρ' st' H' ∧
    PostS X.K X.mg W ρ' H' (forL (fun x env st => (gt x env st).still.run env fun env st => fs env st) (ds.drop i) env' st') D, ⟨ds.length, ρ1, env, st1, Nat.zero_le _, rfl, Ext.refl _ _, er1, w1, q1⟩, ?_⟩
  rintro i m σ' H' ⟨ρ', env', st', hi, rfl, ex, er', w', q'⟩
  obtain ⟨go, stop, yld⟩ := walk ρ' H' ex
  by_cases hlt : i < ds.length
  · refine .inr ⟨go i hlt, fun σ' H' => ∃ ρ' env' st', Ext ρ1 H1 ρ' H' ∧ EnvRep X.K X.mg ρ' H' env' σ' ∧ Wd X.K X.mg ρ' st' H' ∧
      PostS X.K X.mg W ρ' H' (forL (fun x env st => (gt x env st).still.run env fun env st => fs env st) (ds.drop (i + 1)) env' st') D,
      fun σ2 H2 ⟨ρ2, env2, st2, a1, a2, a3, a4⟩ => ⟨ds.length - (i + 1), by omega, ρ2, env2, st2, by omega, rfl, a1, a2, a3, a4⟩, fun v H2 y => ?_⟩
    obtain ⟨ey, wy, d, hd, rd⟩ := yld i v H2 hlt y st' w'
    have hdrop : ds.drop i = d :: ds.drop (i + 1) := by
      rw [List.drop_eq_getElem_cons hlt]
      congr 1
      have := List.getElem?_eq_getElem hlt
      rw [this] at hd
      exact Option.some.inj hd
    rw [hdrop] at q'
    have q' := PostS.ext ey q'
    have q' : PostS X.K X.mg W ρ' H2 (match (gt d env' st').still.run env' fun env st => fs env st with
      | .next env st => forL (fun x env st => (gt x env st).still.run env fun env st => fs env st) (ds.drop (i + 1)) env st
      | .cont env st => forL (fun x env st => (gt x env st).still.run env fun env st => fs env st) (ds.drop (i + 1)) env st
      | .brk env st => .next env st
      | r => r) D := q'
    refine ⟨ρ', d, env', st', rd, er'.ext ey, wy, ?_⟩
    cases hgt : gt d env' st' with
    | exc _ _ _ => rw [hgt] at q'; exact q'.elim
    | stuck => rw [hgt] at q'; exact q'.elim
    | ok env2 st2 =>
      rw [hgt] at q'
      simp only [Res.still_ok, Res.run_ok] at q'
      intro σ3 H3 ρ3 e3 w3 er3 _ _
      refine ⟨ρ3, env2, st2, er3, w3, ?_⟩
      exact PostS.turn (k := fun env st => forL (fun x env st => (gt x env st).still.run env fun env st => fs env st) (ds.drop (i + 1)) env st) (PostS.ext e3 q') fun env4 st4 σ4 H4 ρ4 e4 w4 er4 q4 =>
        ⟨ρ4, env4, st4, ((ex.trans ey).trans e3).trans e4, er4, w4, PostS.ext e4 q4⟩
  · have ei : i = ds.length := by omega
    subst ei
    refine .inl ⟨stop, ?_⟩
    rw [List.drop_eq_nil_of_le (Nat.le_refl _)] at q'
    exact q' σ' H' ρ' (Ext.refl _ _) w' er'
/-- target = value -/
theorem ss_asg {gt : D → Env → Sto → Res Env} {sl : List Nat} (ha : PE X x (RE X W fa)) (hg : PG X tg (RT X sl gt)) (hs : swapsWithSole [tg] x pos.line X.env = pure false) (hw : swappedStores [tg] x X.env = pure none)
    (h1 : (assignEach [tg] X.env).map (·.2) = [assign tg X.env]) : PS X (.Assign [tg] x pos) (RS X W fun env st => (fa env st).run env fun d st => (gt d env st).still.run env fun env st => .next env st) := by
  refine PS.imp (ps_asg ha hg hs hw h1) fun D σ H ⟨ρ, env, st, er, w, q⟩ => ?_
  refine Rdg.runE er w q fun ρ1 d st1 v H1 e1 er1 w1 r1 q1 => ⟨ρ1, d, env, st1, r1, er1, w1, ?_⟩
  cases hgt : gt d env st1 with
  | exc _ _ _ => rw [hgt] at q1; exact q1.elim
  | stuck => rw [hgt] at q1; exact q1.elim
  | ok env2 st2 =>
    rw [hgt] at q1
    exact fun σ3 H3 ρ3 e3 w3 er3 _ _ => q1 σ3 H3 ρ3 e3 w3 er3
/-- name = [..], stored as the block is left -/
theorem ss_lc {gi : Env → Sto → Res (List D)} {gt : D → Env → Sto → Res Env} {fe : Env → Sto → Res D} {sl : List Nat} {rr : Bool} {i : Nat} {y : Str} {py p0 : Pos} {elt iter : Expr} {ifs : List Expr} {scope : Scope} {own : List (Str × Nat)} (hc : X.calm = true) (hN : X.N.Nodup) (hy : X.N[i]? = some y) (hyl : X.env.scope.names.lookup y = some .local)
    (hsw : swapsWith (.ListComp elt [⟨tg, iter, ifs, 0⟩] scope p0) (some (.Name y py)) pos.line X.env = pure true) (hi : PI X tg iter (RI X W gi)) (ok : BlkOk X.N X.env.scope scope own)
    (hg : ∀ (s : Shared) (H : Hp) (C : Addr) (cl : List (Str × Addr)) (fp : List Addr), PG (X.blk s H scope (compEnvC scope cl C X.env) fp) tg (RT X sl gt))
    (ht : ∀ (s : Shared) (H : Hp) (C : Addr) (cl : List (Str × Addr)) (fp : List Addr), PTs (X.blk s H scope (compEnvC scope cl C X.env) fp) ifs (RB X W0 ft))
    (he : ∀ (s : Shared) (H : Hp) (C : Addr) (cl : List (Str × Addr)) (fp : List Addr), PE (X.blk s H scope (compEnvC scope cl C X.env) fp) elt (RE X W0 fe))
    (hs : ∀ x, foldedSetIterable iter X.env x = pure x) (hsl : ∀ j ∈ sl, j ∈ own.map (·.2)) :
    PS X (.Assign [.Name y py] (.ListComp elt [⟨tg, iter, ifs, 0⟩] scope p0) pos) (RS X W fun env st => (compR gi gt ft fe (own.map (·.2)) rr env st).run env fun d st => .next (env.set i (some d)) st) := by
  refine PS.imp (ps_setLc hc hN hy hyl hsw hi ok hg ht he hs) fun D σ H ⟨ρ, env, st, er, w, q⟩ => ?_
  have z : RE X W (compR gi gt ft fe (own.map (·.2)) rr) σ H fun v H1 => gName i v σ H1 D.nx := by
    refine Rdg.runE er w q fun ρ1 d st1 v H1 e1 er1 w1 r1 q1 => ?_
    exact q1 _ H1 ρ1 (Ext.refl _ _) w1 (er1.set r1 i)
  exact lc_read hsl z
theorem ss_par2 {i j : Nat} {y z : Str} {py pz pt p2 : Pos} {kt k2 : Nat} {fl : Env → Sto → Res (List D)} (hc : X.calm = true) (hN : X.N.Nodup) (hi : X.N[i]? = some y) (hj : X.N[j]? = some z) (hij : i ≠ j) (hy : X.env.scope.names.lookup y = some .local) (hz : X.env.scope.names.lookup z = some .local)
    (ha : PA X [l, r] (RL X W fl)) (hw : swappedStores [.Tuple [.Name y py, .Name z pz] kt pt] (.Tuple [l, r] k2 p2) X.env = pure (some [y, z])) (hl : ∀ env st ds st', fl env st = .ok ds st' → ds.length = 2) :
    PS X (.Assign [.Tuple [.Name y py, .Name z pz] kt pt] (.Tuple [l, r] k2 p2) pos) (RS X W fun env st => (fl env st).run env fun ds st => .next (setAll [i, j] ds env) st) := by
  refine PS.imp (ps_par hc hN hi hj hij hy hz ha hw rfl) fun D σ H ⟨ρ, env, st, er, w, q⟩ => ?_
  dsimp only at q
  cases e : fl env st with
  | exc c fs st1 =>
    rw [e] at q
    refine ⟨ρ, env, st, er, w, ?_⟩
    rw [e]
    exact fun cls dd H1 ρ1 e1 w1 x => q cls dd σ H1 ρ1 e1 w1 (er.ext e1) x
  | stuck => rw [e] at q; exact q.elim
  | ok ds st1 =>
    have hlen := hl _ _ _ _ e
    rw [e] at q
    refine ⟨ρ, env, st, er, w, ?_⟩
    rw [e]
    intro vs H1 ρ1 e1 w1 r1
    match ds, hlen, r1, q with
    | [a, b], _, .cons ra (.cons rb .nil), q =>
      exact ⟨_, _, rfl, q _ H1 ρ1 e1 w1 (((er.ext e1).set ra i).set rb j)⟩
theorem ss_par3 {i j k : Nat} {x1 x2 x3 : Str} {p1 p2 p3 pt p4 : Pos} {kt k2 : Nat} {a1 a2 a3 : Expr} {fl : Env → Sto → Res (List D)} (hc : X.calm = true) (hN : X.N.Nodup) (hi : X.N[i]? = some x1) (hj : X.N[j]? = some x2) (hk : X.N[k]? = some x3) (hij : i ≠ j) (hik : i ≠ k) (hjk : j ≠ k)
    (h1 : X.env.scope.names.lookup x1 = some .local) (h2 : X.env.scope.names.lookup x2 = some .local) (h3 : X.env.scope.names.lookup x3 = some .local)
    (ha : PA X [a1, a2, a3] (RL X W fl)) (hw : swappedStores [.Tuple [.Name x1 p1, .Name x2 p2, .Name x3 p3] kt pt] (.Tuple [a1, a2, a3] k2 p4) X.env = pure (some [x1, x2, x3])) (hl : ∀ env st ds st', fl env st = .ok ds st' → ds.length = 3) :
    PS X (.Assign [.Tuple [.Name x1 p1, .Name x2 p2, .Name x3 p3] kt pt] (.Tuple [a1, a2, a3] k2 p4) pos) (RS X W fun env st => (fl env st).run env fun ds st => .next (setAll [i, j, k] ds env) st) := by
  refine PS.imp (ps_par3 hc hN hi hj hk hij hik hjk h1 h2 h3 ha hw rfl) fun D σ H ⟨ρ, env, st, er, w, q⟩ => ?_
  dsimp only at q
  cases e : fl env st with
  | exc c fs st1 =>
    rw [e] at q
    refine ⟨ρ, env, st, er, w, ?_⟩
    rw [e]
    exact fun cls dd H1 ρ1 e1 w1 x => q cls dd σ H1 ρ1 e1 w1 (er.ext e1) x
  | stuck => rw [e] at q; exact q.elim
  | ok ds st1 =>
    have hlen := hl _ _ _ _ e
    rw [e] at q
    refine ⟨ρ, env, st, er, w, ?_⟩
    rw [e]
    intro vs H1 ρ1 e1 w1 r1
    match ds, hlen, r1, q with
    | [a, b, c], _, .cons ra (.cons rb (.cons rc .nil)), q =>
      exact ⟨_, _, _, rfl, q _ H1 ρ1 e1 w1 ((((er.ext e1).set ra i).set rb j).set rc k)⟩
end
end Mu

set_option linter.all false
set_option Elab.async false
/-! Statements: the check, and that they are sound. -/
namespace Mu
open PySem PySem.Spec PyProof.Rows L2

/-! ### the check -/
def nSetDict : Expr → Bool
  | .SetComp .. => false
  | .DictComp .. => false
  | _ => true
/-- a list comprehension that is stored as its block is left -/
def lcHot (c : Ct) : Expr → Expr → Bool
  | .Name y py, .ListComp _ _ scope p0 => c.kind y == some .local && py.line == p0.line && !(scope.names.any fun (n, k) => n == y && (k == .local || k == .cell))
  | _, _ => false
def swNone (c : Ct) : Expr → Expr → Bool
  | .Tuple ts _ _, .Tuple vs _ _ => swP c ts vs == some none
  | .List _ _, _ => false
  | _, _ => true
def pnames (c : Ct) : List Nat → List Expr → Option (List Str)
  | [], [] => some []
  | i :: is, .Name y _ :: r => if c.N[i]? = some y ∧ c.kind y = some .local then (pnames c is r).map (y :: ·) else none
  | _, _ => none

mutual
def chkS (c : Ct) : Nat → S → Stmt → Bool
  | 0, _, _ => false
  | n + 1, s, t => match s, t with
    | .never, _ => true
    | .expr e, .Expr x _ => nComp x && chkE c n e x
    | .asg (.name i) (.comp r el tg it cond own), .Assign [.Name y py] (.ListComp x [⟨t, j, ifs, 0⟩] scope p0) pos =>
        if lcHot c (.Name y py) (.ListComp x [⟨t, j, ifs, 0⟩] scope p0) then
          decide (c.N[i]? = some y) && chkE c n (.comp r el tg it cond own) (.ListComp x [⟨t, j, ifs, 0⟩] scope p0)
        else chkG c n (.name i) (.Name y py) && chkE c n (.comp r el tg it cond own) (.ListComp x [⟨t, j, ifs, 0⟩] scope p0)
    | .asg g e, .Assign [t] x _ => nStar t && nSetDict x && !lcHot c t x && swNone c t x && chkG c n g t && chkE c n e x
    | .par is es, .Assign [.Tuple ts _ _] (.Tuple vs _ _) _ => (match swP c ts vs, pnames c is ts with
        | some (some ns), some ms => decide (ns = ms)
        | _, _ => false) && decide is.Nodup && vs.all nStar && zipAll (fun e x => chkE c n e x) es vs && (is.length == 2 || is.length == 3)
    | .ret e, .Return (some x) _ => chkE c n e x
    | .retN, .Return none _ => true
    | .ite t a b, .If x ss ts _ => chkT c n t x && chkL c n a ss && chkL c n b ts
    | .whl t b, .While x ss [] _ => chkT c n t x && chkL c n b ss
    | .for_ t it b, .For tg i ss [] _ => chkI c n tg it i && nSet i && chkG c n t tg && chkL c n b ss
    | .pass, .Pass _ => true
    | .brk, .Break _ => true
    | .cont, .Continue _ => true
    | _, _ => false
def chkL (c : Ct) : Nat → List S → List Stmt → Bool
  | 0, _, _ => false
  | n + 1, ss, ts => match ss, ts with
    | [], [] => true
    | s :: ss, t :: ts => chkS c n s t && chkL c n ss ts
    | _, _ => false
end

section
variable {C : Cf} {c : Ct} {W : WX} {X : Cx} {n : Nat}
theorem sw_else {g x : Expr} {l : Nat} {env : PySem.Env} (hs : env.scope = c.sc) (hk : c.sc.kind = .function) (h1 : nSetDict x = true) (h2 : lcHot c g x = false) : swapsWithSole [g] x l env = pure false := by
  show swapsWith x (some g) l env = pure false
  cases x with
  | SetComp _ _ _ _ => cases h1
  | DictComp _ _ _ _ _ => cases h1
  | ListComp a b sc p0 =>
    cases g with
    | Name y py =>
      have hb : env.blockKind = .function := by unfold Env.blockKind; rw [hs, hk]; rfl
      have hkind : env.kindOf y = c.kind y := by unfold Env.kindOf Ct.kind; rw [hs]
      unfold lcHot at h2
      unfold swapsWith
      simp only [hb, hkind, Expr.pos]
      have e : ((ScopeKind.function == ScopeKind.function) : Bool) = true := rfl
      show (pure (_ && _ && _ && _) : Sem Bool) = _
      rw [show (ScopeKind.function == ScopeKind.function) = true from rfl, Bool.true_and]
      exact congrArg (fun b => (pure b : Sem Bool)) h2
    | _ => rfl
  | _ => rfl
theorem sw_hot {y : Str} {py p0 : Pos} {x : Expr} {gs : List Comprehension} {sc : Scope} {l : Nat} {env : PySem.Env} (hs : env.scope = c.sc) (hk : c.sc.kind = .function) (h2 : lcHot c (.Name y py) (.ListComp x gs sc p0) = true) :
    swapsWith (.ListComp x gs sc p0) (some (.Name y py)) l env = pure true ∧ env.scope.names.lookup y = some .local := by
  unfold lcHot at h2
  simp only [Bool.and_eq_true, Bool.not_eq_true', beq_iff_eq] at h2
  obtain ⟨⟨h1, h2⟩, h3⟩ := h2
  have hy : env.scope.names.lookup y = some .local := by rw [hs]; exact h1
  exact ⟨sw_true (by rw [hs]; exact hk) hy (by rw [h2]; exact beq_self_eq_true _) h3, hy⟩
theorem sp_none {g x : Expr} {env : PySem.Env} (hs : env.scope = c.sc) (hk : c.sc.kind = .function) (h : swNone c g x = true) : swappedStores [g] x env = pure none := by
  have hb : env.blockKind = .function := by unfold Env.blockKind; rw [hs, hk]; rfl
  cases g with
  | Tuple ts a b =>
    cases x with
    | Tuple vs a' b' =>
      exact swP_of hb hs (by unfold swNone at h; exact beq_iff_eq.mp h)
    | _ => rfl
  | List _ _ => cases h
  | _ => rfl
theorem pnames_of : ∀ {is : List Nat} {ts : List Expr} {ms : List Str}, pnames c is ts = some ms → ts.length = is.length ∧ ms.length = is.length
  | [], [], ms, h => by cases h; exact ⟨rfl, rfl⟩
  | [], _ :: _, ms, h => by cases h
  | i :: is, [], ms, h => by cases h
  | i :: is, t :: r, ms, h => by
    cases t with
    | Name y p =>
      unfold pnames at h
      split at h
      · cases e : pnames c is r with
        | none => rw [e] at h; cases h
        | some ns =>
          rw [e] at h
          cases h
          have q := pnames_of e
          simp [q.1, q.2]
      · cases h
    | _ => cases h
theorem pnames_cons {i : Nat} {is : List Nat} {t : Expr} {r : List Expr} {ms : List Str} (h : pnames c (i :: is) (t :: r) = some ms) : ∃ y p ns, t = .Name y p ∧ ms = y :: ns ∧ c.N[i]? = some y ∧ c.kind y = some .local ∧ pnames c is r = some ns := by
  cases t with
  | Name y p =>
    unfold pnames at h
    split at h
    · rename_i h1
      cases e : pnames c is r with
      | none => rw [e] at h; cases h
      | some ns =>
        rw [e] at h
        cases h
        exact ⟨y, p, ns, rfl, rfl, h1.1, h1.2, rfl⟩
    · cases h
  | _ => cases h
theorem snd_comp_rule (G : Good C c W X) (m k : Nat) {i : Nat} {r : Bool} {el : E} {tg : Tg} {it : Iz} {cond : Option E} {own : List (Str × Nat)} {y : Str} {py p0 pos : Pos} {x t j : Expr} {ifs : List Expr} {scope : Scope} (hs : c.sc.kind = .function)
    (hot : lcHot c (.Name y py) (.ListComp x [⟨t, j, ifs, 0⟩] scope p0) = true) (hi : c.N[i]? = some y) (h : chkE c (k + 1) (.comp r el tg it cond own) (.ListComp x [⟨t, j, ifs, 0⟩] scope p0) = true) :
    PS X (.Assign [.Name y py] (.ListComp x [⟨t, j, ifs, 0⟩] scope p0) pos) (RS X W fun env st => (ev C (m + 1) (.comp r el tg it cond own) env st).run env fun d st => .next (env.set i (some d)) st) := by
  unfold chkE at h
  simp only [Bool.and_eq_true] at h
  obtain ⟨⟨⟨⟨⟨⟨h1, h2⟩, h3⟩, h4⟩, h5⟩, h6⟩, h7⟩ := h
  have S := snd k
  obtain ⟨sw, hy⟩ := sw_hot (l := pos.line) G.sc hs hot
  refine ss_lc (sl := tgS tg) (gt := fun x env st => tgD (fun e env st => ev C m e env st) tg x env st) (ft := condT (fun c env st => evT C m c env st) cond) (fe := fun env st => ev C m el env st)
    G.cx.calm G.nd (by rw [G.N]; exact hi) hy sw (S.i G m t it j h2) (blkOk_by (by rw [G.N, G.sc]; exact h1)) (fun s H a cl fp => S.g (G.blk s H scope a cl fp) m tg t h4 _ fun j hj => hj) (fun s H a cl fp => ?_) (fun s H a cl fp => S.e (G.blk s H scope a cl fp) m el x h7) (set_of h3 _) ?_
  · split at h6
    · refine ⟨fun p s σ H Q I z => pts_nil.run p s σ H Q I ?_⟩
      obtain ⟨ρ, env, st, er, w, q⟩ := z
      exact Post.here (st := st) q w rfl
    · exact ⟨fun p s' σ H' Q I z => (pts_one (S.t (G.blk s H scope a cl fp) m _ _ h6)).run p s' σ H' Q I z⟩
    · cases h6
  · intro j hj
    exact List.contains_iff_mem.mp (List.all_eq_true.mp h5 j hj)
theorem snd_asg (G : Good C c W X) (m k : Nat) {g : Tg} {e : E} {t x : Expr} {pos : Pos} (hs : c.sc.kind = .function) (h1 : nStar t = true) (h2 : nSetDict x = true) (h3 : lcHot c t x = false) (h4 : swNone c t x = true) (h5 : chkG c k g t = true) (h6 : chkE c k e x = true) :
    PS X (.Assign [t] x pos) (RS X W fun env st => (ev C m e env st).run env fun d st => (tgD (fun e env st => ev C m e env st) g d env st).still.run env fun env st => .next env st) := by
  refine ss_asg (sl := tgS g) (gt := fun x env st => tgD (fun e env st => ev C m e env st) g x env st) ((snd k).e G m e x h6) ((snd k).g G m g t h5 _ fun j hj => hj) (sw_else G.sc hs h2 h3) (sp_none G.sc hs h4) ?_
  rw [assign_of h1]
  rfl

structure SndS (c : Ct) (n : Nat) : Prop where
  s : ∀ {C : Cf} {W : WX} {X : Cx} (_ : Good C c W X) (_ : PassesOwn (model X.prog X.w) X.A X.env X.xe) (m : Nat) (s : S) (t : Stmt), chkS c n s t = true → PS X t (RS X W fun env st => ex C m s env st)
  l : ∀ {C : Cf} {W : WX} {X : Cx} (_ : Good C c W X) (_ : PassesOwn (model X.prog X.w) X.A X.env X.xe) (m : Nat) (ss : List S) (ts : List Stmt), chkL c n ss ts = true → PSs X ts (RS X W fun env st => exL (ex C m) ss env st)
theorem snd_par (G : Good C c W X) (m k : Nat) {is : List Nat} {es : List E} {ts vs : List Expr} {kt k2 : Nat} {pt p2 pos : Pos} (hs : c.sc.kind = .function)
    (h1 : (match swP c ts vs, pnames c is ts with
        | some (some ns), some ms => decide (ns = ms)
        | _, _ => false) = true) (h2 : is.Nodup) (h3 : vs.all nStar = true) (h4 : zipAll (fun e x => chkE c k e x) es vs = true) (h5 : is.length = 2 ∨ is.length = 3) :
    PS X (.Assign [.Tuple ts kt pt] (.Tuple vs k2 p2) pos) (RS X W fun env st => (evL (fun e st => ev C m e env st) es st).run env fun ds st => .next (setAll is ds env) st) := by
  cases e1 : swP c ts vs with
  | none => rw [e1] at h1; cases h1
  | some o =>
    cases o with
    | none => rw [e1] at h1; cases h1
    | some ns =>
      cases e2 : pnames c is ts with
      | none => rw [e1, e2] at h1; cases h1
      | some ms =>
        rw [e1, e2] at h1
        obtain rfl : ns = ms := of_decide_eq_true h1
        have hb : X.env.blockKind = .function := by unfold Env.blockKind; rw [G.sc, hs]; rfl
        have sp := swP_of (k := kt) (k' := k2) (p := pt) (p' := p2) hb G.sc e1
        have l1 := pnames_of e2
        have lv : vs.length = ts.length := by
          unfold swP at e1
          split at e1
          · cases e1
          · rename_i z
            simp only [Bool.or_eq_true, not_or, bne_iff_ne, ne_eq, Decidable.not_not, Bool.not_eq_true] at z
            exact z.2
        have pa := zip_args (snd k) G m es vs h3 h4
        have le : ∀ env st ds st', evL (fun e st => ev C m e env st) es st = .ok ds st' → ds.length = is.length := fun env st ds st' e => by rw [evL_len e, zip_len _ _ h4, lv, l1.1]
        have lk : ∀ {y : Str}, c.kind y = some .local → X.env.scope.names.lookup y = some .local := fun h => by rw [G.sc]; exact h
        have nk : ∀ {i : Nat} {y : Str}, c.N[i]? = some y → X.N[i]? = some y := fun h => by rw [G.N]; exact h
        rcases h5 with h5 | h5
        · match is, ts, h5, h2, e2, l1.1, lv, sp with
          | [i, j], [t1, t2], _, h2, e2, _, lv, sp =>
            obtain ⟨y1, p1, ns1, rfl, rfl, a1, b1, e2⟩ := pnames_cons e2
            obtain ⟨y2, p2, ns2, rfl, rfl, a2, b2, e2⟩ := pnames_cons e2
            cases e2
            match vs, lv, pa, sp with
            | [v1, v2], _, pa, sp =>
              exact ss_par2 G.cx.calm G.nd (nk a1) (nk a2) (by simpa using h2) (lk b1) (lk b2) pa sp le
        · match is, ts, h5, h2, e2, l1.1, lv, sp with
          | [i, j, q], [t1, t2, t3], _, h2, e2, _, lv, sp =>
            obtain ⟨y1, p1, ns1, rfl, rfl, a1, b1, e2⟩ := pnames_cons e2
            obtain ⟨y2, p2, ns2, rfl, rfl, a2, b2, e2⟩ := pnames_cons e2
            obtain ⟨y3, p3, ns3, rfl, rfl, a3, b3, e2⟩ := pnames_cons e2
            cases e2
            have nd : (i ≠ j ∧ i ≠ q) ∧ j ≠ q := by simpa using h2
            match vs, lv, pa, sp with
            | [v1, v2, v3], _, pa, sp =>
              exact ss_par3 G.cx.calm G.nd (nk a1) (nk a2) (nk a3) nd.1.1 nd.1.2 nd.2 (lk b1) (lk b2) (lk b3) pa sp le
theorem snd_s1 (ih : SndS c n) (hs : c.sc.kind = .function) {C : Cf} {W : WX} {X : Cx} (G : Good C c W X) (hp : PassesOwn (model X.prog X.w) X.A X.env X.xe) (m : Nat) (s : S) (t : Stmt) (h : chkS c (n + 1) s t = true) : PS X t (RS X W fun env st => ex C m s env st) := by
  cases m with
  | zero => exact ss_no fun _ _ => rfl
  | succ m =>
    unfold chkS at h
    split at h
    · exact ss_no fun _ _ => rfl
    · rw [Bool.and_eq_true] at h
      exact ss_expr h.1 ((snd n).e G m _ _ h.2)
    · split at h
      · rename_i hot
        rw [Bool.and_eq_true, decide_eq_true_eq] at h
        cases n with
        | zero => cases h.2
        | succ k =>
          cases m with
          | zero => exact ss_no fun _ _ => rfl
          | succ m =>
            refine PS.imp (snd_comp_rule G m k hs hot h.1 h.2) fun D σ H ⟨ρ, env, st, er, w, z⟩ => ⟨ρ, env, st, er, w, ?_⟩
            revert z
            show PostS X.K X.mg W ρ H ((ev C (m + 1) _ env st).run env fun d st => (tgD _ (.name _) d env st).still.run env fun env st => .next env st) D → _
            simp only [tgD, Res.still_ok, Res.run_ok]
            exact id
      · rename_i hot
        rw [Bool.and_eq_true] at h
        exact snd_asg G m n hs rfl rfl (by simpa using hot) rfl h.1 h.2
    · simp only [Bool.and_eq_true, Bool.not_eq_true'] at h
      obtain ⟨⟨⟨⟨⟨h1, h2⟩, h3⟩, h4⟩, h5⟩, h6⟩ := h
      exact snd_asg G m n hs h1 h2 h3 h4 h5 h6
    · simp only [Bool.and_eq_true, Bool.or_eq_true, beq_iff_eq, decide_eq_true_eq] at h
      obtain ⟨⟨⟨⟨h1, h2⟩, h3⟩, h4⟩, h5⟩ := h
      exact snd_par G m n hs h1 h2 h3 h4 h5
    · exact ss_ret ((snd n).e G m _ _ h)
    · exact ss_retN
    · simp only [Bool.and_eq_true] at h
      exact ss_if ((snd n).t G m _ _ h.1.1) (ih.l G hp m _ _ h.1.2) (ih.l G hp m _ _ h.2)
    · simp only [Bool.and_eq_true] at h
      exact ss_whl hp ((snd n).t G m _ _ h.1) (ih.l G hp m _ _ h.2) wmax
    · simp only [Bool.and_eq_true] at h
      obtain ⟨⟨⟨h1, h2⟩, h3⟩, h4⟩ := h
      exact ss_for (sl := tgS _) hp G.cx.calm ((snd n).i G m _ _ _ h1) ((snd n).g G m _ _ h3 _ fun j hj => hj) (ih.l G hp m _ _ h4) (set_of h2 _)
    · exact ss_pass
    · exact ss_brk
    · exact ss_cont
    · cases h
theorem snd_l1 (ih : SndS c n) {C : Cf} {W : WX} {X : Cx} (G : Good C c W X) (hp : PassesOwn (model X.prog X.w) X.A X.env X.xe) (m : Nat) (ss : List S) (ts : List Stmt) (h : chkL c (n + 1) ss ts = true) : PSs X ts (RS X W fun env st => exL (ex C m) ss env st) := by
  unfold chkL at h
  split at h
  · exact sss_nil
  · rw [Bool.and_eq_true] at h
    exact sss_cons (ih.s G hp m _ _ h.1) (ih.l G hp m _ _ h.2)
  · cases h
end
theorem sndS {c : Ct} (hs : c.sc.kind = .function) : ∀ n, SndS c n
  | 0 => ⟨fun _ _ _ _ _ h => (by cases h), fun _ _ _ _ _ h => (by cases h)⟩
  | n + 1 => ⟨fun G hp m s t h => snd_s1 (sndS hs n) hs G hp m s t h, fun G hp m ss ts h => snd_l1 (sndS hs n) G hp m ss ts h⟩
end Mu

set_option linter.all false
set_option Elab.async false
/-! Defs: a table of the interpreter's defs is sound, each at every depth. -/
namespace Mu
open PySem PySem.Spec PyProof.Rows L2

/-! ### behind a call: new objects that nobody knows are let go -/
def Rho.cut (ρ : Rho) (n : Nat) : Rho := ⟨ρ.ix.take n, ρ.no⟩
section
variable {K : PySem.W.Frag} {mg : Str → Option Value} {ρ ρ' : Rho} {H H' : Hp} {st : Sto} {n : Nat}
theorem Out.cut {a : Addr} (x : Out ρ a) : Out (ρ.cut n) a := ⟨fun m => x.1 (List.mem_of_mem_take m), x.2⟩
theorem TupAt.cut {a : Addr} {xs : List V} (h : TupAt K ρ H a xs) : TupAt K (ρ.cut n) H a xs := by
  rcases h with ⟨h, x⟩ | h
  · exact .inl ⟨h, x.cut⟩
  · exact .inr h
theorem RolAt.cut {a : Addr} {xs : List V} (h : RolAt K ρ H a xs) : RolAt K (ρ.cut n) H a xs := by
  rcases h with ⟨h, x⟩ | h
  · exact .inl ⟨h, x.cut⟩
  · exact .inr h
mutual
theorem Rep.cut : ∀ {d : D} {v : V}, Rep K mg ρ H d v → D.low n d = true → Rep K mg (ρ.cut n) H d v
  | _, _, .non, _ => .non
  | _, _, .bl b, _ => .bl b
  | _, _, .int i, _ => .int i
  | _, _, .str x, _ => .str x
  | _, _, .ty n, _ => .ty n
  | _, _, .fn h, _ => .fn h
  | _, _, .tup t r, q => .tup t.cut (RepL.cut r (by unfold D.low at q; exact q))
  | _, _, .lst t r, q => .lst ⟨t.1, t.2.cut⟩ (RepL.cut r (by unfold D.low at q; exact q))
  | _, _, .rol t r, q => .rol t.cut (RepL.cut r (by unfold D.low at q; exact q))
  | _, _, .ref (i := i) h, q => .ref (by
    unfold D.low at q
    show (ρ.ix.take n)[i]? = _
    rw [List.getElem?_take_of_lt (of_decide_eq_true q)]
    exact h)
theorem RepL.cut : ∀ {ds : List D} {vs : List V}, RepL K mg ρ H ds vs → D.lows n ds = true → RepL K mg (ρ.cut n) H ds vs
  | _, _, .nil, _ => .nil
  | _, _, .cons h t, q => by
    unfold D.lows at q
    rw [Bool.and_eq_true] at q
    exact .cons (Rep.cut h q.1) (RepL.cut t q.2)
end
theorem Wd.cut (w : Wd K mg ρ st H) (h : (st.take n).all (O.low n) = true) : Wd K mg (ρ.cut n) (st.take n) H := by
  refine ⟨?_, ?_, fun i a o h1 h2 => ?_, fun a m => ⟨(w.pv a m).1, fun z => (w.pv a m).2 (List.mem_of_mem_take z)⟩⟩
  · show (ρ.ix.take n).length = _
    rw [List.length_take, List.length_take, w.len]
  · exact w.nd.sublist (List.take_sublist _ _)
  · have hl : i < n := by
      have := (List.getElem?_eq_some_iff.mp h2).1
      rw [List.length_take] at this
      omega
    have h1 : (ρ.ix.take n)[i]? = some a := h1
    have hm := List.all_eq_true.mp h o (List.mem_of_getElem? h2)
    rw [List.getElem?_take_of_lt hl] at h1 h2
    have q := w.ob i a o h1 h2
    cases o with
    | lst ds =>
      obtain ⟨xs, e, r⟩ := q
      exact ⟨xs, e, r.cut (by unfold O.low at hm; exact hm)⟩
theorem Ext.cut (e : Ext ρ H ρ' H') : Ext ρ H (ρ'.cut ρ.ix.length) H' := by
  obtain ⟨l, e2, hl⟩ := e.more
  exact ⟨e.no, ⟨[], by show ρ'.ix.take _ = _; rw [e2, List.take_left, List.append_nil], by simp⟩, e.same, e.live⟩
theorem trim_ok {W : WX} {σ : L2.St} {d : D} {Q : VK} (hn : n = ρ.ix.length) (h : Post K mg W σ ρ H (Rep K mg) (trim n d st) Q) {v : V} (e : Ext ρ H ρ' H') (w : Wd K mg ρ' st H') (r : Rep K mg ρ' H' d v) : Q v H' := by
  unfold trim at h
  split at h
  · rename_i z
    rw [Bool.and_eq_true] at z
    subst hn
    exact h v H' _ e.cut (w.cut z.2) (r.cut z.1)
  · exact h v H' ρ' e w r
/-- a def's end -/
theorem finish_ok {W : WX} {σ : L2.St} {r : SR} {Q : VK} (hW : ∀ c d σ σ' H, W c d σ H → W c d σ' H) (hn : n = ρ.ix.length) (h : Post K mg W σ ρ H (Rep K mg) (finish n r) Q) : PostS K mg W ρ H r { nx := fun _ H' => Q .non H', rt := Q } := by
  cases r with
  | next env st => exact fun σ' H' ρ' e w _ => trim_ok hn h e w .non
  | ret d st => exact fun v H' ρ' e w r => trim_ok hn h e w r
  | brk env st => exact h.elim
  | cont env st => exact h.elim
  | exc c fs env st => exact fun cls dd σ' H' ρ' e w _ x => hW _ _ σ σ' _ (h cls dd H' ρ' e w x)
  | stuck => exact h.elim
theorem env_start {N : List Str} {ds : List D} {vs : List V} (r : RepL K mg ρ H ds vs) : EnvRep K mg ρ H (ds.map some ++ List.replicate (N.length - ds.length) none) (L2.start N vs) := by
  refine ⟨by unfold L2.start; simp [r.length], fun i d h => ?_⟩
  by_cases hi : i < ds.length
  · rw [List.getElem?_append_left (by simpa using hi), List.getElem?_map] at h
    cases e : ds[i]? with
    | none => rw [e] at h; cases h
    | some d' =>
      rw [e] at h
      cases h
      obtain ⟨v, hv, rv⟩ := r.get e
      refine ⟨v, ?_, rv⟩
      unfold L2.start
      rw [List.getElem?_append_left (by rw [List.length_map, ← r.length]; exact hi), List.getElem?_map, hv]
      rfl
  · rw [List.getElem?_append_right (by simpa using hi)] at h
    have := List.mem_of_getElem? h
    have := List.eq_of_mem_replicate this
    cases this
end

/-! ### a def by its body, where no object is under way -/
section
variable {P : Program} {w : World} {K : PySem.W.Frag} {mg : Str → Option Value} {base : Heap}
theorem fnG_of {k : Nat} {x qual : Str} {params : Arguments} {body : List Stmt} {scope : Scope} {dvs : List V} {f : Addr} {fd : FuncData} {N ps : List Str} {sp : Sp} (F : FunD K x qual params body scope dvs [] f fd) (S : FnScope N ps scope)
    (hlen : ∀ vs H Q E, sp vs H Q E → vs.length = ps.length)
    (hb : ∀ (cdv : Value) (A : Around) (outer : List PySem.Env) (s : Shared) (H : Hp) (vs : List V) (Q : VK) (E : XK), Room k (A.deeper (envOfC qual scope s.heap.objs.size f cdv)) → A.guards = some [] → A.frames = some outer → sp vs H Q E →
      ∃ t, PSs (cxOf (L2.CX P w) P w K mg base N qual scope f cdv A outer s H E) body t ∧ t { nx := fun _ H' => Q .non H', rt := Q } (L2.start N vs) H) : FnG P w K mg base (k + 1) f fd ps sp := by
  obtain ⟨oc, od, dV, kV, doc, pm, an, cdv, ct, osl, rfl, lk, hcd, _, _⟩ := F.ex
  refine ⟨hlen, ?_⟩
  intro A outer s H args us vs Q E hr hg ce binds rv hsp
  have lv := hlen _ _ _ _ hsp
  have kin : K.In s.heap := ce.mod.kin.keeps fun b o e => And.left (ce.bs b o e)
  have lim := ce.mod.nolimit.keeps fun b o e => And.left (ce.bs b o e)
  have kinds : ∀ y ∈ ps.zip us, scope.names.lookup y.1 = some .local ∨ scope.names.lookup y.1 = some .cell ∧ ((cellsFrom (s.heap.objs.size + 1) scope.names []).lookup y.1).isSome = true := by
    rintro ⟨m, v⟩ hy
    have q := S.par m (List.of_mem_zip hy).1
    exact q.elim Or.inl fun q => Or.inr ⟨q, PySem.W.cellsFrom_some _ _ _ (Or.inl q)⟩
  refine codeAny_call_function hr.depth (kin _ _ lk) rfl S.co S.gen rfl (PySem.W.codeRec_of kin hcd) (binds _ _ _ _ (wpAny_newFunctionEnv_cells S.kind kinds fun env he s1 x => ?_))
  subst he
  refine ⟨lim.keeps x.toInCall.keep, codeAny_func ?_⟩
  obtain ⟨t, ht, hq⟩ := hb cdv A outer s H vs Q E (hr.deeper _) hg ce.frames hsp
  have J := inv_start (CX := L2.CX P w) (E := E) S hr.hd ce lv rv x
  have fin : ∀ {s' : Shared} {σ' : L2.St} {H' : Hp} {v : V} {u : Value}, Inv (cxOf (L2.CX P w) P w K mg base N qual scope f cdv A outer s H E) [] σ' H' s' → RelV v u → Q v H' → CE outer P w H s Q u s' := by
    intro s' σ' H' v u J rv q
    exact ⟨v, H', J.os, J.bare, J.base, J.hok, rv, q⟩
  refine wpAny_mono (ht.run [] s1 _ H _ J hq) (fun fl s' hs => ?_) fun e s' hs => hs
  match fl, hs with
  | .ret u, ⟨v, σ', H', J, rv, q⟩ => exact fin J rv q
  | .next, ⟨σ', H', J, q⟩ => exact fin (v := V.non) (u := Value.none) J rfl q
  | .brk, ⟨_, _, _, q⟩ => exact q.elim
  | .cont, ⟨_, _, _, q⟩ => exact q.elim

/-! ### tables -/
/-- the interpreter's def F is the text's -/
structure FdOk (K : PySem.W.Frag) (mg : Str → Option Value) (T : Tab) (F : Fd) (a : Addr) (fd : FuncData) : Prop where
  at_ : mg F.name = some (.ref a)
  dl : F.dft.length ≤ F.ps.length
  ex : ∃ (qual : Str) (params : Arguments) (body : List Stmt) (scope : Scope) (dvs : List V), FunD K F.name qual params body scope dvs [] a fd ∧ FnScope F.names F.ps scope ∧ chkL ⟨F.names, scope, fun _ => true, fun x => (T.fn x).isSome⟩ 200 F.body body = true
  bind : ∀ j, j ≤ F.dft.length → ∃ zs ws, Vals zs ws ∧ (∀ ρ H, RepL K mg ρ H (F.dft.drop j) zs) ∧ Binds K fd F.ps ws
structure TabOk (P : Program) (K : PySem.W.Frag) (mg : Str → Option Value) (base : Heap) (T : Tab) : Prop where
  seer : base.NoSeer
  tree : P.given.tree = none
  con : ∀ x d, T.con x = some d → ∃ v u, mg x = some u ∧ RelV v u ∧ ∀ ρ H, Rep K mg ρ H d v
  blt : ∀ x ∈ blts, mg x = none
  fns : ∀ F ∈ T.fns, ∃ a fd, FdOk K mg T F a fd
theorem Tab.fn_some {T : Tab} {x : Str} {F : Fd} (h : T.fn x = some F) : F ∈ T.fns ∧ F.name = x := by
  unfold Tab.fn at h
  exact ⟨List.mem_of_find?_eq_some h, by simpa using List.find?_some h⟩
theorem callF_eq {T : Tab} {x : Str} {F : Fd} (h : T.fn x = some F) (k : Nat) (ds : List D) (st : Sto) : callF T (k + 1) x ds st = if (F.pad ds).length = F.ps.length then
        finish st.length (exL (ex { k := k, call := callF T k, con := T.con } deep) F.body ((F.pad ds).map some ++ List.replicate (F.names.length - (F.pad ds).length) none) st) else .stuck := by
  show (match T.fn x with
    | none => Res.stuck
    | some F => if (F.pad ds).length = F.ps.length then
        finish st.length (exL (ex { k := k, call := callF T k, con := T.con } deep) F.body ((F.pad ds).map some ++ List.replicate (F.names.length - (F.pad ds).length) none) st) else .stuck) = _
  rw [h]
theorem pad_full {F : Fd} {ds : List D} (h : ds.length = F.ps.length) : F.pad ds = ds := by
  unfold Fd.pad
  rw [List.drop_eq_nil_of_le (by omega), List.append_nil]
theorem tab_ok {T : Tab} (TK : TabOk P K mg base T) : ∀ (k : Nat) (x : Str) (F : Fd) (a : Addr) (fd : FuncData), T.fn x = some F → FdOk K mg T F a fd → FnG P w K mg base k a fd F.ps (spC K mg F.ps.length (callF T k x))
  | 0, x, F, a, fd, _, _ => ⟨fun vs H Q E h => h.1, fun A outer s H args us vs Q E _ _ _ _ _ ⟨_, ρ, ds, st, _, _, q⟩ => q.elim⟩
  | k + 1, x, F, a, fd, hx, ok => by
    obtain ⟨qual, params, body, scope, dvs, FD, S, hc⟩ := ok.ex
    refine fnG_of FD S (fun vs H Q E h => h.1) fun cdv A outer s H vs Q E hr hg hf ⟨hl, ρ, ds, st, rd, wd, q⟩ => ?_
    have hd : ds.length = F.ps.length := by rw [rd.length]; exact hl
    rw [callF_eq hx, pad_full hd, if_pos hd] at q
    have G : Good { k := k, call := callF T k, con := T.con } ⟨F.names, scope, fun _ => true, fun x => (T.fn x).isSome⟩ (fun c d _ H => E c d H) (cxOf (L2.CX P w) P w K mg base F.names qual scope a cdv A outer s H E) := by
      refine ⟨rfl, rfl, fun _ _ => rfl, S.nd, ⟨rfl, hg, TK.seer, TK.tree, ?_⟩, hr, takes_of rfl rfl rfl rfl, fun f hf => ?_, TK.con, TK.blt⟩
      · refine ⟨envOfC qual scope s.heap.objs.size a cdv, outer, ?_, S.gen, S.co, rfl, rfl⟩
        show (A.deeper _).frames = _
        have : (A.deeper (envOfC qual scope s.heap.objs.size a cdv)).frames = A.frames.map (envOfC qual scope s.heap.objs.size a cdv :: ·) := rfl
        rw [this, hf]
        rfl
      · cases e : T.fn f with
        | none =>
          have hf : (T.fn f).isSome = true := hf
          rw [e] at hf
          cases hf
        | some F' =>
          obtain ⟨hm, hn⟩ := Tab.fn_some e
          obtain ⟨a', fd', ok'⟩ := TK.fns F' hm
          obtain ⟨_, _, _, _, _, FD', _, _⟩ := ok'.ex
          refine ⟨a', fd', F'.ps, by rw [← hn]; exact ok'.at_, FD'.kp, tab_ok TK k f F' a' fd' e ok', fun n => ?_⟩
          have dl := ok'.dl
          by_cases hcase : n ≤ F'.ps.length ∧ F'.ps.length ≤ n + F'.dft.length
          · right
            obtain ⟨zs, ws, v1, r1, b1⟩ := ok'.bind (n + F'.dft.length - F'.ps.length) (by omega)
            refine ⟨F'.dft.drop (n + F'.dft.length - F'.ps.length), zs, ws, ?_, v1, r1, b1, fun ds st hl => ?_⟩
            · rw [List.length_drop]
              omega
            · cases k with
              | zero => rfl
              | succ k =>
                have e1 : F'.pad ds = ds ++ F'.dft.drop (n + F'.dft.length - F'.ps.length) := by unfold Fd.pad; rw [hl]
                have e2 : F'.pad (ds ++ F'.dft.drop (n + F'.dft.length - F'.ps.length)) = ds ++ F'.dft.drop (n + F'.dft.length - F'.ps.length) := pad_full (by
                  rw [List.length_append, List.length_drop, hl]
                  omega)
                show callF T (k + 1) f ds st = callF T (k + 1) f _ st
                rw [callF_eq e, callF_eq e, e1, e2]
          · left
            intro ds st hl
            cases k with
            | zero => rfl
            | succ k =>
              show callF T (k + 1) f ds st = _
              rw [callF_eq e, if_neg]
              unfold Fd.pad
              rw [List.length_append, List.length_drop, hl]
              omega
    refine ⟨_, (sndS (n := 200) S.kind).l G (passes_of rfl) deep F.body body hc, ρ, _, st, env_start rd, wd, ?_⟩
    exact finish_ok (fun _ _ _ _ _ h => h) wd.len.symm q
end
end Mu

set_option linter.all false
set_option Elab.async false
/-! The law's end: from the interpreter's answer to what the row says. -/
namespace Mu
open PySem PySem.Spec PyProof.Rows L2

theorem vals_nil {ws : List Value} (h : Vals [] ws) : ws = [] := by cases h; rfl
theorem repL_nil {K : PySem.W.Frag} {mg : Str → Option Value} {ρ : Rho} {H : Hp} {vs : List V} (h : RepL K mg ρ H [] vs) : vs = [] := by cases h; rfl
theorem rep_ints {K : PySem.W.Frag} {mg : Str → Option Value} {ρ : Rho} {H : Hp} : ∀ ns : List Int, RepL K mg ρ H (ns.map D.int) (ns.map V.int)
  | [] => .nil
  | n :: ns => .cons (.int n) (rep_ints ns)
/-- what is not the script stays to be seen -/
theorem seer_hid {h : Heap} {H : Hp} {a : Addr} {vs : List Value} (x : h.NoSeer) (ha : h.get? a = some { cls := .type "list", data := .seq vs.toArray }) (hA : ∀ b, H b ≠ none → b = a) : (hidT h H).NoSeer := by
  have free : ∀ {b : Addr} {o : Obj}, h.get? b = some o → b ≠ a → (hidT h H).get? b = some o := fun {b o} e hb => hidT_get e (by
    cases q : H b with
    | none => rfl
    | some u => exact absurd (hA b (by rw [q]; exact Option.some_ne_none u)) hb)
  have ns : ∀ {b : Addr} {m : Str → Option Value}, h.Ns b m → (hidT h H).Ns b m := by
    rintro b m ⟨o, es, ep, e, d, r⟩
    refine ⟨o, es, ep, free e ?_, d, r⟩
    rintro rfl
    rw [ha] at e
    cases e
    cases d
  refine ⟨?_, ?_, ?_, ?_⟩
  · obtain ⟨mc, h1, h2⟩ := x.statics
    exact ⟨mc, ns h1, h2⟩
  · obtain ⟨mc, h1, h2⟩ := x.mods
    exact ⟨mc, ns h1, h2⟩
  · obtain ⟨mc, h1, h2⟩ := x.imp
    exact ⟨mc, ns h1, h2⟩
  · obtain ⟨mg, bm, ob, h1, h2, h3, h4, h5⟩ := x.main
    refine ⟨mg, bm, ob, ns h1, h2, free h3 ?_, h4, h5⟩
    rintro rfl
    rw [ha] at h3
    cases h3
    exact absurd (Value.type.inj h4) (by decide)

/-- the law's call, where the top has run -/
theorem law_end {P : Program} {w : World} {K : PySem.W.Frag} {mg mb : Str → Option Value} {k : Nat} {fa a : Addr} {fd : FuncData} {ps : List Str} {sp : Sp} {s₁ : Shared} {vs : List Value} {ns : List Int}
    (KX : K.In s₁.heap) (hns : s₁.heap.Ns mainGlobals mg) (hb : s₁.heap.Ns builtinsNs mb) (hbb : ∀ x : Str, x ≠ "__name__" → mb x = bootBuiltins x) (hlim : s₁.heap.NoLimit) (hseer : s₁.heap.NoSeer) (hg : s₁.gens = #[])
    (ha : s₁.heap.get? a = some { cls := .type "list", data := .seq vs.toArray }) (hi : IntsAre vs ns) (hl : ns.length ≤ sizeLine) (hr : Room k callerA)
    (F : ∀ base : Heap, base.NoSeer → FnG P w K mg base k fa fd ps sp) (hbind : BindsTo s₁ fd ⟨[.ref a], []⟩ (ps.zip [.ref a]))
    (hsp : ∀ H : Hp, SqL K H a (ns.map V.int) → sp [.ref a] H (fun v _ => v = .bl true) fun _ _ _ => False) :
    codeAny (model P w) callerA (.call (.ref fa) ⟨[.ref a], []⟩) (fun r s' => r = .ok (.ret (.bool true)) ∧ OldK s₁.heap s'.heap ∧ s'.os = s₁.os ∧ AllBare s'.gens) s₁ := by
  have rv := vals_ints hi
  have core : ∀ H : Hp, Only H → SqL K H a (ns.map V.int) → HOk P w H s₁.heap → (∀ b, H b ≠ none → b = a) → (H a ≠ none → K.lookup a = none) →
      codeAny (model P w) callerA (.call (.ref fa) ⟨[.ref a], []⟩) (fun r s' => r = .ok (.ret (.bool true)) ∧ OldK s₁.heap s'.heap ∧ s'.os = s₁.os ∧ AllBare s'.gens) s₁ := by
    intro H only seq hok isA notK
    have free : ∀ {b : Addr} {o : Obj}, s₁.heap.get? b = some o → (b = a → H a = none) → (hidT s₁.heap H).get? b = some o := fun {b o} e hb => hidT_get e (by
      cases q : H b with
      | none => rfl
      | some u =>
        have z := isA b (by rw [q]; exact Option.some_ne_none u)
        subst z
        rw [hb rfl] at q
        cases q)
    have keepNs : ∀ {b : Addr} {m : Str → Option Value}, s₁.heap.Ns b m → (hidT s₁.heap H).Ns b m := by
      rintro b m ⟨o, es, ep, e, d, r⟩
      refine ⟨o, es, ep, free e ?_, d, r⟩
      rintro rfl
      rw [ha] at e
      cases e
      cases d
    have keepK : K.In (hidT s₁.heap H) := fun b o e => free (KX b o e) (by
      rintro rfl
      cases q : H b with
      | none => rfl
      | some u =>
        rw [notK (by rw [q]; exact Option.some_ne_none u)] at e
        cases e)
    obtain ⟨mc, c1, c2⟩ := hlim
    have env0 : Env0 P w K mg (hidT s₁.heap H) callerA [] s₁ H := by
      refine ⟨rfl, ⟨keepK, keepNs hns, ⟨mb, keepNs hb, hbb⟩, ⟨mc, keepNs c1, c2⟩⟩, fun b o e => of_hidT e, Nat.le_of_eq (hidT_size _ _), True.intro, ?_, hok, AllBare.of_eq hg⟩
      intro b hb
      cases hb
    have q := (F _ (seer_hid hseer ha isA)).run callerA [] s₁ H ⟨[.ref a], []⟩ [.ref a] [.ref a] _ _ hr rfl env0 hbind (.cons rfl .nil) (hsp H seq)
    refine codeAny_mono q ?_
    rintro (e | fl) s' z
    · obtain ⟨_, _, _, _, _, _, _, _, _, _, _, _, z⟩ := z
      exact z.elim
    · match fl, z with
      | .ret u, ⟨v, H', os, bare, un, hok', rel, e⟩ =>
        have e : v = .bl true := e
        subst e
        have e : u = Value.bool true := rel
        subst e
        refine ⟨rfl, OldK.of_keep fun b o e => ?_, os, bare⟩
        rcases only b with z | ⟨ob, xs, z⟩
        · refine un.keep b o e z (fun m => ?_) (fun m => ?_)
          all_goals cases m
        · obtain ⟨e1, _⟩ := hok b _ z
          obtain ⟨e2, _⟩ := hok' b _ (un.frzs b ob _ z)
          rw [e] at e1
          cases e1
          exact e2
  cases hk : K.lookup a with
  | some o =>
    have e := KX a o hk
    rw [ha] at e
    cases e
    have z : SqL K (fun _ => none) a (ns.map V.int) := .inr ⟨_, vs.toArray, _, hk, rfl, rfl, rfl, by rw [List.size_toArray, hi.length]; exact hl, by simpa using rv⟩
    refine core (fun _ => none) (fun _ => .inl rfl) z (fun b u z => ?_) (fun b z => absurd rfl z) fun z => absurd rfl z
    cases (show (none : Option HO) = some u from z)
  | none =>
    obtain ⟨G, hG1, hG2⟩ : ∃ G : Hp, G a = some (.frz { cls := .type "list", data := .seq vs.toArray } (.lst (ns.map V.int))) ∧ ∀ b, b ≠ a → G b = none := ⟨fun b => if b = a then _ else none, if_pos rfl, fun b hb => if_neg hb⟩
    have look : ∀ b u, G b = some u → b = a ∧ u = .frz { cls := .type "list", data := .seq vs.toArray } (.lst (ns.map V.int)) := fun b u z => by
      by_cases hb : b = a
      · subst hb
        rw [hG1] at z
        exact ⟨rfl, (Option.some.inj z).symm⟩
      · rw [hG2 b hb] at z
        cases z
    refine core G (fun b => ?_) (.inl (.inr ⟨_, hG1⟩)) (fun b u z => ?_) (fun b z => ?_) fun _ => hk
    · cases q : G b with
      | none => exact .inl rfl
      | some u =>
        rw [(look b u q).2]
        exact .inr ⟨_, _, rfl⟩
    · obtain ⟨rfl, rfl⟩ := look b u z
      exact ⟨ha, by rw [List.length_map]; exact hl, vs, _, rv, ha⟩
    · cases q : G b with
      | none => exact absurd q z
      | some u => exact (look b u q).1

theorem walk_mu {l : PySem.W.OpenLaw} {n k : Nat} {q : Program} {loose : List Str} {XP : (Str → Option Value) → Heap → Prop} {YP : World → Heap → Prop} {d : DefRec} {K : Params → PySem.W.Frag} {T : Tab}
    (hn : l.most = some n) (hn2 : n ≤ sizeLine) (hdf : d.params.defaults = []) (hr : Room k callerA) (hq : importsNone q = true)
    (hY : ∀ (w : World) (h : Heap), YP w h → (K w.params).In h)
    (F : ∀ (w : World) (mg : Str → Option Value) (fa : Addr) (h : Heap), (K w.params).In h → h.Ns mainGlobals mg → mg d.name = some (.ref fa) →
      ∃ (fd : FuncData) (F : Fd), T.fn d.name = some F ∧ F.ps.length = 1 ∧ FdOk (K w.params) mg T F fa fd ∧ ∀ base : Heap, base.NoSeer → TabOk l.prog (K w.params) mg base T)
    (law : ∀ ns : List Int, ns.length ≤ n → ∃ st, callF T k d.name [.rol (ns.map D.int)] [] = .ok (.bl true) st) :
    PySem.W.WalkO q loose XP YP l.row.toRowW d [] (fun f vs => PySem.call f vs) := by
  refine Att.attach_call hn hdf ?_
  intro w s₀ s₁ mg mb fa o pm cd doc a vs ns G Y ho hd hcd hmg hobj hints hlen hg
  have KX := hY w _ Y
  obtain ⟨fd, Fd, e1, e2, ok, tk⟩ := F w mg fa _ KX G.T.g hmg
  obtain ⟨zs, ws, v1, r1, b1⟩ := ok.bind Fd.dft.length (Nat.le_refl _)
  rw [List.drop_length] at r1
  obtain rfl := repL_nil (r1 ⟨[], []⟩ (fun _ => none))
  obtain rfl := vals_nil v1
  have bt := b1 s₁ [.ref a] KX (by rw [e2]; rfl)
  refine law_end KX G.T.g G.T.b G.T.builtins G.T.nolimit (G.T.seer hq) hg hobj hints (Nat.le_trans hlen hn2) hr (fun base hs => tab_ok (tk base hs) k d.name Fd fa fd e1 ok) bt fun H seq => ?_
  obtain ⟨st, hlaw⟩ := law ns hlen
  refine ⟨by rw [e2]; rfl, ⟨[], []⟩, [.rol (ns.map D.int)], [], .cons (.rol ?_ (rep_ints ns)) .nil, ⟨rfl, List.nodup_nil, fun i a o h => (by cases h), fun a m => (by cases m)⟩, ?_⟩
  · rcases seq with (h | ⟨o, h⟩) | h
    · exact .inl ⟨.inl h, fun m => (by cases m), fun m => (by cases m)⟩
    · exact .inl ⟨.inr ⟨o, h⟩, fun m => (by cases m), fun m => (by cases m)⟩
    · exact .inr fun H' => .inr h
  · rw [hlaw]
    intro v H' ρ' e w r
    cases r
    rfl
end Mu

set_option linter.all false
set_option Elab.async false
/-! The facts of a law's end: what the top has written. -/
namespace Mu
open PySem PySem.Spec PyProof.Rows L2

/-! ### the check of a def -/
def scB (N P : List Str) (sc : Scope) : Bool :=
  (match sc.kind with | .function => true | _ => false) && !sc.isCoroutine && !sc.isGenerator && decide N.Nodup && decide (N.take P.length = P) &&
    (P.all fun x => match sc.names.lookup x with | some .local => true | some .cell => true | _ => false) && sc.names.all fun y => match y.2 with | .free => false | _ => true
theorem scB_of {N P : List Str} {sc : Scope} (h : scB N P sc = true) : FnScope N P sc := by
  unfold scB at h
  simp only [Bool.and_eq_true, Bool.not_eq_true', decide_eq_true_eq, List.all_eq_true] at h
  obtain ⟨⟨⟨⟨⟨⟨h1, h2⟩, h3⟩, h4⟩, h5⟩, h6⟩, h7⟩ := h
  refine ⟨?_, h2, h3, h4, h5, fun x hx => ?_, fun y hy e => ?_⟩
  · split at h1
    · assumption
    · cases h1
  · have q := h6 x hx
    split at q
    · exact .inl (by assumption)
    · exact .inr (by assumption)
    · cases q
  · have q := h7 y hy
    rw [e] at q
    cases q
def fdB (T : Tab) (F : Fd) (st : Stmt) : Bool :=
  scB F.names F.ps (defScope st) && chkL ⟨F.names, defScope st, fun _ => true, fun x => (T.fn x).isSome⟩ 200 F.body (defBody st)

/-! ### values that the top has written -/
def ConK (K : PySem.W.Frag) (d : D) (u : Value) : Prop := ∃ v, RelV v u ∧ ∀ mg ρ H, Rep K mg ρ H d v
def ConsK (K : PySem.W.Frag) (ds : List D) (us : List Value) : Prop := ∃ vs, Vals vs us ∧ ∀ mg ρ H, RepL K mg ρ H ds vs
def ConG (K : PySem.W.Frag) (mg : Str → Option Value) (x : Str) (d : D) : Prop := ∃ v u, mg x = some u ∧ RelV v u ∧ ∀ ρ H, Rep K mg ρ H d v
section
variable {K : PySem.W.Frag} {mg : Str → Option Value}
theorem con_int {i : Int} {t : Tok} : ConK K (.int i) (.int i t) := ⟨.int i, ⟨t, rfl⟩, fun _ _ _ => .int i⟩
theorem con_str {x : Str} {t : Tok} : ConK K (.str x) (.str x t) := ⟨.str x, ⟨t, rfl⟩, fun _ _ _ => .str x⟩
theorem con_non : ConK K .non .none := ⟨.non, rfl, fun _ _ _ => .non⟩
theorem con_bl {b : Bool} : ConK K (.bl b) (.bool b) := ⟨.bl b, rfl, fun _ _ _ => .bl b⟩
theorem cons_nil : ConsK K [] [] := ⟨[], .nil, fun _ _ _ => .nil⟩
theorem cons_cons {d : D} {u : Value} {ds : List D} {us : List Value} (h : ConK K d u) (t : ConsK K ds us) : ConsK K (d :: ds) (u :: us) := by
  obtain ⟨v, r, h⟩ := h
  obtain ⟨vs, rs, t⟩ := t
  exact ⟨v :: vs, .cons r rs, fun mg ρ H => .cons (h mg ρ H) (t mg ρ H)⟩
theorem con_tup {a : Addr} {od : Option Addr} {its : Array Value} {n : Nat} {sl : Array (Option Value)} {ds : List D} (l : K.lookup a = some ⟨.type "tuple", od, .seq its n, sl⟩) (h : its.size ≤ sizeLine) (c : ConsK K ds its.toList) : ConK K (.tup ds) (.ref a) := by
  obtain ⟨vs, rs, t⟩ := c
  exact ⟨.ref a, rfl, fun mg ρ H => .tup (.inr fun H' => .inr ⟨_, its, n, l, rfl, rfl, h, rs⟩) (t mg ρ H)⟩
theorem con_of {h : Heap} {x : Str} {d : D} {u : Value} (X : K.In h) (G : h.Ns mainGlobals mg) (a : PySem.W.nsIn K mainGlobals x = some (some u)) (c : ConK K d u) : ConG K mg x d := by
  obtain ⟨v, r, t⟩ := c
  exact ⟨v, u, PySem.W.mg_of X G a, r, t mg⟩
def ConAll (K : PySem.W.Frag) (mg : Str → Option Value) (l : List (Str × D)) : Prop := ∀ x d, l.lookup x = some d → ConG K mg x d
theorem con_nil : ConAll K mg [] := fun x d h => by cases h
theorem con_cons {x : Str} {d : D} {l : List (Str × D)} (h : ConG K mg x d) (t : ConAll K mg l) : ConAll K mg ((x, d) :: l) := fun y e q => by
  rw [List.lookup_cons] at q
  split at q
  · rename_i z
    cases q
    rw [beq_iff_eq.mp z]
    exact h
  · exact t y e q
theorem con_all {l : List (Str × D)} (h : ConAll K mg l) : ∀ x d, l.lookup x = some d → ∃ v u, mg x = some u ∧ RelV v u ∧ ∀ ρ H, Rep K mg ρ H d v := h
end

/-! ### defs -/
section
variable {T : Tab} {F : Fd} {st : Stmt} {K : PySem.W.Frag} {h : Heap} {mg : Str → Option Value} {f : Addr}
theorem fd_ok {oc kV dc pm cd ct : Value} {od an : Option Addr} {sl : Array (Option Value)} (X : K.In h) (G : h.Ns mainGlobals mg) (a : PySem.W.nsIn K mainGlobals F.name = some (some (.ref f)))
    (l : K.lookup f = some ⟨oc, od, .func (PySem.W.fnOf F.name F.name (defArgs st) (defBody st) (defScope st) .none kV dc pm an cd ct), sl⟩) (c : PySem.W.codeIn K cd F.name = true) (k : PySem.W.keepIn K (.ref f) = true)
    (hc : fdB T F st = true) (hd : F.dft = [])
    (hb : ∀ (kV doc pm : Value) (an : Option Addr) (cdv ct : Value) (us : List Value), us.length = F.ps.length → bindArgs (PySem.W.fnOf F.name F.name (defArgs st) (defBody st) (defScope st) .none kV doc pm an cdv ct) ⟨us, []⟩ = pure (F.ps.zip us)) :
    FdOk K mg T F f (PySem.W.fnOf F.name F.name (defArgs st) (defBody st) (defScope st) .none kV dc pm an cd ct) := by
  unfold fdB at hc
  rw [Bool.and_eq_true] at hc
  have FD : FunD K F.name F.name (defArgs st) (defBody st) (defScope st) [] [] f (PySem.W.fnOf F.name F.name (defArgs st) (defBody st) (defScope st) .none kV dc pm an cd ct) :=
    ⟨⟨oc, od, .none, kV, dc, pm, an, cd, ct, sl, rfl, l, c, .inl ⟨rfl, rfl⟩, .inl rfl⟩, k⟩
  refine ⟨PySem.W.mg_of X G a, by rw [hd]; exact Nat.zero_le _, ⟨_, _, _, _, _, FD, scB_of hc.1, hc.2⟩, fun j _ => ⟨[], [], .nil, fun ρ H => ?_, FD.bindsN hb⟩⟩
  rw [hd, List.drop_nil]
  exact .nil
theorem rep_drop {mg : Str → Option Value} {ds : List D} {vs : List V} (h : ∀ mg ρ H, RepL K mg ρ H ds vs) (j : Nat) : ∀ ρ H, RepL K mg ρ H (ds.drop j) (vs.drop j) := fun ρ H => (h mg ρ H).drop j
theorem fd_okD {oc kV dc pm cd ct tc : Value} {od an td : Option Addr} {sl tsl : Array (Option Value)} {t : Addr} {its : Array Value} {tn : Nat} (X : K.In h) (G : h.Ns mainGlobals mg) (a : PySem.W.nsIn K mainGlobals F.name = some (some (.ref f)))
    (l : K.lookup f = some ⟨oc, od, .func (PySem.W.fnOf F.name F.name (defArgs st) (defBody st) (defScope st) (.ref t) kV dc pm an cd ct), sl⟩) (c : PySem.W.codeIn K cd F.name = true) (k : PySem.W.keepIn K (.ref f) = true)
    (hc : fdB T F st = true) (d : K.lookup t = some ⟨tc, td, .seq its tn, tsl⟩) (e : ConsK K F.dft its.toList) (hle : F.dft.length ≤ F.ps.length) (hne : F.dft.isEmpty = false)
    (hb : ∀ j, j ≤ F.dft.length → ∀ (T : Addr) (kV doc pm : Value) (an : Option Addr) (cdv ct : Value) (us its : List Value), us.length = F.ps.length - F.dft.length + j → its.length = F.dft.length →
      ∃ k, bindArgs (PySem.W.fnOf F.name F.name (defArgs st) (defBody st) (defScope st) (.ref T) kV doc pm an cdv ct) ⟨us, []⟩ = seqItems? (.ref T) >>= k ∧ k (some its.toArray) = pure (F.ps.zip (us ++ its.drop j))) :
    FdOk K mg T F f (PySem.W.fnOf F.name F.name (defArgs st) (defBody st) (defScope st) (.ref t) kV dc pm an cd ct) := by
  unfold fdB at hc
  rw [Bool.and_eq_true] at hc
  obtain ⟨vs, rv, rd⟩ := e
  have lv : vs.length = F.dft.length := ((rd (fun _ => none) ⟨[], []⟩ (fun _ => none)).length).symm
  have hv : vs ≠ [] := by
    rintro rfl
    cases hF : F.dft with
    | nil => rw [hF] at hne; cases hne
    | cons _ _ => rw [hF] at lv; cases lv
  have FD : FunD K F.name F.name (defArgs st) (defBody st) (defScope st) vs [] f (PySem.W.fnOf F.name F.name (defArgs st) (defBody st) (defScope st) (.ref t) kV dc pm an cd ct) :=
    ⟨⟨oc, od, .ref t, kV, dc, pm, an, cd, ct, sl, rfl, l, c, .inr ⟨hv, t, _, its.toList, tn, rfl, d, by simp, rv⟩, .inl rfl⟩, k⟩
  refine ⟨PySem.W.mg_of X G a, hle, ⟨_, _, _, _, _, FD, scB_of hc.1, hc.2⟩, fun j hj => ?_⟩
  obtain ⟨ws, r1, b1⟩ := FD.binds1 (ps := F.ps) (F.ps.length - F.dft.length + j) j hv (by rw [lv]; omega) fun T kV doc pm an cdv ct us its hu hi => hb j hj T kV doc pm an cdv ct us its hu (hi.trans lv)
  exact ⟨vs.drop j, ws, r1, rep_drop rd j, b1⟩
def FnsOk (K : PySem.W.Frag) (mg : Str → Option Value) (T : Tab) (l : List Fd) : Prop := ∀ F ∈ l, ∃ a fd, FdOk K mg T F a fd
theorem fns_nil : FnsOk K mg T [] := fun F h => by cases h
theorem fns_cons {fd : FuncData} {l : List Fd} (h : FdOk K mg T F f fd) (t : FnsOk K mg T l) : FnsOk K mg T (F :: l) := fun G m => by
  rcases List.mem_cons.mp m with e | m
  · subst e
    exact ⟨_, _, h⟩
  · exact t G m
theorem fns_all {l : List Fd} (h : FnsOk K mg T l) : ∀ F ∈ l, ∃ a fd, FdOk K mg T F a fd := h
theorem fd_at {fd : FuncData} {a : Addr} (h : FdOk K mg T F f fd) (e : mg F.name = some (.ref a)) : FdOk K mg T F a fd := by
  have q := h.at_.symm.trans e
  cases q
  exact h
theorem blts_of (X : K.In h) (G : h.Ns mainGlobals mg) (hb : ∀ x ∈ blts, PySem.W.nsIn K mainGlobals x = some none) : ∀ x ∈ blts, mg x = none := fun x m => PySem.W.mg_none_of X G (hb x m)
def NoN (K : PySem.W.Frag) (l : List Str) : Prop := ∀ x ∈ l, PySem.W.nsIn K mainGlobals x = some none
theorem non_nil : NoN K [] := fun x h => by cases h
theorem non_cons {x : Str} {l : List Str} (h : PySem.W.nsIn K mainGlobals x = some none) (t : NoN K l) : NoN K (x :: l) := fun y m => by
  rcases List.mem_cons.mp m with e | m
  · subst e
    exact h
  · exact t y m
end
end Mu

set_option linter.all false
set_option Elab.async false
/-! Defs of the text that many laws share, printed by gen.py. -/
namespace Lib
open PySem Mu
def d_is_integer : Fd where
  name := "is_integer"
  names := ["value"]
  ps := ["value"]
  dft := []
  body := [.ret (.and (.blt "isinstance" [.var 0, .bty "int"]) (.not (.blt "isinstance" [.var 0, .bty "bool"])))]
def d_common_divisor : Fd where
  name := "common_divisor"
  names := ["one", "other"]
  ps := ["one", "other"]
  dft := []
  body := [.par [0, 1] [.blt "abs" [.var 0], .blt "abs" [.var 1]], .whl (.cmp .Gt (.var 1) (.lit (.int 0))) [.par [0, 1] [.var 1, .bin .Mod (.var 0) (.var 1)]],
      .ret (.var 0)]
def d_is_number : Fd where
  name := "is_number"
  names := ["value", "one"]
  ps := ["value"]
  dft := []
  body := [.ite (.or (.not (.blt "isinstance" [.var 0,
      .bty "tuple"])) (.or (.cmp .NotEq (.blt "len" [.var 0]) (.lit (.int 2))) (.not (.blt "all" [.comp false (.call "is_integer" [.var 1]) (.name 1) (.seq (.var 0)) none [("one",
      1)]])))) [.ret (.lit (.bl false))] [],
      .ret (.and (.cmp .GtE (.idx (.var 0) (.lit (.int 1))) (.lit (.int 1))) (.cmp .Eq (.call "common_divisor" [.idx (.var 0) (.lit (.int 0)),
      .idx (.var 0) (.lit (.int 1))]) (.lit (.int 1))))]
def d_reduced : Fd where
  name := "reduced"
  names := ["top", "bottom", "divisor"]
  ps := ["top", "bottom"]
  dft := []
  body := [.ite (.cmp .Lt (.var 1) (.lit (.int 0))) [.par [0, 1] [.bin .Sub (.lit (.int 0)) (.var 0), .bin .Sub (.lit (.int 0)) (.var 1)]] [],
      .asg (.name 2) (.call "common_divisor" [.var 0, .var 1]), .ret (.tup [.bin .FloorDiv (.var 0) (.var 2), .bin .FloorDiv (.var 1) (.var 2)])]
def d_number : Fd where
  name := "number"
  names := ["top", "bottom"]
  ps := ["top", "bottom"]
  dft := [.int 1]
  body := [.ite (.or (.not (.call "is_integer" [.var 0])) (.cmp .GtE (.blt "abs" [.var 0]) (.con "MOST_PASSED"))) [.never] [],
      .ite (.or (.not (.call "is_integer" [.var 1])) (.or (.cmp .GtE (.blt "abs" [.var 1]) (.con "MOST_PASSED")) (.cmp .Eq (.var 1) (.lit (.int 0))))) [.never] [],
      .ret (.call "reduced" [.var 0, .var 1])]
def d_require_number : Fd where
  name := "require_number"
  names := ["value"]
  ps := ["value"]
  dft := []
  body := [.ite (.not (.call "is_number" [.var 0])) [.never] []]
def d_require_count : Fd where
  name := "require_count"
  names := ["value", "least", "most"]
  ps := ["value", "least", "most"]
  dft := [.int 0, .int 60]
  body := [.ite (.or (.not (.call "is_integer" [.var 0])) (.not (.cmp2 .LtE .LtE (.var 1) (.var 0) (.var 2)))) [.never] []]
def d_added : Fd where
  name := "added"
  names := ["one", "other"]
  ps := ["one", "other"]
  dft := []
  body := [.ite (.cmp2 .Eq .Eq (.idx (.var 0) (.lit (.int 1))) (.idx (.var 1) (.lit (.int 1))) (.lit (.int 1))) [.ret (.tup [.bin .Add (.idx (.var 0) (.lit (.int 0))) (.idx (.var 1) (.lit (.int 0))),
      .lit (.int 1)])] [],
      .ret (.call "reduced" [.bin .Add (.bin .Mult (.idx (.var 0) (.lit (.int 0))) (.idx (.var 1) (.lit (.int 1)))) (.bin .Mult (.idx (.var 1) (.lit (.int 0))) (.idx (.var 0) (.lit (.int 1)))),
      .bin .Mult (.idx (.var 0) (.lit (.int 1))) (.idx (.var 1) (.lit (.int 1)))])]
def d_multiplied : Fd where
  name := "multiplied"
  names := ["one", "other"]
  ps := ["one", "other"]
  dft := []
  body := [.ite (.cmp2 .Eq .Eq (.idx (.var 0) (.lit (.int 1))) (.idx (.var 1) (.lit (.int 1))) (.lit (.int 1))) [.ret (.tup [.bin .Mult (.idx (.var 0) (.lit (.int 0))) (.idx (.var 1) (.lit (.int 0))),
      .lit (.int 1)])] [], .ret (.call "reduced" [.bin .Mult (.idx (.var 0) (.lit (.int 0))) (.idx (.var 1) (.lit (.int 0))),
      .bin .Mult (.idx (.var 0) (.lit (.int 1))) (.idx (.var 1) (.lit (.int 1)))])]
def d_opposite : Fd where
  name := "opposite"
  names := ["one"]
  ps := ["one"]
  dft := []
  body := [.ret (.tup [.bin .Sub (.lit (.int 0)) (.idx (.var 0) (.lit (.int 0))), .idx (.var 0) (.lit (.int 1))])]
def d_divided : Fd where
  name := "divided"
  names := ["one", "other"]
  ps := ["one", "other"]
  dft := []
  body := [.ret (.call "reduced" [.bin .Mult (.idx (.var 0) (.lit (.int 0))) (.idx (.var 1) (.lit (.int 1))),
      .bin .Mult (.idx (.var 0) (.lit (.int 1))) (.idx (.var 1) (.lit (.int 0)))])]
def d_sum_of : Fd where
  name := "sum_of"
  names := ["numbers", "found", "one"]
  ps := ["numbers"]
  dft := []
  body := [.asg (.name 1) (.con "NOUGHT"), .for_ (.name 2) (.seq (.var 0)) [.asg (.name 1) (.call "added" [.var 1, .var 2])], .ret (.var 1)]
def d_plus : Fd where
  name := "plus"
  names := ["one", "other"]
  ps := ["one", "other"]
  dft := []
  body := [.expr (.call "require_number" [.var 0]), .expr (.call "require_number" [.var 1]), .ret (.call "added" [.var 0, .var 1])]
def d_minus : Fd where
  name := "minus"
  names := ["one", "other"]
  ps := ["one", "other"]
  dft := []
  body := [.expr (.call "require_number" [.var 0]), .expr (.call "require_number" [.var 1]), .ret (.call "added" [.var 0, .call "opposite" [.var 1]])]
def d_times : Fd where
  name := "times"
  names := ["one", "other"]
  ps := ["one", "other"]
  dft := []
  body := [.expr (.call "require_number" [.var 0]), .expr (.call "require_number" [.var 1]), .ret (.call "multiplied" [.var 0, .var 1])]
def d_over : Fd where
  name := "over"
  names := ["one", "other"]
  ps := ["one", "other"]
  dft := []
  body := [.expr (.call "require_number" [.var 0]), .expr (.call "require_number" [.var 1]), .ite (.cmp .Eq (.var 1) (.con "NOUGHT")) [.never] [],
      .ret (.call "divided" [.var 0, .var 1])]
def d_compared : Fd where
  name := "compared"
  names := ["one", "other", "left", "right"]
  ps := ["one", "other"]
  dft := []
  body := [.expr (.call "require_number" [.var 0]), .expr (.call "require_number" [.var 1]), .par [2,
      3] [.bin .Mult (.idx (.var 0) (.lit (.int 0))) (.idx (.var 1) (.lit (.int 1))),
      .bin .Mult (.idx (.var 1) (.lit (.int 0))) (.idx (.var 0) (.lit (.int 1)))],
      .ret (.bin .Sub (.blt "int" [.cmp .Gt (.var 2) (.var 3)]) (.blt "int" [.cmp .Lt (.var 2) (.var 3)]))]
def d_total : Fd where
  name := "total"
  names := ["numbers", "one"]
  ps := ["numbers"]
  dft := []
  body := [.ite (.or (.not (.blt "isinstance" [.var 0,
      .bty "tuple"])) (.not (.blt "all" [.comp false (.call "is_number" [.var 1]) (.name 1) (.seq (.var 0)) none [("one", 1)]]))) [.never] [],
      .ret (.call "sum_of" [.var 0])]
def d_power : Fd where
  name := "power"
  names := ["one", "many", "found", "_"]
  ps := ["one", "many"]
  dft := []
  body := [.expr (.call "require_number" [.var 0]), .expr (.call "require_count" [.var 1]), .asg (.name 2) (.con "ONE"),
      .for_ (.name 3) (.rng [.var 1]) [.asg (.name 2) (.call "multiplied" [.var 2, .var 0])], .ret (.var 2)]
def d__law_dice : Fd where
  name := "_law_dice"
  names := ["script", "spot", "cell", "great", "seed"]
  ps := ["script", "spot"]
  dft := []
  body := [.asg (.name 2) (.ite (.cmp .Lt (.var 1) (.blt "len" [.var 0])) (.blt "int" [.idx (.var 0) (.var 1)]) (.bin .Add (.bin .Mult (.lit (.int 131)) (.var 1)) (.lit (.int 37)))),
      .asg (.name 3) (.bin .Mod (.blt "int" [.blt "abs" [.var 2]]) (.bin .Pow (.bin .Pow (.lit (.int 10)) (.lit (.int 53))) (.lit (.int 6)))),
      .asg (.name 4) (.bin .Add (.bin .Add (.bin .Add (.bin .Mult (.bin .Mod (.var 3) (.lit (.int 2305843009213693907))) (.lit (.int 73))) (.bin .Mult (.lit (.int 619)) (.var 1))) (.bin .Mult (.lit (.int 41)) (.blt "int" [.cmp .Lt (.var 2) (.lit (.int 0))]))) (.lit (.int 17))),
      .ret (.lstR [.blt "max" [.lit (.int 0), .bin .Sub (.var 3) (.bin .Pow (.lit (.int 10)) (.lit (.int 16)))], .var 4, .lit (.int 0)])]
def d__law_roll : Fd where
  name := "_law_roll"
  names := ["dice", "many", "found", "one", "two"]
  ps := ["dice", "many"]
  dft := []
  body := [.ite (.cmp .Gt (.idx (.var 0) (.lit (.int 0))) (.lit (.int 0))) [.asg (.name 2) (.bin .Mod (.idx (.var 0) (.lit (.int 0))) (.var 1)),
      .asg (.sub (.var 0) (.lit (.int 0))) (.bin .FloorDiv (.idx (.var 0) (.lit (.int 0))) (.var 1)), .ret (.blt "int" [.var 2])] [],
      .asg (.sub (.var 0) (.lit (.int 2))) (.bin .Add (.idx (.var 0) (.lit (.int 2))) (.lit (.int 1))),
      .asg (.name 3) (.bin .Mod (.bin .Add (.idx (.var 0) (.lit (.int 1))) (.bin .Mult (.lit (.int 49979687)) (.idx (.var 0) (.lit (.int 2))))) (.lit (.int 2305843009213693951))),
      .asg (.name 4) (.bin .Add (.bin .Mult (.bin .Mod (.bin .Add (.bin .Mult (.var 3) (.var 3)) (.bin .Mult (.lit (.int 131)) (.idx (.var 0) (.lit (.int 2))))) (.lit (.int 2305843009213693921))) (.lit (.int 32452843))) (.var 3)),
      .ret (.bin .Mod (.blt "int" [.bin .FloorDiv (.var 4) (.lit (.int 65587))]) (.var 1))]
def d__law_pick : Fd where
  name := "_law_pick"
  names := ["dice", "items"]
  ps := ["dice", "items"]
  dft := []
  body := [.ret (.idx (.var 1) (.call "_law_roll" [.var 0, .blt "len" [.var 1]]))]
def d__law_fr : Fd where
  name := "_law_fr"
  names := ["top", "bottom", "one", "other", "sign"]
  ps := ["top", "bottom"]
  dft := []
  body := [.par [2, 3] [.blt "abs" [.var 0], .blt "abs" [.var 1]], .whl (.cmp .Gt (.var 3) (.lit (.int 0))) [.par [2, 3] [.var 3, .bin .Mod (.var 2) (.var 3)]],
      .asg (.name 4) (.ite (.cmp .Lt (.var 1) (.lit (.int 0))) (.neg (.lit (.int 1))) (.lit (.int 1))),
      .ret (.tup [.bin .FloorDiv (.bin .Mult (.var 4) (.var 0)) (.var 2), .bin .FloorDiv (.bin .Mult (.var 4) (.var 1)) (.var 2)])]
def d__law_plus : Fd where
  name := "_law_plus"
  names := ["one", "other"]
  ps := ["one", "other"]
  dft := []
  body := [.ret (.call "_law_fr" [.bin .Add (.bin .Mult (.idx (.var 0) (.lit (.int 0))) (.idx (.var 1) (.lit (.int 1)))) (.bin .Mult (.idx (.var 1) (.lit (.int 0))) (.idx (.var 0) (.lit (.int 1)))),
      .bin .Mult (.idx (.var 0) (.lit (.int 1))) (.idx (.var 1) (.lit (.int 1)))])]
def d__law_times : Fd where
  name := "_law_times"
  names := ["one", "other"]
  ps := ["one", "other"]
  dft := []
  body := [.ret (.call "_law_fr" [.bin .Mult (.idx (.var 0) (.lit (.int 0))) (.idx (.var 1) (.lit (.int 0))),
      .bin .Mult (.idx (.var 0) (.lit (.int 1))) (.idx (.var 1) (.lit (.int 1)))])]
def d__law_minus : Fd where
  name := "_law_minus"
  names := ["one", "other"]
  ps := ["one", "other"]
  dft := []
  body := [.ret (.call "_law_fr" [.bin .Sub (.bin .Mult (.idx (.var 0) (.lit (.int 0))) (.idx (.var 1) (.lit (.int 1)))) (.bin .Mult (.idx (.var 1) (.lit (.int 0))) (.idx (.var 0) (.lit (.int 1)))),
      .bin .Mult (.idx (.var 0) (.lit (.int 1))) (.idx (.var 1) (.lit (.int 1)))])]
def d__law_integer : Fd where
  name := "_law_integer"
  names := ["dice", "bound"]
  ps := ["dice"]
  dft := []
  body := [.asg (.name 1) (.call "_law_pick" [.var 0, .lst [.lit (.int 10), .lit (.int 10), .lit (.int 10), .lit (.int 100),
      .bin .Pow (.lit (.int 10)) (.lit (.int 6)), .bin .Pow (.lit (.int 10)) (.lit (.int 19))]]),
      .ret (.bin .Mult (.bin .Add (.lit (.int 1)) (.call "_law_roll" [.var 0, .var 1])) (.call "_law_pick" [.var 0, .lst [.lit (.int 1),
      .neg (.lit (.int 1))]]))]
def d__law_drawn : Fd where
  name := "_law_drawn"
  names := ["dice"]
  ps := ["dice"]
  dft := []
  body := [.ite (.cmp .Eq (.call "_law_roll" [.var 0, .lit (.int 6)]) (.lit (.int 0))) [.ret (.tup [.lit (.int 0), .lit (.int 1)])] [],
      .ret (.call "_law_fr" [.call "_law_integer" [.var 0], .blt "abs" [.call "_law_integer" [.var 0]]])]
end Lib

set_option linter.all false
set_option Elab.async false
/-! The interpreter's equations, one a form, to be rewritten with. -/
namespace Mu
open PySem
section
variable {C : Cf} {n : Nat} {env : Env} {st : Sto}
@[simp] theorem ev_var (i : Nat) : ev C (n + 1) (.var i) env st = .of (env.at i) st := rfl
@[simp] theorem ev_lit (d : D) : ev C (n + 1) (.lit d) env st = .ok d st := rfl
@[simp] theorem ev_con (x : Str) : ev C (n + 1) (.con x) env st = .of (C.con x) st := rfl
@[simp] theorem ev_bty (x : Str) : ev C (n + 1) (.bty x) env st = .of ((btyTab.lookup x).map .ty) st := rfl
@[simp] theorem ev_bin (o : Operator) (a b : E) : ev C (n + 1) (.bin o a b) env st = (ev C n a env st).bind fun x st => (ev C n b env st).bind fun y st => .of (binD C.k o x y) st := rfl
def negD : D → Sto → Res D
  | .int i, st => .ok (.int (-i)) st
  | _, _ => .stuck
@[simp] theorem negD_int (i : Int) : negD (.int i) st = .ok (.int (-i)) st := rfl
@[simp] theorem ev_neg (a : E) : ev C (n + 1) (.neg a) env st = (ev C n a env st).bind negD := by
  show (ev C n a env st).bind _ = _
  congr 1
  all_goals (funext x s; cases x <;> rfl)
@[simp] theorem ev_cmp (o : CmpOp) (a b : E) : ev C (n + 1) (.cmp o a b) env st = (ev C n a env st).bind fun x st => (ev C n b env st).bind fun y st => .of ((cmpD o x y).map .bl) st := rfl
@[simp] theorem ev_cmp2 (o p : CmpOp) (a b c : E) : ev C (n + 1) (.cmp2 o p a b c) env st = (ev C n a env st).bind fun x st => (ev C n b env st).bind fun y st => match cmpD o x y with
      | some true => (ev C n c env st).bind fun z st => .of ((cmpD p y z).map .bl) st
      | some false => .ok (.bl false) st
      | none => .stuck := rfl
@[simp] theorem ev_not (a : E) : ev C (n + 1) (.not a) env st = (ev C n a env st).bind fun x st => .of ((truth st x).map fun c => .bl (!c)) st := rfl
@[simp] theorem ev_and (a b : E) : ev C (n + 1) (.and a b) env st = (ev C n a env st).bind fun x st => match truth st x with
      | some true => ev C n b env st
      | some false => .ok x st
      | none => .stuck := rfl
@[simp] theorem ev_or (a b : E) : ev C (n + 1) (.or a b) env st = (ev C n a env st).bind fun x st => match truth st x with
      | some true => .ok x st
      | some false => ev C n b env st
      | none => .stuck := rfl
@[simp] theorem ev_ite (t a b : E) : ev C (n + 1) (.ite t a b) env st = (evT C n t env st).bind fun c st => if c then ev C n a env st else ev C n b env st := rfl
@[simp] theorem ev_tup (es : List E) : ev C (n + 1) (.tup es) env st = (evL (fun e st => ev C n e env st) es st).bind fun ds st => if ds.length ≤ sizeLine then .ok (.tup ds) st else .stuck := rfl
@[simp] theorem ev_lst (es : List E) : ev C (n + 1) (.lst es) env st = (evL (fun e st => ev C n e env st) es st).bind fun ds st => if ds.length ≤ sizeLine then .ok (.lst ds) st else .stuck := rfl
@[simp] theorem ev_lstR (es : List E) : ev C (n + 1) (.lstR es) env st = (evL (fun e st => ev C n e env st) es st).bind fun ds st => if ds.length ≤ sizeLine then .ok (.ref st.length) (st ++ [.lst ds]) else .stuck := rfl
@[simp] theorem ev_call (f : Str) (es : List E) : ev C (n + 1) (.call f es) env st = (evL (fun e st => ev C n e env st) es st).bind fun xs st => C.call f xs st := rfl
@[simp] theorem ev_blt (f : Str) (es : List E) : ev C (n + 1) (.blt f es) env st = (evL (fun e st => ev C n e env st) es st).bind fun xs st => .of (bltD f xs st) st := rfl
@[simp] theorem ev_idx (a i : E) : ev C (n + 1) (.idx a i) env st = (ev C n a env st).bind fun x st => (ev C n i env st).bind fun j st => .of (idxD st x j) st := rfl
def slcD (x : D) (l h : Option Int) (st : Sto) : Res D := match x with
  | .tup xs => .ok (.tup (cutD xs l h)) st
  | .lst xs => .ok (.lst (cutD xs l h)) st
  | _ => .stuck
@[simp] theorem slcD_tup (xs : List D) (l h : Option Int) : slcD (.tup xs) l h st = .ok (.tup (cutD xs l h)) st := rfl
@[simp] theorem slcD_lst (xs : List D) (l h : Option Int) : slcD (.lst xs) l h st = .ok (.lst (cutD xs l h)) st := rfl
@[simp] theorem ev_slc (a : E) (lo hi : Option E) : ev C (n + 1) (.slc a lo hi) env st = (ev C n a env st).bind fun x st => (evO (fun e st => ev C n e env st) lo st).bind fun l st => (evO (fun e st => ev C n e env st) hi st).bind fun h st => slcD x l h st := by
  show (ev C n a env st).bind _ = _
  congr 1
  all_goals (funext x s; cases x <;> rfl)
def revD : D → Sto → Res D
  | .lst xs, st => .ok (.lst xs.reverse) st
  | _, _ => .stuck
@[simp] theorem revD_lst (xs : List D) : revD (.lst xs) st = .ok (.lst xs.reverse) st := rfl
@[simp] theorem ev_rev (a : E) : ev C (n + 1) (.rev a) env st = (ev C n a env st).bind revD := by
  show (ev C n a env st).bind _ = _
  congr 1
  all_goals (funext x s; cases x <;> rfl)
@[simp] theorem ev_comp (r : Bool) (el : E) (tg : Tg) (it : Iz) (c : Option E) (own : List (Str × Nat)) : ev C (n + 1) (.comp r el tg it c own) env st =
    compR (fun env st => itD (fun e st => ev C n e env st) it st) (fun x env st => tgD (fun e env st => ev C n e env st) tg x env st) (condT (fun c env st => evT C n c env st) c) (fun env st => ev C n el env st) (own.map (·.2)) r env st := rfl
/-! tests -/
@[simp] theorem evT_not (a : E) : evT C (n + 1) (.not a) env st = (evT C n a env st).bind fun c st => .ok (!c) st := rfl
@[simp] theorem evT_and (a b : E) : evT C (n + 1) (.and a b) env st = (evT C n a env st).bind fun c st => if c then evT C n b env st else .ok false st := rfl
@[simp] theorem evT_or (a b : E) : evT C (n + 1) (.or a b) env st = (evT C n a env st).bind fun c st => if c then .ok true st else evT C n b env st := rfl
@[simp] theorem evT_cmp (o : CmpOp) (a b : E) : evT C (n + 1) (.cmp o a b) env st = asBool (ev C n (.cmp o a b) env st) := rfl
@[simp] theorem evT_cmp2 (o p : CmpOp) (a b c : E) : evT C (n + 1) (.cmp2 o p a b c) env st = asBool (ev C n (.cmp2 o p a b c) env st) := rfl
@[simp] theorem evT_var (i : Nat) : evT C (n + 1) (.var i) env st = (ev C n (.var i) env st).bind fun d st => .of (truth st d) st := rfl
@[simp] theorem evT_lit (d : D) : evT C (n + 1) (.lit d) env st = (ev C n (.lit d) env st).bind fun d st => .of (truth st d) st := rfl
@[simp] theorem evT_con (x : Str) : evT C (n + 1) (.con x) env st = (ev C n (.con x) env st).bind fun d st => .of (truth st d) st := rfl
@[simp] theorem evT_bin (o : Operator) (a b : E) : evT C (n + 1) (.bin o a b) env st = (ev C n (.bin o a b) env st).bind fun d st => .of (truth st d) st := rfl
@[simp] theorem evT_neg (a : E) : evT C (n + 1) (.neg a) env st = (ev C n (.neg a) env st).bind fun d st => .of (truth st d) st := rfl
@[simp] theorem evT_call (f : Str) (es : List E) : evT C (n + 1) (.call f es) env st = (ev C n (.call f es) env st).bind fun d st => .of (truth st d) st := rfl
@[simp] theorem evT_blt (f : Str) (es : List E) : evT C (n + 1) (.blt f es) env st = (ev C n (.blt f es) env st).bind fun d st => .of (truth st d) st := rfl
@[simp] theorem evT_idx (a i : E) : evT C (n + 1) (.idx a i) env st = (ev C n (.idx a i) env st).bind fun d st => .of (truth st d) st := rfl
@[simp] theorem evT_slc (a : E) (lo hi : Option E) : evT C (n + 1) (.slc a lo hi) env st = (ev C n (.slc a lo hi) env st).bind fun d st => .of (truth st d) st := rfl
@[simp] theorem asBool_ok (c : Bool) : asBool (.ok (.bl c) st) = .ok c st := rfl
/-! lists -/
@[simp] theorem evL_nil (f : E → Sto → Res D) : evL f [] st = .ok [] st := rfl
@[simp] theorem evL_cons (f : E → Sto → Res D) (e : E) (es : List E) : evL f (e :: es) st = (f e st).bind fun d st => (evL f es st).bind fun ds st => .ok (d :: ds) st := rfl
@[simp] theorem evO_none (f : E → Sto → Res D) : evO f none st = .ok none st := rfl
def intO : D → Sto → Res (Option Int)
  | .int i, st => .ok (some i) st
  | _, _ => .stuck
@[simp] theorem intO_int (i : Int) : intO (.int i) st = .ok (some i) st := rfl
@[simp] theorem evO_some (f : E → Sto → Res D) (e : E) : evO f (some e) st = (f e st).bind intO := by
  show (f e st).bind _ = _
  congr 1
  all_goals (funext x s; cases x <;> rfl)
/-! what is walked -/
def seqI (d : D) (st : Sto) : Res (List D) := match d with
  | .tup xs => .ok xs st
  | .lst xs => .ok xs st
  | .rol xs => .ok xs st
  | _ => .stuck
@[simp] theorem seqI_tup (xs : List D) : seqI (.tup xs) st = .ok xs st := rfl
@[simp] theorem seqI_lst (xs : List D) : seqI (.lst xs) st = .ok xs st := rfl
@[simp] theorem seqI_rol (xs : List D) : seqI (.rol xs) st = .ok xs st := rfl
@[simp] theorem itD_seq (f : E → Sto → Res D) (e : E) : itD f (.seq e) st = (f e st).bind seqI := by
  show (f e st).bind _ = _
  congr 1
  all_goals (funext x s; cases x <;> rfl)
@[simp] theorem itD_rng (f : E → Sto → Res D) (es : List E) : itD f (.rng es) st = (evL f es st).bind fun ds st => .of (rngD ds) st := by cases es <;> exact Eq.refl _
/-! targets -/
@[simp] theorem tgD_name (f : E → Env → Sto → Res D) (i : Nat) (d : D) : tgD f (.name i) d env st = .ok (env.set i (some d)) st := by unfold tgD; rfl
@[simp] theorem tgD_tup (f : E → Env → Sto → Res D) (ts : List Tg) (xs : List D) : tgD f (.tup ts) (.tup xs) env st = if xs.length = ts.length then tgsD f ts xs env st else .stuck := by conv => lhs; unfold tgD
@[simp] theorem tgsD_nil (f : E → Env → Sto → Res D) : tgsD f [] [] env st = .ok env st := by unfold tgsD; rfl
@[simp] theorem tgsD_cons (f : E → Env → Sto → Res D) (t : Tg) (ts : List Tg) (d : D) (ds : List D) : tgsD f (t :: ts) (d :: ds) env st = (tgD f t d env st).bind fun env st => tgsD f ts ds env st := by conv => lhs; unfold tgsD
def subD (d x j : D) (env : Env) (st : Sto) : Res Env := match x, j with
  | .ref r, .int j => match st[r]? with
    | some (.lst xs) => if 0 ≤ j ∧ j < xs.length then .ok env (st.set r (.lst (xs.set j.toNat d))) else .stuck
    | _ => .stuck
  | _, _ => .stuck
@[simp] theorem tgD_sub (f : E → Env → Sto → Res D) (a i : E) (d : D) : tgD f (.sub a i) d env st = (f a env st).bind fun x st => (f i env st).bind fun j st => subD d x j env st := by
  conv => lhs; unfold tgD
  all_goals rfl
/-! statements -/
@[simp] theorem ex_expr (e : E) : ex C (n + 1) (.expr e) env st = (ev C n e env st).run env fun _ st => .next env st := rfl
@[simp] theorem ex_asg (t : Tg) (e : E) : ex C (n + 1) (.asg t e) env st = (ev C n e env st).run env fun d st => (tgD (fun e env st => ev C n e env st) t d env st).still.run env fun env st => .next env st := rfl
@[simp] theorem ex_par (is : List Nat) (es : List E) : ex C (n + 1) (.par is es) env st = (evL (fun e st => ev C n e env st) es st).run env fun ds st => .next (setAll is ds env) st := rfl
@[simp] theorem ex_ret (e : E) : ex C (n + 1) (.ret e) env st = (ev C n e env st).run env fun d st => .ret d st := rfl
@[simp] theorem ex_retN : ex C (n + 1) .retN env st = .ret .non st := rfl
@[simp] theorem ex_ite (t : E) (a b : List S) : ex C (n + 1) (.ite t a b) env st = (evT C n t env st).run env fun c st => if c then exL (ex C n) a env st else exL (ex C n) b env st := rfl
@[simp] theorem ex_whl (t : E) (b : List S) : ex C (n + 1) (.whl t b) env st = whlN (evT C n t) (exL (ex C n) b) wmax env st := rfl
@[simp] theorem ex_for (t : Tg) (it : Iz) (b : List S) : ex C (n + 1) (.for_ t it b) env st = (itD (fun e st => ev C n e env st) it st).run env fun xs st =>
    forL (fun x env st => (tgD (fun e env st => ev C n e env st) t x env st).still.run env fun env st => exL (ex C n) b env st) xs env st := rfl
@[simp] theorem ex_pass : ex C (n + 1) .pass env st = .next env st := rfl
@[simp] theorem ex_brk : ex C (n + 1) .brk env st = .brk env st := rfl
@[simp] theorem ex_cont : ex C (n + 1) .cont env st = .cont env st := rfl
@[simp] theorem exL_nil (f : S → Env → Sto → SR) : exL f [] env st = .next env st := rfl
@[simp] theorem exL_cons (f : S → Env → Sto → SR) (s : S) (ss : List S) : exL f (s :: ss) env st = (f s env st).then fun env st => exL f ss env st := rfl
@[simp] theorem setAll_nil (ds : List D) : setAll [] ds env = env := by cases ds <;> rfl
@[simp] theorem setAll_cons (i : Nat) (is : List Nat) (d : D) (ds : List D) : setAll (i :: is) (d :: ds) env = setAll is ds (env.set i (some d)) := rfl
@[simp] theorem at_zero (d : D) (r : Env) : Env.at (some d :: r) 0 = some d := rfl
@[simp] theorem at_succ (o : Option D) (r : Env) (i : Nat) : Env.at (o :: r) (i + 1) = Env.at r i := by
  unfold Env.at
  rw [List.getElem?_cons_succ]
def loopS (k : Env → Sto → SR) : SR → SR
  | .next env st => k env st
  | .cont env st => k env st
  | .brk env st => .next env st
  | r => r
@[simp] theorem loopS_next (k : Env → Sto → SR) : loopS k (.next env st) = k env st := rfl
@[simp] theorem loopS_cont (k : Env → Sto → SR) : loopS k (.cont env st) = k env st := rfl
@[simp] theorem loopS_brk (k : Env → Sto → SR) : loopS k (.brk env st) = .next env st := rfl
@[simp] theorem loopS_ret (k : Env → Sto → SR) (d : D) : loopS k (.ret d st) = .ret d st := rfl
@[simp] theorem forL_nil (f : D → Env → Sto → SR) : forL f [] env st = .next env st := rfl
theorem forL_cons (f : D → Env → Sto → SR) (x : D) (xs : List D) : forL f (x :: xs) env st = loopS (forL f xs) (f x env st) := by
  show (match f x env st with
    | .next env st => forL f xs env st
    | .cont env st => forL f xs env st
    | .brk env st => .next env st
    | r => r) = _
  cases f x env st <;> rfl
theorem whlN_succ (t : Env → Sto → Res Bool) (b : Env → Sto → SR) (m : Nat) : whlN t b (m + 1) env st = (t env st).run env fun c st => if c then loopS (whlN t b m) (b env st) else .next env st := by
  show ((t env st).run env fun c st => if c then match b env st with
    | .next env st => whlN t b m env st
    | .cont env st => whlN t b m env st
    | .brk env st => .next env st
    | r => r
    else .next env st) = _
  congr 1
  all_goals
    funext c s
    cases c
    · rfl
    · simp only [if_true]
      cases b env s <;> rfl
end
/-! data -/
section
variable {st : Sto} {k : Nat}
@[simp] theorem cmp_lt (i j : Int) : cmpD .Lt (.int i) (.int j) = some (decide (i < j)) := rfl
@[simp] theorem cmp_le (i j : Int) : cmpD .LtE (.int i) (.int j) = some (decide (i ≤ j)) := rfl
@[simp] theorem cmp_gt (i j : Int) : cmpD .Gt (.int i) (.int j) = some (decide (j < i)) := rfl
@[simp] theorem cmp_ge (i j : Int) : cmpD .GtE (.int i) (.int j) = some (decide (j ≤ i)) := rfl
theorem shaped_int (i : Int) : dataOk (.int i) = true := by
  unfold dataOk SeqAt.shaped
  simp [D.plain, D.py, PyData.canLay0, PyData.depth]
theorem eqD_int (i j : Int) : eqD (.int i) (.int j) = some (decide (i = j)) := by
  show (if dataOk (.int i) && dataOk (.int j) then some (PyData.eqv (D.py (.int i)) (D.py (.int j))) else none) = _
  rw [shaped_int, shaped_int]
  simp [D.py, PyData.eqv]
  rfl
@[simp] theorem cmp_eq (i j : Int) : cmpD .Eq (.int i) (.int j) = some (decide (i = j)) := eqD_int i j
@[simp] theorem cmp_ne (i j : Int) : cmpD .NotEq (.int i) (.int j) = some (!decide (i = j)) := by
  show (eqD (.int i) (.int j)).map (fun b => !b) = _
  rw [eqD_int]
  rfl
@[simp] theorem cmp_eqS (i j : Str) : cmpD .Eq (.str i) (.str j) = some (decide (i = j)) := rfl
@[simp] theorem cmp_neS (i j : Str) : cmpD .NotEq (.str i) (.str j) = some (!decide (i = j)) := rfl
@[simp] theorem bin_add (i j : Int) : binD k .Add (.int i) (.int j) = some (.int (i + j)) := rfl
@[simp] theorem bin_sub (i j : Int) : binD k .Sub (.int i) (.int j) = some (.int (i - j)) := rfl
@[simp] theorem bin_mul (i j : Int) : binD k .Mult (.int i) (.int j) = if mulOk i j then some (.int (i * j)) else none := rfl
@[simp] theorem bin_mod (i j : Int) : binD k .Mod (.int i) (.int j) = if j = 0 then none else some (.int (i.fmod j)) := rfl
@[simp] theorem bin_div (i j : Int) : binD k .FloorDiv (.int i) (.int j) = if j = 0 then none else if 40 ≤ k then some (.int (i.fdiv j)) else none := rfl
@[simp] theorem bin_pow (i j : Int) : binD k .Pow (.int i) (.int j) = if powOk i j then some (.int (i ^ j.toNat)) else none := rfl
@[simp] theorem truth_bl (b : Bool) : truth st (.bl b) = some b := rfl
@[simp] theorem truth_int (i : Int) : truth st (.int i) = some (i != 0) := rfl
@[simp] theorem truth_non : truth st .non = some false := rfl
theorem mulOk_of {i j : Int} {p q : Nat} (hi : i.natAbs < 2 ^ p) (hj : j.natAbs < 2 ^ q) (h : p + q < 100000000) : mulOk i j = true := by
  have lg : ∀ {m r : Nat}, m < 2 ^ r → m.log2 ≤ r := fun {m r} h => by
    by_cases h0 : m = 0
    · subst h0
      simp
    · exact Nat.le_of_lt ((Nat.log2_lt h0).mpr h)
  have h1 := lg hi
  have h2 := lg hj
  unfold mulOk
  rw [decide_eq_true_eq]
  omega
end
end Mu

set_option linter.all false
set_option Elab.async false
/-! What the text's arithmetic answers: rationals in lowest terms. -/
namespace Mu
open PySem Lib

/-! ### calls -/
theorem finish_ret {st : Sto} (d : D) : finish st.length (.ret d st) = .ok d st := by
  show trim st.length d st = _
  unfold trim
  rw [List.take_length]
  split <;> rfl
theorem finish_next {st : Sto} {env : Env} : finish st.length (.next env st) = .ok .non st := finish_ret (st := st) .non
theorem run_def {T : Tab} {x : Str} {F : Fd} (h : T.fn x = some F) (k : Nat) {ds : List D} {st : Sto} (hl : ds.length = F.ps.length) : callF T (k + 1) x ds st =
    finish st.length (exL (ex { k := k, call := callF T k, con := T.con } deep) F.body (ds.map some ++ List.replicate (F.names.length - ds.length) none) st) := by
  rw [callF_eq h, pad_full hl, if_pos hl]
theorem succ_of {k j : Nat} (h : j + 1 ≤ k) : ∃ i, k = i + 1 ∧ j ≤ i := ⟨k - 1, by omega, by omega⟩
@[simp] theorem deep_eq : deep = 60 := rfl

section
variable {st : Sto} {xs : List D}
@[simp] theorem b_len : bltD "len" xs st = lenD xs st := rfl
@[simp] theorem b_abs : bltD "abs" xs st = absD xs st := rfl
@[simp] theorem b_min : bltD "min" xs st = minD xs st := rfl
@[simp] theorem b_max : bltD "max" xs st = maxD xs st := rfl
@[simp] theorem b_int : bltD "int" xs st = intD xs st := rfl
@[simp] theorem b_tuple : bltD "tuple" xs st = tupleD xs st := rfl
@[simp] theorem b_list : bltD "list" xs st = listD xs st := rfl
@[simp] theorem b_all : bltD "all" xs st = allD xs st := rfl
@[simp] theorem b_isi : bltD "isinstance" xs st = isiD xs st := rfl
@[simp] theorem b_repr : bltD "repr" xs st = reprL xs st := rfl
@[simp] theorem t_int : btyTab.lookup ("int" : Str) = some "int" := rfl
@[simp] theorem t_bool : btyTab.lookup ("bool" : Str) = some "bool" := rfl
@[simp] theorem t_str : btyTab.lookup ("str" : Str) = some "str" := rfl
@[simp] theorem t_tuple : btyTab.lookup ("tuple" : Str) = some "tuple" := rfl
@[simp] theorem t_list : btyTab.lookup ("list" : Str) = some "list" := rfl
@[simp] theorem t_dict : btyTab.lookup ("dict" : Str) = some "dict" := rfl
@[simp] theorem len_tup (ys : List D) : lenD [.tup ys] st = some (.int ys.length) := rfl
@[simp] theorem len_lst (ys : List D) : lenD [.lst ys] st = some (.int ys.length) := rfl
@[simp] theorem len_rol (ys : List D) : lenD [.rol ys] st = some (.int ys.length) := rfl
@[simp] theorem abs_int (i : Int) : absD [.int i] st = some (.int i.natAbs) := by
  show some (D.int (if i < 0 then -i else i)) = _
  congr 2
  split <;> omega
@[simp] theorem int_int (i : Int) : intD [.int i] st = some (.int i) := rfl
@[simp] theorem int_bl (b : Bool) : intD [.bl b] st = some (.int (if b then 1 else 0)) := rfl
@[simp] theorem isi_int (i : Int) : isiD [.int i, .ty "int"] st = some (.bl true) := rfl
@[simp] theorem isi_int_bool (i : Int) : isiD [.int i, .ty "bool"] st = some (.bl false) := rfl
@[simp] theorem isi_tup (ys : List D) : isiD [.tup ys, .ty "tuple"] st = some (.bl true) := rfl
@[simp] theorem idx_tup0 (x : D) (ys : List D) : idxD st (.tup (x :: ys)) (.int 0) = some x := rfl
@[simp] theorem idx_tup1 (x y : D) (ys : List D) : idxD st (.tup (x :: y :: ys)) (.int 1) = some y := rfl
end

/-! ### the divisor -/
theorem half_mod {y r n : Nat} (h0 : 0 < r) (h1 : r < y) (h : y < 2 ^ (n + 1)) : y % r < 2 ^ n := by
  have a := Nat.mod_lt y h0
  have b : y % r = (y - r) % r := Nat.mod_eq_sub_mod (Nat.le_of_lt h1)
  have c := Nat.mod_le (y - r) r
  rw [Nat.pow_succ] at h
  omega
theorem gcd_loop {t : Env → Sto → Res Bool} {b : Env → Sto → SR} {st : Sto} (E : Int → Int → Env) (ht : ∀ x y, t (E x y) st = .ok (decide (0 < y)) st) (hb : ∀ x y, y ≠ 0 → b (E x y) st = .next (E y (x.fmod y)) st) :
    ∀ (n x y m : Nat), y < 2 ^ n → 2 * n + 1 ≤ m → whlN t b m (E x y) st = .next (E (Nat.gcd x y) 0) st := by
  have stop : ∀ (x m : Nat), 1 ≤ m → whlN t b m (E x (0 : Nat)) st = .next (E (Nat.gcd x 0) 0) st := by
    intro x m hm
    obtain ⟨m, rfl, _⟩ := succ_of hm
    rw [whlN_succ, ht]
    simp
  have step : ∀ (x y m : Nat), 0 < y → whlN t b (m + 1) (E x y) st = whlN t b m (E y ((x % y : Nat) : Int)) st := by
    intro x y m hy
    rw [whlN_succ, ht]
    have h1 : decide ((0 : Int) < (y : Int)) = true := by simpa using hy
    rw [h1, Res.run_ok, if_pos rfl, hb _ _ (by omega), loopS_next, Int.natCast_emod, Int.fmod_eq_emod_of_nonneg _ (by omega)]
  intro n
  induction n with
  | zero =>
    intro x y m hy hm
    obtain rfl : y = 0 := by simpa using hy
    exact stop x m (by omega)
  | succ n ih =>
    intro x y m hy hm
    by_cases h0 : y = 0
    · subst h0
      exact stop x m (by omega)
    obtain ⟨m, rfl, hm2⟩ := succ_of (k := m) (j := 2 * n + 2) (by omega)
    clear hm
    rw [step x y m (by omega)]
    have g1 : Nat.gcd x y = Nat.gcd y (x % y) := by rw [Nat.gcd_comm x y, Nat.gcd_rec y x, Nat.gcd_comm]
    by_cases h1 : x % y = 0
    · rw [h1, stop y m (by omega), g1, h1]
    obtain ⟨m, rfl, hm3⟩ := succ_of (k := m) (j := 2 * n + 1) (by omega)
    rw [step y (x % y) m (by omega), ih _ _ m (half_mod (by omega) (Nat.mod_lt _ (by omega)) hy) hm3]
    have g2 : Nat.gcd y (x % y) = Nat.gcd (x % y) (y % (x % y)) := by rw [Nat.gcd_comm y (x % y), Nat.gcd_rec (x % y) y, Nat.gcd_comm]
    rw [g1, g2]

/-! ### the numbers' defs -/
structure HasNum (T : Tab) : Prop where
  is_integer : T.fn "is_integer" = some d_is_integer
  common_divisor : T.fn "common_divisor" = some d_common_divisor
  is_number : T.fn "is_number" = some d_is_number
  reduced : T.fn "reduced" = some d_reduced
  number : T.fn "number" = some d_number
  require_number : T.fn "require_number" = some d_require_number
  require_count : T.fn "require_count" = some d_require_count
  added : T.fn "added" = some d_added
  multiplied : T.fn "multiplied" = some d_multiplied
  opposite : T.fn "opposite" = some d_opposite
  divided : T.fn "divided" = some d_divided
  sum_of : T.fn "sum_of" = some d_sum_of
  plus : T.fn "plus" = some d_plus
  minus : T.fn "minus" = some d_minus
  times : T.fn "times" = some d_times
  over : T.fn "over" = some d_over
  compared : T.fn "compared" = some d_compared
  total : T.fn "total" = some d_total
  power : T.fn "power" = some d_power
  nought : T.con "NOUGHT" = some (.tup [.int 0, .int 1])
  one : T.con "ONE" = some (.tup [.int 1, .int 1])
  most : T.con "MOST_PASSED" = some (.int 10000000000000000000000000000000000000000)
def frD (q : Rat) : D := .tup [.int q.num, .int q.den]
/-- small enough for every step -/
def sz (q : Rat) (n : Nat) : Prop := q.num.natAbs < 2 ^ n ∧ q.den < 2 ^ n
@[simp] theorem sizeLine_eq : sizeLine = 16777216 := rfl
section
variable {T : Tab} {st : Sto} {k : Nat}
theorem is_integer_int (h : HasNum T) (i : Int) (hk : 1 ≤ k) : callF T k "is_integer" [.int i] st = .ok (.bl true) st := by
  obtain ⟨k, rfl, hk1⟩ := succ_of hk; clear hk; have hk := hk1; clear hk1
  rw [run_def h.is_integer k rfl]
  simp [d_is_integer, finish_ret]
theorem wmax_eq : wmax = 1000000000 := rfl
theorem common_divisor_int (h : HasNum T) (i j : Int) (hk : 1 ≤ k) {n : Nat} (hj : j.natAbs < 2 ^ n) (hn : n ≤ 100000000) : callF T k "common_divisor" [.int i, .int j] st = .ok (.int (Int.gcd i j)) st := by
  obtain ⟨k, rfl, hk1⟩ := succ_of hk; clear hk; have hk := hk1; clear hk1
  rw [run_def h.common_divisor k rfl]
  have q := gcd_loop (st := st) (t := evT { k := k, call := callF T k, con := T.con } 59 (.cmp .Gt (.var 1) (.lit (.int 0)))) (b := exL (ex { k := k, call := callF T k, con := T.con } 59) [.par [0, 1] [.var 1, .bin .Mod (.var 0) (.var 1)]])
    (fun x y => [some (.int x), some (.int y)]) (fun x y => by simp) (fun x y hy => by simp [hy]) n i.natAbs j.natAbs wmax hj (by rw [wmax_eq]; omega)
  simp [d_common_divisor, q, finish_ret, Int.gcd]

theorem fdiv_nat (a : Int) (g : Nat) : a.fdiv g = a / g := Int.fdiv_eq_ediv_of_nonneg a (by omega)
theorem reduced_int (h : HasNum T) {top bottom : Int} (hk : 41 ≤ k) {n : Nat} (hj : bottom.natAbs < 2 ^ n) (hn : n ≤ 100000000) (h0 : bottom ≠ 0) :
    callF T k "reduced" [.int top, .int bottom] st = .ok (frD (Rat.divInt top bottom)) st := by
  obtain ⟨k, rfl, hk1⟩ := succ_of (j := 40) hk; clear hk; have hk := hk1; clear hk1
  rw [run_def h.reduced k rfl]
  have g0 : Int.gcd bottom top ≠ 0 := fun e => h0 (Int.gcd_eq_zero_iff.mp e).1
  have cd := common_divisor_int (st := st) h (k := k) top bottom (by omega) hj hn
  have cd' := common_divisor_int (st := st) h (k := k) (0 - top) (0 - bottom) (by omega) (n := n) (by omega) hn
  have e1 : Int.gcd (0 - top) (0 - bottom) = Int.gcd bottom top := by rw [Int.gcd_comm, Int.zero_sub, Int.zero_sub, Int.neg_gcd, Int.gcd_neg]
  rw [Int.gcd_comm] at cd
  rw [e1, Int.zero_sub, Int.zero_sub] at cd'
  have r : frD (Rat.divInt top bottom) = .tup [.int (bottom.sign * top / Int.gcd bottom top), .int (bottom.natAbs / Int.gcd bottom top : Nat)] := by
    unfold frD
    rw [Rat.num_divInt, Rat.den_divInt, if_neg h0]
  rw [r]
  by_cases hb : bottom < 0
  · have s1 : bottom.sign = -1 := Int.sign_eq_neg_one_of_neg hb
    have s2 : ((bottom.natAbs : Nat) : Int) = -bottom := by omega
    simp [d_reduced, hb, cd', g0, hk, fdiv_nat, finish_ret, s1, s2, Int.natCast_ediv]
  · have s1 : bottom.sign = 1 := Int.sign_eq_one_of_pos (by omega)
    have s2 : ((bottom.natAbs : Nat) : Int) = bottom := by omega
    simp [d_reduced, hb, cd, g0, hk, fdiv_nat, finish_ret, s1, s2, Int.natCast_ediv]
theorem den_pos (q : Rat) : 1 ≤ (q.den : Int) := by have := q.den_pos; omega
theorem is_number_fr (h : HasNum T) {q : Rat} {n : Nat} (hk : 2 ≤ k) (hq : q.den < 2 ^ n) (hn : n ≤ 100000000) : callF T k "is_number" [frD q] st = .ok (.bl true) st := by
  obtain ⟨k, rfl, hk1⟩ := succ_of (j := 1) hk; clear hk; have hk := hk1; clear hk1
  rw [run_def h.is_number k rfl]
  have cd := common_divisor_int (st := st) h (k := k) q.num q.den (by omega) (n := n) (by omega) hn
  have g : Int.gcd q.num q.den = 1 := q.reduced
  rw [g] at cd
  have i1 := is_integer_int (st := st) h (k := k) q.num hk
  have i2 := is_integer_int (st := st) h (k := k) q.den hk
  have d1 := den_pos q
  simp [d_is_number, frD, compR, compL, turnC, condT, wipeE, i1, i2, cd, allD, Sto.items, allB, finish_ret, d1]
theorem require_number_fr (h : HasNum T) {q : Rat} {n : Nat} (hk : 3 ≤ k) (hq : q.den < 2 ^ n) (hn : n ≤ 100000000) : callF T k "require_number" [frD q] st = .ok .non st := by
  obtain ⟨k, rfl, hk1⟩ := succ_of (j := 2) hk; clear hk; have hk := hk1; clear hk1
  rw [run_def h.require_number k rfl]
  have i := is_number_fr (st := st) (q := q) h hk hq hn
  simp [d_require_number, i, finish_next]

/-! ### rationals -/
theorem add_div (a b : Rat) : a + b = Rat.divInt (a.num * b.den + b.num * a.den) (a.den * b.den) := by
  rw [Rat.add_def', ← Rat.divInt_ofNat, Int.natCast_mul]
theorem mul_div (a b : Rat) : a * b = Rat.divInt (a.num * b.num) (a.den * b.den) := by
  rw [Rat.mul_def', ← Rat.divInt_ofNat, Int.natCast_mul]
theorem div_div (a b : Rat) : a / b = Rat.divInt (a.num * b.den) (a.den * b.num) := by
  rw [Rat.div_def, Rat.inv_def]
  conv => lhs; lhs; rw [← Rat.num_divInt_den a]
  rw [Rat.divInt_mul_divInt]
theorem divInt_one (a : Int) : frD (Rat.divInt a 1) = .tup [.int a, .int 1] := by
  unfold frD
  rw [Rat.num_divInt, Rat.den_divInt]
  simp
theorem abs_mul {a b : Int} {p q : Nat} (h1 : a.natAbs < 2 ^ p) (h2 : b.natAbs < 2 ^ q) : (a * b).natAbs < 2 ^ (p + q) := by
  rw [Int.natAbs_mul, Nat.pow_add]
  exact Nat.mul_lt_mul'' h1 h2
theorem abs_add {a b : Int} {p : Nat} (h1 : a.natAbs < 2 ^ p) (h2 : b.natAbs < 2 ^ p) : (a + b).natAbs < 2 ^ (p + 1) := by
  rw [Nat.pow_succ]
  omega
theorem sz_divInt {t b : Int} {n : Nat} (ht : t.natAbs < 2 ^ n) (hb : b.natAbs < 2 ^ n) (h0 : b ≠ 0) : sz (Rat.divInt t b) n := by
  unfold sz
  rw [Rat.num_divInt, Rat.den_divInt, if_neg h0]
  refine ⟨Nat.lt_of_le_of_lt ?_ ht, Nat.lt_of_le_of_lt (Nat.div_le_self _ _) hb⟩
  have e : (b.sign * t).natAbs = t.natAbs := by
    rw [Int.natAbs_mul, Int.natAbs_sign_of_ne_zero h0, Nat.one_mul]
  rw [Int.natAbs_ediv_of_dvd]
  · rw [e]
    exact Nat.div_le_self _ _
  · exact Int.dvd_mul_of_dvd_right (Int.gcd_dvd_right _ _)
theorem sz.mono {q : Rat} {n m : Nat} (h : sz q n) (hm : n ≤ m) : sz q m :=
  ⟨Nat.lt_of_lt_of_le h.1 (Nat.pow_le_pow_right (by decide) hm), Nat.lt_of_lt_of_le h.2 (Nat.pow_le_pow_right (by decide) hm)⟩
theorem den_abs {q : Rat} {n : Nat} (h : q.den < 2 ^ n) : (q.den : Int).natAbs < 2 ^ n := by simpa using h
theorem den_ne (q : Rat) : (q.den : Int) ≠ 0 := by have := q.den_pos; omega
theorem sz_add {a b : Rat} {p q : Nat} (ha : sz a p) (hb : sz b q) : sz (a + b) (p + q + 1) := by
  rw [add_div]
  refine sz_divInt (abs_add (abs_mul ha.1 (den_abs hb.2)) ?_) ?_ (Int.mul_ne_zero (den_ne a) (den_ne b))
  · rw [Nat.add_comm p q]
    exact abs_mul hb.1 (den_abs ha.2)
  · exact Nat.lt_of_lt_of_le (abs_mul (den_abs ha.2) (den_abs hb.2)) (Nat.pow_le_pow_right (by decide) (by omega))
theorem sz_mul {a b : Rat} {p q : Nat} (ha : sz a p) (hb : sz b q) : sz (a * b) (p + q) := by
  rw [mul_div]
  exact sz_divInt (abs_mul ha.1 hb.1) (abs_mul (den_abs ha.2) (den_abs hb.2)) (Int.mul_ne_zero (den_ne a) (den_ne b))
theorem sz_neg {a : Rat} {p : Nat} (ha : sz a p) : sz (-a) p := ⟨by rw [Rat.neg_num, Int.natAbs_neg]; exact ha.1, by rw [Rat.neg_den]; exact ha.2⟩
theorem sz_sub {a b : Rat} {p q : Nat} (ha : sz a p) (hb : sz b q) : sz (a - b) (p + q + 1) := by
  rw [Rat.sub_eq_add_neg]
  exact sz_add ha (sz_neg hb)
theorem num_ne {b : Rat} (h : b ≠ 0) : b.num ≠ 0 := fun e => h (Rat.num_eq_zero.mp e)
theorem sz_div {a b : Rat} {p q : Nat} (ha : sz a p) (hb : sz b q) (h : b ≠ 0) : sz (a / b) (p + q) := by
  rw [div_div]
  exact sz_divInt (abs_mul ha.1 (den_abs hb.2)) (abs_mul (den_abs ha.2) hb.1) (Int.mul_ne_zero (den_ne a) (num_ne h))
/-! ### the four ways -/
theorem added_fr (h : HasNum T) {a b : Rat} {n : Nat} (hk : 42 ≤ k) (ha : sz a n) (hb : sz b n) (hn : n ≤ 1000000) : callF T k "added" [frD a, frD b] st = .ok (frD (a + b)) st := by
  obtain ⟨k, rfl, hk⟩ := succ_of (j := 41) hk
  rw [run_def h.added k rfl]
  have m1 : mulOk a.num b.den = true := mulOk_of ha.1 (den_abs hb.2) (by omega)
  have m2 : mulOk b.num a.den = true := mulOk_of hb.1 (den_abs ha.2) (by omega)
  have m3 : mulOk a.den b.den = true := mulOk_of (den_abs ha.2) (den_abs hb.2) (by omega)
  by_cases e : (a.den : Int) = b.den ∧ (b.den : Int) = 1
  · have e2 : (a.den : Int) = 1 := e.1.trans e.2
    have r : frD (a + b) = .tup [.int (a.num + b.num), .int 1] := by rw [add_div, e.2, e2, Int.mul_one, Int.mul_one, Int.mul_one, divInt_one]
    rw [r]
    have e3 : a.den = 1 := by omega
    have e4 : b.den = 1 := by omega
    simp [d_added, frD, e3, e4, finish_ret]
  · have rd := reduced_int (st := st) (k := k) h (top := a.num * b.den + b.num * a.den) (bottom := a.den * b.den) (by omega) (n := n + n) (abs_mul (den_abs ha.2) (den_abs hb.2)) (by omega) (Int.mul_ne_zero (den_ne a) (den_ne b))
    rw [add_div]
    by_cases e1 : a.den = b.den
    · have e2 : b.den ≠ 1 := fun z => e ⟨by omega, by omega⟩
      rw [e1] at m2 m3 rd
      have e3 : ¬ (b.den : Int) = 1 := by omega
      simp [d_added, frD, e1, e2, e3, m1, m2, m3]
      simp [frD] at rd
      simp [rd, finish_ret]
    · have e3 : ¬ (a.den : Int) = b.den := by omega
      simp [d_added, frD, e1, e3, m1, m2, m3]
      simp [frD] at rd
      simp [rd, finish_ret]
end
end Mu

set_option linter.all false
set_option Elab.async false
/-! More of the text's arithmetic; the law's own arithmetic; its dice. -/
namespace Mu
open PySem Lib
section
variable {T : Tab} {st : Sto} {k : Nat}
theorem multiplied_fr (h : HasNum T) {a b : Rat} {n : Nat} (hk : 42 ≤ k) (ha : sz a n) (hb : sz b n) (hn : n ≤ 1000000) : callF T k "multiplied" [frD a, frD b] st = .ok (frD (a * b)) st := by
  obtain ⟨k, rfl, hk⟩ := succ_of (j := 41) hk
  rw [run_def h.multiplied k rfl]
  have m1 : mulOk a.num b.num = true := mulOk_of ha.1 hb.1 (by omega)
  have m3 : mulOk a.den b.den = true := mulOk_of (den_abs ha.2) (den_abs hb.2) (by omega)
  by_cases e : (a.den : Int) = b.den ∧ (b.den : Int) = 1
  · have e2 : (a.den : Int) = 1 := e.1.trans e.2
    have r : frD (a * b) = .tup [.int (a.num * b.num), .int 1] := by rw [mul_div, e.2, e2, Int.mul_one, divInt_one]
    rw [r]
    have e3 : a.den = 1 := by omega
    have e4 : b.den = 1 := by omega
    simp [d_multiplied, frD, e3, e4, m1, finish_ret]
  · have rd := reduced_int (st := st) (k := k) h (top := a.num * b.num) (bottom := a.den * b.den) (by omega) (n := n + n) (abs_mul (den_abs ha.2) (den_abs hb.2)) (by omega) (Int.mul_ne_zero (den_ne a) (den_ne b))
    rw [mul_div]
    by_cases e1 : a.den = b.den
    · have e2 : b.den ≠ 1 := fun z => e ⟨by omega, by omega⟩
      rw [e1] at m3 rd
      have e3 : ¬ (b.den : Int) = 1 := by omega
      simp [d_multiplied, frD, e1, e2, e3, m1, m3]
      simp [frD] at rd
      simp [rd, finish_ret]
    · have e3 : ¬ (a.den : Int) = b.den := by omega
      simp [d_multiplied, frD, e1, e3, m1, m3]
      simp [frD] at rd
      simp [rd, finish_ret]
theorem opposite_fr (h : HasNum T) {a : Rat} (hk : 1 ≤ k) : callF T k "opposite" [frD a] st = .ok (frD (-a)) st := by
  obtain ⟨k, rfl, hk⟩ := succ_of hk
  rw [run_def h.opposite k rfl]
  simp [d_opposite, frD, finish_ret]
theorem divided_fr (h : HasNum T) {a b : Rat} {n : Nat} (hk : 42 ≤ k) (ha : sz a n) (hb : sz b n) (hn : n ≤ 1000000) (h0 : b ≠ 0) : callF T k "divided" [frD a, frD b] st = .ok (frD (a / b)) st := by
  obtain ⟨k, rfl, hk⟩ := succ_of (j := 41) hk
  rw [run_def h.divided k rfl]
  have m1 : mulOk a.num b.den = true := mulOk_of ha.1 (den_abs hb.2) (by omega)
  have m3 : mulOk a.den b.num = true := mulOk_of (den_abs ha.2) hb.1 (by omega)
  have rd := reduced_int (st := st) (k := k) h (top := a.num * b.den) (bottom := a.den * b.num) (by omega) (n := n + n) (abs_mul (den_abs ha.2) hb.1) (by omega) (Int.mul_ne_zero (den_ne a) (num_ne h0))
  rw [← div_div] at rd
  simp [d_divided, frD, m1, m3]
  simp [frD] at rd
  simp [rd, finish_ret]
theorem plus_fr (h : HasNum T) {a b : Rat} {n : Nat} (hk : 43 ≤ k) (ha : sz a n) (hb : sz b n) (hn : n ≤ 1000000) : callF T k "plus" [frD a, frD b] st = .ok (frD (a + b)) st := by
  obtain ⟨k, rfl, hk⟩ := succ_of (j := 42) hk
  rw [run_def h.plus k rfl]
  simp [d_plus, require_number_fr (k := k) (st := st) h (by omega) ha.2 (by omega), require_number_fr (k := k) (st := st) h (by omega) hb.2 (by omega), added_fr (k := k) (st := st) h (by omega) ha hb hn, finish_ret]
theorem minus_fr (h : HasNum T) {a b : Rat} {n : Nat} (hk : 43 ≤ k) (ha : sz a n) (hb : sz b n) (hn : n ≤ 1000000) : callF T k "minus" [frD a, frD b] st = .ok (frD (a - b)) st := by
  obtain ⟨k, rfl, hk⟩ := succ_of (j := 42) hk
  rw [run_def h.minus k rfl]
  simp [d_minus, require_number_fr (k := k) (st := st) h (by omega) ha.2 (by omega), require_number_fr (k := k) (st := st) h (by omega) hb.2 (by omega), opposite_fr (k := k) (st := st) h (a := b) (by omega),
    added_fr (k := k) (st := st) h (by omega) ha (sz_neg hb) hn, finish_ret, Rat.sub_eq_add_neg]
theorem times_fr (h : HasNum T) {a b : Rat} {n : Nat} (hk : 43 ≤ k) (ha : sz a n) (hb : sz b n) (hn : n ≤ 1000000) : callF T k "times" [frD a, frD b] st = .ok (frD (a * b)) st := by
  obtain ⟨k, rfl, hk⟩ := succ_of (j := 42) hk
  rw [run_def h.times k rfl]
  simp [d_times, require_number_fr (k := k) (st := st) h (by omega) ha.2 (by omega), require_number_fr (k := k) (st := st) h (by omega) hb.2 (by omega), multiplied_fr (k := k) (st := st) h (by omega) ha hb hn, finish_ret]
/-! ### data told apart -/
theorem plain_fr (a : Rat) : dataOk (frD a) = true := by
  unfold dataOk SeqAt.shaped frD
  simp [D.plain, D.plains, D.py, D.pys, PyData.canLay0, PyData.canLayAll0, PyData.depth, PyData.depthAll]
theorem eqv_fr (a b : Rat) : PyData.eqv (frD a).py (frD b).py = decide (a = b) := by
  have e : a = b ↔ a.num = b.num ∧ a.den = b.den := ⟨fun e => by rw [e]; exact ⟨rfl, rfl⟩, fun e => Rat.ext e.1 e.2⟩
  rw [Bool.eq_iff_iff, decide_eq_true_eq, e]
  unfold frD
  simp [D.py, D.pys, PyData.eqv, PyData.eqvAll]
  omega
theorem eqD_fr (a b : Rat) : eqD (frD a) (frD b) = some (decide (a = b)) := by
  show (if dataOk (frD a) && dataOk (frD b) then some (PyData.eqv (frD a).py (frD b).py) else none) = _
  rw [plain_fr, plain_fr, eqv_fr]
  rfl
theorem cmp_eq_fr (a b : Rat) : cmpD .Eq (frD a) (frD b) = some (decide (a = b)) := eqD_fr a b
theorem cmp_ne_fr (a b : Rat) : cmpD .NotEq (frD a) (frD b) = some (!decide (a = b)) := by
  show (eqD (frD a) (frD b)).map (fun b => !b) = _
  rw [eqD_fr]
  rfl
theorem zero_fr : D.tup [.int 0, .int 1] = frD 0 := rfl
theorem one_fr : D.tup [.int 1, .int 1] = frD 1 := rfl
theorem over_fr (h : HasNum T) {a b : Rat} {n : Nat} (hk : 43 ≤ k) (ha : sz a n) (hb : sz b n) (hn : n ≤ 1000000) (h0 : b ≠ 0) : callF T k "over" [frD a, frD b] st = .ok (frD (a / b)) st := by
  obtain ⟨k, rfl, hk⟩ := succ_of (j := 42) hk
  rw [run_def h.over k rfl]
  simp [d_over, require_number_fr (k := k) (st := st) h (by omega) ha.2 (by omega), require_number_fr (k := k) (st := st) h (by omega) hb.2 (by omega), divided_fr (k := k) (st := st) h (by omega) ha hb hn h0, finish_ret,
    h.nought, zero_fr, cmp_eq_fr, h0]
/-- the sign of a - b, as the text says it -/
def cmpQ (x y : Int) : Int := (if y < x then 1 else 0) - (if x < y then 1 else 0)
theorem compared_fr (h : HasNum T) {a b : Rat} {n : Nat} (hk : 4 ≤ k) (ha : sz a n) (hb : sz b n) (hn : n ≤ 1000000) : callF T k "compared" [frD a, frD b] st = .ok (.int (cmpQ (a.num * b.den) (b.num * a.den))) st := by
  obtain ⟨k, rfl, hk⟩ := succ_of (j := 3) hk
  rw [run_def h.compared k rfl]
  have m1 : mulOk a.num b.den = true := mulOk_of ha.1 (den_abs hb.2) (by omega)
  have m2 : mulOk b.num a.den = true := mulOk_of hb.1 (den_abs ha.2) (by omega)
  have r1 := require_number_fr (k := k) (st := st) h (by omega) ha.2 (by omega)
  have r2 := require_number_fr (k := k) (st := st) h (by omega) hb.2 (by omega)
  simp [frD] at r1 r2
  simp [d_compared, r1, r2, frD, m1, m2, finish_ret, cmpQ]
/-! ### loops -/
theorem forL_ok {f : D → Env → Sto → SR} {xs : List D} (P : Nat → Env → Sto → Prop) (h : ∀ i x env st, xs[i]? = some x → P i env st → ∃ env' st', (f x env st = .next env' st' ∨ f x env st = .cont env' st') ∧ P (i + 1) env' st') :
    ∀ {env : Env} {st : Sto}, P 0 env st → ∃ env' st', forL f xs env st = .next env' st' ∧ P xs.length env' st' := by
  induction xs generalizing P with
  | nil => exact fun {env st} p => ⟨env, st, rfl, p⟩
  | cons x xs ih =>
    intro env st p
    obtain ⟨env1, st1, e, p1⟩ := h 0 x env st rfl p
    obtain ⟨env2, st2, e2, p2⟩ := ih (fun i => P (i + 1)) (fun i y env st hy q => h (i + 1) y env st (by rw [List.getElem?_cons_succ]; exact hy) q) p1
    refine ⟨env2, st2, ?_, p2⟩
    rw [forL_cons]
    rcases e with e | e <;> (rw [e]; exact e2)
theorem compL_map {f : D → Sto → Res (Option D)} {st : Sto} (g : D → D) : ∀ (xs acc : List D), (∀ x ∈ xs, f x st = .ok (some (g x)) st) → acc.length + xs.length ≤ 16777216 → compL f xs acc st = .ok (acc ++ xs.map g) st
  | [], acc, _, _ => by simp [compL]
  | x :: xs, acc, h, hl => by
    have e := h x List.mem_cons_self
    rw [List.length_cons] at hl
    unfold compL
    rw [e, Res.bind_ok]
    simp only
    rw [if_pos (show acc.length < sizeLine by rw [sizeLine_eq]; omega), compL_map g xs (acc ++ [g x]) (fun y hy => h y (List.mem_cons_of_mem _ hy)) (by rw [List.length_append, List.length_singleton]; omega)]
    simp
theorem allB_true : ∀ xs : List D, allB (xs.map fun _ => D.bl true) = some true
  | [] => rfl
  | x :: xs => by
    show (allB (xs.map fun _ => D.bl true)).map (true && ·) = _
    rw [allB_true xs]
    rfl
theorem get_map {α β : Type} {f : α → β} {l : List α} {i : Nat} {b : β} (h : (l.map f)[i]? = some b) : ∃ a, l[i]? = some a ∧ b = f a := by
  rw [List.getElem?_map] at h
  cases e : l[i]? with
  | none => rw [e] at h; cases h
  | some a => rw [e] at h; exact ⟨a, rfl, (Option.some.inj h).symm⟩
theorem take_next {α : Type} {l : List α} {i : Nat} {a : α} (h : l[i]? = some a) : l.take (i + 1) = l.take i ++ [a] := by
  rw [List.take_add_one, h]
  all_goals rfl
theorem sum_of_fr (h : HasNum T) {qs : List Rat} {n : Nat} (hk : 43 ≤ k) (hq : ∀ q ∈ qs, sz q n) (hn : (qs.length + 1) * (n + 1) ≤ 1000000) : callF T k "sum_of" [.tup (qs.map frD)] st = .ok (frD (qs.foldl (· + ·) 0)) st := by
  obtain ⟨k, rfl, hk⟩ := succ_of (j := 42) hk
  rw [run_def h.sum_of k rfl]
  have step : ∀ i x env st', (qs.map frD)[i]? = some x → (st' = st ∧ ∃ o, env = [some (.tup (qs.map frD)), some (frD ((qs.take i).foldl (· + ·) 0)), o] ∧ sz ((qs.take i).foldl (· + ·) 0) (1 + i * (n + 1)) ∧ i ≤ qs.length) →
      ∃ env' st2, ((fun x env st => (tgD (fun e env st => ev { k := k, call := callF T k, con := T.con } 59 e env st) (.name 2) x env st).still.run env fun env st => exL (ex { k := k, call := callF T k, con := T.con } 59) [.asg (.name 1) (.call "added" [.var 1, .var 2])] env st) x env st' = .next env' st2 ∨
        (fun x env st => (tgD (fun e env st => ev { k := k, call := callF T k, con := T.con } 59 e env st) (.name 2) x env st).still.run env fun env st => exL (ex { k := k, call := callF T k, con := T.con } 59) [.asg (.name 1) (.call "added" [.var 1, .var 2])] env st) x env st' = .cont env' st2) ∧
      (st2 = st ∧ ∃ o, env' = [some (.tup (qs.map frD)), some (frD ((qs.take (i + 1)).foldl (· + ·) 0)), o] ∧ sz ((qs.take (i + 1)).foldl (· + ·) 0) (1 + (i + 1) * (n + 1)) ∧ i + 1 ≤ qs.length) := by
    rintro i x env st' hx ⟨rfl, o, rfl, z, hi⟩
    obtain ⟨q, hq1, rfl⟩ := get_map hx
    have hl := (List.getElem?_eq_some_iff.mp hq1).1
    have hz := hq q (List.mem_of_getElem? hq1)
    have b1 : 1 + i * (n + 1) ≤ 1000000 := by
      have : i * (n + 1) + (n + 1) ≤ (qs.length + 1) * (n + 1) := by
        rw [← Nat.succ_mul]
        exact Nat.mul_le_mul_right _ (by omega)
      omega
    have b2 : n ≤ 1000000 := by
      have : 1 * (n + 1) ≤ (qs.length + 1) * (n + 1) := Nat.mul_le_mul_right _ (by omega)
      omega
    have ad := added_fr (k := k) (st := st') h (by omega) (z.mono (m := 1000000) b1) (hz.mono (m := 1000000) b2) (Nat.le_refl _)
    refine ⟨[some (.tup (qs.map frD)), some (frD ((qs.take i).foldl (· + ·) 0 + q)), some (frD q)], st', .inl (by simp [ad]), rfl, some (frD q), ?_, ?_, hl⟩
    · rw [take_next hq1, List.foldl_append]
      rfl
    · rw [take_next hq1, List.foldl_append]
      have := sz_add z hz
      refine this.mono ?_
      rw [Nat.succ_mul]
      omega
  obtain ⟨env', st', e, p⟩ := forL_ok _ step (env := [some (.tup (qs.map frD)), some (frD 0), none]) (st := st) ⟨rfl, none, rfl, ⟨by simp, by simp⟩, Nat.zero_le _⟩
  simp [d_sum_of, h.nought, zero_fr] at e ⊢
  obtain ⟨rfl, o, rfl, z, _⟩ := p
  rw [e]
  have tk : qs.take (qs.map frD).length = qs := by rw [List.length_map, List.take_length]
  simp [finish_ret, tk]
theorem total_fr (h : HasNum T) {qs : List Rat} {n : Nat} (hk : 44 ≤ k) (hq : ∀ q ∈ qs, sz q n) (hn : (qs.length + 1) * (n + 1) ≤ 1000000) : callF T k "total" [.tup (qs.map frD)] st = .ok (frD (qs.foldl (· + ·) 0)) st := by
  obtain ⟨k, rfl, hk⟩ := succ_of (j := 43) hk
  rw [run_def h.total k rfl]
  have hl : qs.length ≤ 1000000 := by
    have : (qs.length + 1) * 1 ≤ (qs.length + 1) * (n + 1) := Nat.mul_le_mul_left _ (by omega)
    omega
  have b2 : n ≤ 1000000 := by
    have : 1 * (n + 1) ≤ (qs.length + 1) * (n + 1) := Nat.mul_le_mul_right _ (by omega)
    omega
  have s1 := sum_of_fr (k := k) (st := st) h (by omega) hq hn
  have cm : ∀ f : D → Sto → Res (Option D), (∀ x ∈ qs.map frD, f x st = .ok (some (.bl true)) st) → compL f (qs.map frD) [] st = .ok ((qs.map frD).map fun _ => D.bl true) st := fun f hf => by
    rw [compL_map (st := st) (fun _ => D.bl true) (qs.map frD) [] hf (by simp; omega)]
    simp
  have al : ∀ l : List D, allD [.lst (l.map fun _ => D.bl true)] st = some (.bl true) := fun l => by
    show (allB (l.map fun _ => D.bl true)).map D.bl = _
    rw [allB_true]
    rfl
  simp [d_total, compR]
  rw [cm]
  · have al2 := al (qs.map frD)
    rw [List.map_map] at al2
    simp [al2, s1, finish_ret]
  · intro x hx
    obtain ⟨q, hq1, rfl⟩ := List.mem_map.mp hx
    have i1 := is_number_fr (k := k) (st := st) (q := q) h (by omega) (hq q hq1).2 (by omega)
    simp [turnC, condT, wipeE, i1]

theorem callF_pad {F : Fd} {x : Str} (h : T.fn x = some F) {ds : List D} (hl : (F.pad ds).length = F.ps.length) : callF T (k + 1) x ds st = callF T (k + 1) x (F.pad ds) st := by
  rw [callF_eq h, callF_eq h, pad_full hl]
theorem require_count_int (h : HasNum T) {m : Int} (hk : 2 ≤ k) (h0 : 0 ≤ m) (h1 : m ≤ 60) : callF T k "require_count" [.int m] st = .ok .non st := by
  obtain ⟨k, rfl, hk⟩ := succ_of (j := 1) hk
  rw [callF_pad h.require_count rfl, run_def h.require_count k rfl]
  simp [d_require_count, Fd.pad, is_integer_int (k := k) (st := st) h m (by omega), h0, h1, finish_next]
theorem intsD_at {lo : Int} {n i : Nat} {d : D} (h : (intsD lo n)[i]? = some d) : i < n ∧ d = .int (lo + i) := by
  induction n generalizing lo i with
  | zero => cases h
  | succ n ih =>
    cases i with
    | zero =>
      cases h
      exact ⟨by omega, by simp⟩
    | succ i =>
      have := ih (lo := lo + 1) (i := i) h
      refine ⟨by omega, this.2.trans ?_⟩
      congr 1
      omega
theorem intsD_len {lo : Int} : ∀ {n : Nat}, (intsD lo n).length = n := by
  intro n
  induction n generalizing lo with
  | zero => rfl
  | succ n ih => show (intsD (lo + 1) n).length + 1 = _; rw [ih]
theorem rng1 {m : Int} (h : m.natAbs ≤ 4611686018427387903) : rngD [.int m] = some (intsD 0 m.toNat) := if_pos h
theorem power_fr (h : HasNum T) {a : Rat} {m : Nat} {n : Nat} (hk : 44 ≤ k) (ha : sz a n) (hm : m ≤ 60) (hn : n ≤ 10000) : callF T k "power" [frD a, .int m] st = .ok (frD (a ^ m)) st := by
  obtain ⟨k, rfl, hk⟩ := succ_of (j := 43) hk
  rw [run_def h.power k rfl]
  have step : ∀ i x env st', (intsD 0 m)[i]? = some x → (st' = st ∧ ∃ o, env = [some (frD a), some (.int m), some (frD (a ^ i)), o] ∧ sz (a ^ i) (1 + i * n)) →
      ∃ env' st2, ((fun x env st => (tgD (fun e env st => ev { k := k, call := callF T k, con := T.con } 59 e env st) (.name 3) x env st).still.run env fun env st => exL (ex { k := k, call := callF T k, con := T.con } 59) [.asg (.name 2) (.call "multiplied" [.var 2, .var 0])] env st) x env st' = .next env' st2 ∨
        (fun x env st => (tgD (fun e env st => ev { k := k, call := callF T k, con := T.con } 59 e env st) (.name 3) x env st).still.run env fun env st => exL (ex { k := k, call := callF T k, con := T.con } 59) [.asg (.name 2) (.call "multiplied" [.var 2, .var 0])] env st) x env st' = .cont env' st2) ∧
      (st2 = st ∧ ∃ o, env' = [some (frD a), some (.int m), some (frD (a ^ (i + 1))), o] ∧ sz (a ^ (i + 1)) (1 + (i + 1) * n)) := by
    rintro i x env st' hx ⟨rfl, o, rfl, z⟩
    obtain ⟨hi, rfl⟩ := intsD_at hx
    have b1 : 1 + i * n ≤ 1000000 := by
      have : i * n ≤ 60 * 10000 := Nat.mul_le_mul (by omega) hn
      omega
    have ad := multiplied_fr (k := k) (st := st') h (by omega) (z.mono (m := 1000000) b1) (ha.mono (m := 1000000) (by omega)) (Nat.le_refl _)
    refine ⟨[some (frD a), some (.int m), some (frD (a ^ i * a)), some (.int (0 + i))], st', .inl (by simp [ad]), rfl, some (.int (0 + i)), ?_, ?_⟩
    · rw [Rat.pow_succ]
    · rw [Rat.pow_succ]
      refine (sz_mul z ha).mono ?_
      rw [Nat.succ_mul]
      omega
  obtain ⟨env', st', e, p⟩ := forL_ok _ step (env := [some (frD a), some (.int m), some (frD 1), none]) (st := st) ⟨rfl, none, by rw [Rat.pow_zero], by rw [Rat.pow_zero]; exact ⟨by simp, by simp⟩⟩
  rw [intsD_len] at p
  simp at e
  simp [d_power, h.one, one_fr, require_number_fr (k := k) (st := st) h (by omega) ha.2 (by omega), require_count_int (k := k) (st := st) (m := m) h (by omega) (by omega) (by omega), rng1 (m := m) (by omega)]
  obtain ⟨rfl, o, rfl, z⟩ := p
  rw [e]
  simp [finish_ret]
theorem number_int (h : HasNum T) {t b : Int} (hk : 42 ≤ k) (ht : t.natAbs < 10 ^ 40) (hb : b.natAbs < 10 ^ 40) (h0 : b ≠ 0) : callF T k "number" [.int t, .int b] st = .ok (frD (Rat.divInt t b)) st := by
  obtain ⟨k, rfl, hk⟩ := succ_of (j := 41) hk
  rw [run_def h.number k rfl]
  have e : (10000000000000000000000000000000000000000 : Int) = ((10 ^ 40 : Nat) : Int) := by decide
  have c1 : ¬ (10000000000000000000000000000000000000000 : Int) ≤ t.natAbs := by omega
  have c2 : ¬ (10000000000000000000000000000000000000000 : Int) ≤ b.natAbs := by omega
  have rd := reduced_int (k := k) (st := st) h (top := t) (bottom := b) (by omega) (n := 200) (Nat.lt_of_lt_of_le hb (by decide)) (by omega) h0
  simp [d_number, is_integer_int (k := k) (st := st) h t (by omega), is_integer_int (k := k) (st := st) h b (by omega), h.most, c1, c2, h0, rd, finish_ret]
theorem number_1 (h : HasNum T) {t : Int} (hk : 42 ≤ k) (ht : t.natAbs < 10 ^ 40) : callF T k "number" [.int t] st = .ok (frD (Rat.divInt t 1)) st := by
  obtain ⟨k, rfl, hk⟩ := succ_of (j := 41) hk
  rw [callF_pad h.number rfl]
  exact number_int h (by omega) ht (by decide) (by decide)
end
end Mu

set_option linter.all false
set_option Elab.async false
/-! The law's own arithmetic and its dice. -/
namespace Mu
open PySem Lib
/-- the law's helpers -/
structure HasLaw (T : Tab) : Prop where
  dice : T.fn "_law_dice" = some d__law_dice
  roll : T.fn "_law_roll" = some d__law_roll
  pick : T.fn "_law_pick" = some d__law_pick
structure HasFr (T : Tab) : Prop where
  fr : T.fn "_law_fr" = some d__law_fr
  plus : T.fn "_law_plus" = some d__law_plus
  times : T.fn "_law_times" = some d__law_times
  minus : T.fn "_law_minus" = some d__law_minus
structure HasDr (T : Tab) : Prop where
  integer : T.fn "_law_integer" = some d__law_integer
  drawn : T.fn "_law_drawn" = some d__law_drawn
section
variable {T : Tab} {st : Sto} {k : Nat}
theorem law_fr_int (h : HasFr T) {top bottom : Int} (hk : 41 ≤ k) {n : Nat} (ht : top.natAbs < 2 ^ n) (hb : bottom.natAbs < 2 ^ n) (hn : n ≤ 40000000) (h0 : bottom ≠ 0) :
    callF T k "_law_fr" [.int top, .int bottom] st = .ok (frD (Rat.divInt top bottom)) st := by
  obtain ⟨k, rfl, hk1⟩ := succ_of (j := 40) hk; clear hk; have hk := hk1; clear hk1
  rw [run_def h.fr k rfl]
  have g0 : Int.gcd bottom top ≠ 0 := fun e => h0 (Int.gcd_eq_zero_iff.mp e).1
  have q := gcd_loop (st := st) (t := evT { k := k, call := callF T k, con := T.con } 59 (.cmp .Gt (.var 3) (.lit (.int 0)))) (b := exL (ex { k := k, call := callF T k, con := T.con } 59) [.par [2, 3] [.var 3, .bin .Mod (.var 2) (.var 3)]])
    (fun x y => [some (.int top), some (.int bottom), some (.int x), some (.int y), none]) (fun x y => by simp) (fun x y hy => by simp [hy]) n top.natAbs bottom.natAbs wmax hb (by rw [wmax_eq]; omega)
  have g1 : Nat.gcd top.natAbs bottom.natAbs = Int.gcd bottom top := by rw [Nat.gcd_comm]; rfl
  rw [g1] at q
  have r : frD (Rat.divInt top bottom) = .tup [.int (bottom.sign * top / Int.gcd bottom top), .int (bottom.natAbs / Int.gcd bottom top : Nat)] := by
    unfold frD
    rw [Rat.num_divInt, Rat.den_divInt, if_neg h0]
  rw [r]
  have o1 : (1 : Int).natAbs < 2 ^ 1 := by decide
  have o2 : (-1 : Int).natAbs < 2 ^ 1 := by decide
  by_cases hlt : bottom < 0
  · have s1 : bottom.sign = -1 := Int.sign_eq_neg_one_of_neg hlt
    have s2 : ((bottom.natAbs : Nat) : Int) = -bottom := by omega
    have m1 : mulOk (-1) top = true := mulOk_of o2 ht (by omega)
    have m2 : mulOk (-1) bottom = true := mulOk_of o2 hb (by omega)
    rw [Int.natCast_ediv, s2, s1]
    simp [d__law_fr, q, hlt, g0, hk, fdiv_nat, finish_ret, m1, m2]
  · have s1 : bottom.sign = 1 := Int.sign_eq_one_of_pos (by omega)
    have s2 : ((bottom.natAbs : Nat) : Int) = bottom := by omega
    have m1 : mulOk 1 top = true := mulOk_of o1 ht (by omega)
    have m2 : mulOk 1 bottom = true := mulOk_of o1 hb (by omega)
    rw [Int.natCast_ediv, s2, s1]
    simp [d__law_fr, q, hlt, g0, hk, fdiv_nat, finish_ret, m1, m2]
theorem law_plus_fr (h : HasFr T) {a b : Rat} {n : Nat} (hk : 42 ≤ k) (ha : sz a n) (hb : sz b n) (hn : n ≤ 1000000) : callF T k "_law_plus" [frD a, frD b] st = .ok (frD (a + b)) st := by
  obtain ⟨k, rfl, hk1⟩ := succ_of (j := 41) hk; clear hk; have hk := hk1; clear hk1
  rw [run_def h.plus k rfl]
  have m1 : mulOk a.num b.den = true := mulOk_of ha.1 (den_abs hb.2) (by omega)
  have m2 : mulOk b.num a.den = true := mulOk_of hb.1 (den_abs ha.2) (by omega)
  have m3 : mulOk a.den b.den = true := mulOk_of (den_abs ha.2) (den_abs hb.2) (by omega)
  have rd := law_fr_int (st := st) (k := k) h (top := a.num * b.den + b.num * a.den) (bottom := a.den * b.den) (by omega) (n := n + n + 1) (abs_add (abs_mul ha.1 (den_abs hb.2)) (abs_mul hb.1 (den_abs ha.2)))
    (Nat.lt_of_lt_of_le (abs_mul (den_abs ha.2) (den_abs hb.2)) (Nat.pow_le_pow_right (by decide) (by omega))) (by omega) (Int.mul_ne_zero (den_ne a) (den_ne b))
  rw [add_div]
  simp [d__law_plus, frD, m1, m2, m3]
  simp [frD] at rd
  simp [rd, finish_ret]
theorem law_minus_fr (h : HasFr T) {a b : Rat} {n : Nat} (hk : 42 ≤ k) (ha : sz a n) (hb : sz b n) (hn : n ≤ 1000000) : callF T k "_law_minus" [frD a, frD b] st = .ok (frD (a - b)) st := by
  obtain ⟨k, rfl, hk1⟩ := succ_of (j := 41) hk; clear hk; have hk := hk1; clear hk1
  rw [run_def h.minus k rfl]
  have m1 : mulOk a.num b.den = true := mulOk_of ha.1 (den_abs hb.2) (by omega)
  have m2 : mulOk b.num a.den = true := mulOk_of hb.1 (den_abs ha.2) (by omega)
  have m3 : mulOk a.den b.den = true := mulOk_of (den_abs ha.2) (den_abs hb.2) (by omega)
  have rd := law_fr_int (st := st) (k := k) h (top := a.num * b.den - b.num * a.den) (bottom := a.den * b.den) (by omega) (n := n + n + 1) (by
    rw [Int.sub_eq_add_neg, ← Int.neg_mul]
    exact abs_add (abs_mul ha.1 (den_abs hb.2)) (abs_mul (by rw [Int.natAbs_neg]; exact hb.1) (den_abs ha.2)))
    (Nat.lt_of_lt_of_le (abs_mul (den_abs ha.2) (den_abs hb.2)) (Nat.pow_le_pow_right (by decide) (by omega))) (by omega) (Int.mul_ne_zero (den_ne a) (den_ne b))
  have e : a - b = Rat.divInt (a.num * b.den - b.num * a.den) (a.den * b.den) := by
    rw [Rat.sub_def', ← Rat.divInt_ofNat, Int.natCast_mul]
  rw [e]
  simp [d__law_minus, frD, m1, m2, m3]
  simp [frD] at rd
  simp [rd, finish_ret]
theorem law_times_fr (h : HasFr T) {a b : Rat} {n : Nat} (hk : 42 ≤ k) (ha : sz a n) (hb : sz b n) (hn : n ≤ 1000000) : callF T k "_law_times" [frD a, frD b] st = .ok (frD (a * b)) st := by
  obtain ⟨k, rfl, hk1⟩ := succ_of (j := 41) hk; clear hk; have hk := hk1; clear hk1
  rw [run_def h.times k rfl]
  have m1 : mulOk a.num b.num = true := mulOk_of ha.1 hb.1 (by omega)
  have m3 : mulOk a.den b.den = true := mulOk_of (den_abs ha.2) (den_abs hb.2) (by omega)
  have rd := law_fr_int (st := st) (k := k) h (top := a.num * b.num) (bottom := a.den * b.den) (by omega) (n := n + n) (abs_mul ha.1 hb.1) (abs_mul (den_abs ha.2) (den_abs hb.2)) (by omega) (Int.mul_ne_zero (den_ne a) (den_ne b))
  rw [mul_div]
  simp [d__law_times, frD, m1, m3]
  simp [frD] at rd
  simp [rd, finish_ret]
/-! ### dice -/
/-- dice lie at i, thrown at most B times by their seed -/
def Dice (i B : Nat) (st : Sto) : Prop := ∃ a b c : Int, st[i]? = some (O.lst [.int a, .int b, .int c]) ∧ 0 ≤ c ∧ c ≤ B
theorem finish_ret' {st : Sto} {n : Nat} (h : st.length = n) (d : D) : finish n (.ret d st) = .ok d st := by
  subst h
  exact finish_ret d
theorem fmod_lt {a m : Int} (h : 0 < m) : 0 ≤ a.fmod m ∧ a.fmod m < m := by
  rw [Int.fmod_eq_emod_of_nonneg _ (by omega)]
  exact ⟨Int.emod_nonneg _ (by omega), Int.emod_lt_of_pos _ h⟩
theorem idx_ref {i : Nat} {xs : List D} {j : Int} (h : st[i]? = some (.lst xs)) : idxD st (.ref i) (.int j) = atD xs j := by
  show (seqD st (.ref i)).bind (fun xs => atD xs j) = _
  have e : seqD st (.ref i) = some xs := by
    show Sto.items st (.ref i) = _
    unfold Sto.items
    simp only [h]
  rw [e]
  rfl
theorem sub_ref {i : Nat} {xs : List D} {d : D} {j : Int} {env : Env} (h : st[i]? = some (.lst xs)) (h0 : 0 ≤ j) (h1 : j < xs.length) : subD d (.ref i) (.int j) env st = .ok env (st.set i (.lst (xs.set j.toNat d))) := by
  unfold subD
  simp only [h]
  rw [if_pos ⟨h0, h1⟩]
theorem at_0 (a b c : D) : atD [a, b, c] 0 = some a := rfl
theorem at_1 (a b c : D) : atD [a, b, c] 1 = some b := rfl
theorem at_2 (a b c : D) : atD [a, b, c] 2 = some c := rfl
theorem abs_of {x : Int} {m : Int} {n : Nat} (h0 : 0 ≤ x) (h1 : x < m) (h : m ≤ 2 ^ n) : x.natAbs < 2 ^ n := by
  have : (x.natAbs : Int) < ((2 ^ n : Nat) : Int) := by
    rw [Int.natCast_pow]
    have e : ((2 : Nat) : Int) = 2 := rfl
    rw [e]
    omega
  omega
theorem roll_ok (h : HasLaw T) {i B : Nat} {m : Int} (hk : 41 ≤ k) (hd : Dice i B st) (hB : B ≤ 1000000) (hm : 0 < m) :
    ∃ v st', callF T k "_law_roll" [.ref i, .int m] st = .ok (.int v) st' ∧ 0 ≤ v ∧ v < m ∧ Dice i (B + 1) st' ∧ st'.length = st.length := by
  obtain ⟨k, rfl, hk1⟩ := succ_of (j := 40) hk; clear hk; have hk := hk1; clear hk1
  obtain ⟨a, b, c, e, hc0, hc1⟩ := hd
  have hl : i < st.length := (List.getElem?_eq_some_iff.mp e).1
  rw [run_def h.roll k rfl]
  have m0 : ¬ m = 0 := by omega
  by_cases ha : 0 < a
  · have e1 : (st.set i (O.lst [.int (a.fdiv m), .int b, .int c]))[i]? = some (O.lst [.int (a.fdiv m), .int b, .int c]) := List.getElem?_set_self hl
    refine ⟨a.fmod m, st.set i (.lst [.int (a.fdiv m), .int b, .int c]), ?_, (fmod_lt hm).1, (fmod_lt hm).2, ⟨_, _, _, e1, hc0, by omega⟩, by simp⟩
    simp [d__law_roll, idx_ref e, at_0, at_1, at_2, ha, m0, sub_ref e, hk]
    rw [finish_ret' (by simp)]
  · have e1 : (st.set i (O.lst [.int a, .int b, .int (c + 1)]))[i]? = some (O.lst [.int a, .int b, .int (c + 1)]) := List.getElem?_set_self hl
    obtain ⟨x, hx⟩ : ∃ x, x = (b + 49979687 * (c + 1)).fmod 2305843009213693951 := ⟨_, rfl⟩
    obtain ⟨y, hy⟩ : ∃ y, y = (x * x + 131 * (c + 1)).fmod 2305843009213693921 := ⟨_, rfl⟩
    have bx : 0 ≤ x ∧ x < 2305843009213693951 := by rw [hx]; exact fmod_lt (by decide)
    have by' : 0 ≤ y ∧ y < 2305843009213693921 := by rw [hy]; exact fmod_lt (by decide)
    have ax : x.natAbs < 2 ^ 62 := abs_of bx.1 bx.2 (by decide)
    have ay : y.natAbs < 2 ^ 62 := abs_of by'.1 by'.2 (by decide)
    have ac : (c + 1).natAbs < 2 ^ 62 := abs_of (m := 1000002) (by omega) (by omega) (by decide)
    have m1 : mulOk 49979687 (c + 1) = true := mulOk_of (p := 62) (by decide) ac (by omega)
    have m2 : mulOk x x = true := mulOk_of ax ax (by omega)
    have m3 : mulOk 131 (c + 1) = true := mulOk_of (p := 62) (by decide) ac (by omega)
    have m4 : mulOk y 32452843 = true := mulOk_of (q := 62) ay (by decide) (by omega)
    refine ⟨((y * 32452843 + x).fdiv 65587).fmod m, st.set i (.lst [.int a, .int b, .int (c + 1)]), ?_, (fmod_lt hm).1, (fmod_lt hm).2, ⟨_, _, _, e1, by omega, by omega⟩, by simp⟩
    simp [d__law_roll, idx_ref e, at_0, at_1, at_2, ha, m0, sub_ref e, hk, idx_ref e1, m1, ← hx, m2, m3, ← hy, m4]
    rw [finish_ret' (by simp)]
theorem pick_ok (h : HasLaw T) {i B : Nat} {xs : List D} (hk : 42 ≤ k) (hd : Dice i B st) (hB : B ≤ 1000000) (hx : 0 < xs.length) :
    ∃ j st', ∃ hj : j < xs.length, callF T k "_law_pick" [.ref i, .lst xs] st = .ok xs[j] st' ∧ Dice i (B + 1) st' ∧ st'.length = st.length := by
  obtain ⟨k, rfl, hk1⟩ := succ_of (j := 41) hk; clear hk; have hk := hk1; clear hk1
  obtain ⟨v, st', e, h0, h1, d, l⟩ := roll_ok (k := k) h (m := xs.length) (by omega) hd hB (by omega)
  refine ⟨v.toNat, st', by omega, ?_, d, l⟩
  rw [run_def h.pick k rfl]
  have ix : idxD st' (.lst xs) (.int v) = some xs[v.toNat] := by
    show atD xs v = _
    unfold atD
    rw [if_pos h0]
    exact List.getElem?_eq_getElem (by omega)
  simp [d__law_pick, e, ix]
  rw [finish_ret' l]
theorem pow_ok (i j : Int) (h : powOk i j = true) : binD k .Pow (.int i) (.int j) = some (.int (i ^ j.toNat)) := if_pos h
theorem integer_ok (h : HasLaw T) (g : HasDr T) {i B : Nat} (hk : 43 ≤ k) (hd : Dice i B st) (hB : B ≤ 900000) :
    ∃ v st', callF T k "_law_integer" [.ref i] st = .ok (.int v) st' ∧ v ≠ 0 ∧ v.natAbs ≤ 10 ^ 19 ∧ Dice i (B + 3) st' ∧ st'.length = st.length := by
  obtain ⟨k, rfl, hk1⟩ := succ_of (j := 42) hk; clear hk; have hk := hk1; clear hk1
  obtain ⟨j1, st1, hj1, e1, d1, l1⟩ := pick_ok (k := k) h (xs := [.int 10, .int 10, .int 10, .int 100, .int (10 ^ 6), .int (10 ^ 19)]) (by omega) hd (by omega) (by decide)
  obtain ⟨m, hm, m0, m1⟩ : ∃ m : Int, ([D.int 10, .int 10, .int 10, .int 100, .int (10 ^ 6), .int (10 ^ 19)] : List D)[j1] = .int m ∧ 0 < m ∧ m ≤ 10 ^ 19 := by
    have hj1 : j1 < 6 := hj1
    match j1, hj1 with
    | 0, _ => exact ⟨_, rfl, by decide, by decide⟩
    | 1, _ => exact ⟨_, rfl, by decide, by decide⟩
    | 2, _ => exact ⟨_, rfl, by decide, by decide⟩
    | 3, _ => exact ⟨_, rfl, by decide, by decide⟩
    | 4, _ => exact ⟨_, rfl, by decide, by decide⟩
    | 5, _ => exact ⟨_, rfl, by decide, by decide⟩
  rw [hm] at e1
  obtain ⟨v, st2, e2, v0, v1, d2, l2⟩ := roll_ok (k := k) h (m := m) (by omega) d1 (by omega) m0
  obtain ⟨j2, st3, hj2, e3, d3, l3⟩ := pick_ok (k := k) h (xs := [.int 1, .int (-1)]) (by omega) d2 (by omega) (by decide)
  obtain ⟨s, hs, s0⟩ : ∃ s : Int, ([D.int 1, .int (-1)] : List D)[j2] = .int s ∧ (s = 1 ∨ s = -1) := by
    have hj2 : j2 < 2 := hj2
    match j2, hj2 with
    | 0, _ => exact ⟨_, rfl, .inl rfl⟩
    | 1, _ => exact ⟨_, rfl, .inr rfl⟩
  rw [hs] at e3
  have mm : mulOk (1 + v) s = true := mulOk_of (p := 65) (q := 1) (abs_of (m := 10 ^ 19 + 1) (by omega) (by omega) (by decide)) (by rcases s0 with rfl | rfl <;> decide) (by omega)
  have p1 : powOk 10 6 = true := by decide +kernel
  have p2 : powOk 10 19 = true := by decide +kernel
  refine ⟨(1 + v) * s, st3, ?_, ?_, ?_, d3, by omega⟩
  · rw [run_def g.integer k rfl]
    simp at e1 e2 e3
    simp [d__law_integer, p1, p2, e1, e2, e3, mm]
    rw [finish_ret' (by omega)]
  · rcases s0 with rfl | rfl <;> omega
  · rcases s0 with rfl | rfl <;> omega
theorem drawn_ok (h : HasLaw T) (g : HasDr T) (f : HasFr T) {i B : Nat} (hk : 44 ≤ k) (hd : Dice i B st) (hB : B ≤ 800000) :
    ∃ q st', callF T k "_law_drawn" [.ref i] st = .ok (frD q) st' ∧ sz q 64 ∧ Dice i (B + 7) st' ∧ st'.length = st.length := by
  obtain ⟨k, rfl, hk1⟩ := succ_of (j := 43) hk; clear hk; have hk := hk1; clear hk1
  obtain ⟨v, st1, e1, v0, v1, d1, l1⟩ := roll_ok (k := k) h (m := 6) (by omega) hd (by omega) (by decide)
  have mono : ∀ {st : Sto} {B B' : Nat}, Dice i B st → B ≤ B' → Dice i B' st := fun ⟨a, b, c, e, h0, h1⟩ hb => ⟨a, b, c, e, h0, by omega⟩
  by_cases hv : v = 0
  · subst hv
    refine ⟨0, st1, ?_, ⟨by decide, by decide⟩, mono d1 (by omega), l1⟩
    rw [run_def g.drawn k rfl]
    simp [d__law_drawn, e1, zero_fr]
    rw [finish_ret' l1]
  · obtain ⟨t, st2, e2, t0, t1, d2, l2⟩ := integer_ok (k := k) h g (by omega) d1 (by omega)
    obtain ⟨b, st3, e3, b0, b1, d3, l3⟩ := integer_ok (k := k) h g (by omega) d2 (by omega)
    have ht : t.natAbs < 2 ^ 64 := Nat.lt_of_le_of_lt t1 (by decide)
    have hb : (b.natAbs : Int).natAbs < 2 ^ 64 := by rw [Int.natAbs_natCast]; exact Nat.lt_of_le_of_lt b1 (by decide)
    have fr := law_fr_int (st := st3) (k := k) f (top := t) (bottom := b.natAbs) (by omega) ht hb (by omega) (by omega)
    refine ⟨Rat.divInt t b.natAbs, st3, ?_, sz_divInt ht hb (by omega), mono d3 (by omega), by omega⟩
    rw [run_def g.drawn k rfl]
    simp [d__law_drawn, e1, hv, e2, e3, fr]
    rw [finish_ret' (by omega)]
end
end Mu

set_option linter.all false
set_option Elab.async false
/-! How long a text of data is; the dice at their making. -/
namespace Mu
open PySem Lib

mutual
/-- no text of it is longer -/
def lenB : PyData → Nat
  | .none => 4
  | .bool _ => 5
  | .int _ => 1921
  | .str x => (reprText x).length
  | .list xs => 2 + lenBs xs
  | .tuple xs => 3 + lenBs xs
  | .dict _ => 0
def lenBs : List PyData → Nat
  | [] => 0
  | x :: xs => (lenB x + 2) + lenBs xs
end
theorem listText_len (ts : List Str) : (PySem.listText ts).length ≤ 2 + piled ts := by
  unfold PySem.listText
  rw [strLen_append]
  have e1 : ((("]" : String) : Str)).length = 1 := rfl
  rw [e1]
  cases ts with
  | nil => exact Nat.le_refl _
  | cons t r =>
    have q := textFrom_length_pos r 1 ((("[" : String) : Str) ++ ((if 0 > 0 then ", " else "" : String) : Str) ++ t) (by decide)
    have e : (textFrom 0 "[" (t :: r)).length = (textFrom 1 ((("[" : String) : Str) ++ ((if 0 > 0 then ", " else "" : String) : Str) ++ t) r).length := rfl
    rw [e, q, strLen_append, strLen_append, piled_cons]
    have e2 : ((("[" : String) : Str)).length = 1 := rfl
    have e3 : (((if 0 > 0 then ", " else "" : String) : Str)).length = 0 := rfl
    omega
theorem tupleText_len (ts : List Str) : (PySem.tupleText ts).length ≤ 3 + piled ts := by
  unfold PySem.tupleText
  rw [strLen_append, strLen_append]
  have e1 : ((("(" : String) : Str)).length = 1 := rfl
  have e3 : (((if ts.length == 1 then ",)" else ")" : String) : Str)).length ≤ 2 := by split <;> decide
  by_cases h : ts = []
  · subst h
    have e4 : (Str.join ", " ([] : List Str)).length = 0 := rfl
    omega
  · have := join_length_add ts h
    omega
mutual
theorem shown_len : ∀ (d : D), d.plain = true → d.py.showable = true → d.py.shown.length ≤ lenB d.py
  | .non, _, _ => by simp only [D.py, PyData.shown, lenB]; decide
  | .bl b, _, _ => by cases b <;> (simp only [D.py, PyData.shown, lenB]; decide)
  | .int i, _, h => by
    simp only [D.py, PyData.showable] at h
    simp only [D.py, PyData.shown, lenB]
    rw [ofString_length]
    exact int_text_length_le (by decide) (of_decide_eq_true h)
  | .str x, _, _ => by simp only [D.py, PyData.shown, lenB]; exact Nat.le_refl _
  | .tup xs, h, s => by
    simp only [D.plain] at h
    simp only [D.py, PyData.showable] at s
    simp only [D.py, PyData.shown, lenB]
    exact Nat.le_trans (tupleText_len _) (Nat.add_le_add_left (shown_lens xs h s) _)
  | .lst xs, h, s => by
    simp only [D.plain] at h
    simp only [D.py, PyData.showable] at s
    simp only [D.py, PyData.shown, lenB]
    exact Nat.le_trans (listText_len _) (Nat.add_le_add_left (shown_lens xs h s) _)
  | .rol _, h, _ => by simp [D.plain] at h
  | .ty _, h, _ => by simp [D.plain] at h
  | .fn _, h, _ => by simp [D.plain] at h
  | .ref _, h, _ => by simp [D.plain] at h
theorem shown_lens : ∀ (ds : List D), D.plains ds = true → PyData.showableAll (D.pys ds) = true → piled (PyData.shownAll (D.pys ds)) ≤ lenBs (D.pys ds)
  | [], _, _ => by simp [D.pys, PyData.shownAll, lenBs, piled]
  | x :: xs, h, s => by
    simp only [D.plains, Bool.and_eq_true] at h
    simp only [D.pys, PyData.showableAll, Bool.and_eq_true] at s
    simp only [D.pys, PyData.shownAll, lenBs, piled_cons]
    have a := shown_len x h.1 s.1
    have b := shown_lens xs h.2 s.2
    omega
end
theorem reprD_ok {d : D} (hp : d.plain = true) (hs : d.py.showable = true) (hl : lenB d.py ≤ 16777216) (hd : d.py.depth ≤ 60) : reprD d = some d.py.shown := by
  have l := shown_len d hp hs
  unfold reprD
  rw [hp, hs, if_pos]
  simp only [Bool.true_and, Bool.and_eq_true, decide_eq_true_eq]
  exact ⟨Nat.le_trans l (by rw [sizeLine_eq]; exact hl), hd⟩
/-- small enough to be shown -/
theorem show_of {i : Int} {n : Nat} (h : i.natAbs < 2 ^ n) (hn : n ≤ 1000) : i.natAbs.log2 < 1920 := by
  by_cases h0 : i.natAbs = 0
  · rw [h0]
    decide
  · have := (Nat.log2_lt h0).mpr h
    omega
theorem plain_frD (a : Rat) : (frD a).plain = true := by simp [frD, D.plain, D.plains]
theorem showable_fr {a : Rat} {n : Nat} (h : sz a n) (hn : n ≤ 1000) : (frD a).py.showable = true := by
  have h1 := show_of h.1 hn
  have h2 := show_of (den_abs h.2) hn
  simp at h2
  simp [frD, D.py, D.pys, PyData.showable, PyData.showableAll, h1, h2]
theorem lenB_fr (a : Rat) : lenB (frD a).py = 3849 := by simp [frD, D.py, D.pys, lenB, lenBs]
theorem depth_fr (a : Rat) : (frD a).py.depth = (frD 0).py.depth := rfl
section
variable {T : Tab} {st : Sto} {k : Nat}
theorem repr_fr {a : Rat} {n : Nat} (h : sz a n) (hn : n ≤ 1000) : reprL [frD a] st = some (.str (frD a).py.shown) := by
  show (reprD (frD a)).map D.str = _
  rw [reprD_ok (plain_frD a) (showable_fr h hn) (by rw [lenB_fr]; decide) (by rw [depth_fr]; decide)]
  rfl
theorem repr_frs4 {a b c d : Rat} {n : Nat} (ha : sz a n) (hb : sz b n) (hc : sz c n) (hd : sz d n) (hn : n ≤ 1000) : reprL [.lst [frD a, frD b, frD c, frD d]] st = some (.str (D.lst [frD a, frD b, frD c, frD d]).py.shown) := by
  show (reprD _).map D.str = _
  rw [reprD_ok]
  · rfl
  · simp [D.plain, D.plains, plain_frD]
  · simp [D.py, D.pys, PyData.showable, PyData.showableAll, showable_fr ha hn, showable_fr hb hn, showable_fr hc hn, showable_fr hd hn]
  · simp [D.py, D.pys, lenB, lenBs, lenB_fr]
  · rw [show (D.lst [frD a, frD b, frD c, frD d]).py.depth = (D.lst [frD 0, frD 0, frD 0, frD 0]).py.depth from rfl]
    decide
theorem great_ev {C : Cf} {r : D} {s c : Int} (p1 : powOk 10 53 = true) (p2 : powOk (10 ^ 53) 6 = true) : ev C 59 (.bin .Mod (.blt "int" [.blt "abs" [.var 2]]) (.bin .Pow (.bin .Pow (.lit (.int 10)) (.lit (.int 53))) (.lit (.int 6)))) [some r, some (.int s), some (.int c), none, none] st = .ok (.int ((c.natAbs : Int).fmod ((10 ^ 53) ^ 6))) st := by
  have e1 : binD C.k .Pow (.int 10) (.int 53) = some (.int (10 ^ 53)) := pow_ok 10 53 p1
  have e2 : binD C.k .Pow (.int (10 ^ 53)) (.int 6) = some (.int ((10 ^ 53) ^ 6)) := pow_ok (10 ^ 53) 6 p2
  have e3 : ∀ i j : Int, j ≠ 0 → binD C.k .Mod (.int i) (.int j) = some (.int (i.fmod j)) := fun i j h => if_neg h
  simp only [ev_bin, ev_blt, ev_lit, ev_var, evL_cons, evL_nil, at_zero, at_succ, Res.of_some, Res.bind_ok, b_abs, b_int, abs_int, int_int, e1, e2, e3 _ _ (show ((10 : Int) ^ 53) ^ 6 ≠ 0 by decide)]
theorem dice_ok (h : HasLaw T) {ns : List Int} {s : Int} (hk : 1 ≤ k) (h0 : 0 ≤ s) (h1 : s < 1000) :
    ∃ st', callF T k "_law_dice" [.rol (ns.map D.int), .int s] st = .ok (.ref st.length) st' ∧ Dice st.length 0 st' := by
  obtain ⟨k, rfl, hk1⟩ := succ_of hk; clear hk; have hk := hk1; clear hk1
  rw [run_def h.dice k rfl]
  obtain ⟨c, hc⟩ : ∃ c : Int, c = (if s < (ns.length : Int) then ns.getD s.toNat 0 else 131 * s + 37) := ⟨_, rfl⟩
  obtain ⟨g, hg⟩ : ∃ g : Int, g = (c.natAbs : Int).fmod ((10 ^ 53) ^ 6) := ⟨_, rfl⟩
  obtain ⟨p, hp⟩ : ∃ p : Int, p = g.fmod 2305843009213693907 := ⟨_, rfl⟩
  have bp : 0 ≤ p ∧ p < 2305843009213693907 := by rw [hp]; exact fmod_lt (by decide)
  have m1 : mulOk 131 s = true := mulOk_of (p := 8) (q := 10) (by decide) (abs_of h0 h1 (by decide)) (by omega)
  have m2 : mulOk p 73 = true := mulOk_of (p := 62) (q := 8) (abs_of bp.1 bp.2 (by decide)) (by decide) (by omega)
  have m3 : mulOk 619 s = true := mulOk_of (p := 10) (q := 10) (by decide) (abs_of h0 h1 (by decide)) (by omega)
  have m4 : mulOk 41 (if c < 0 then 1 else 0) = true := by split <;> decide
  have p1 : powOk 10 53 = true := by decide +kernel
  have p2 : powOk (10 ^ 53) 6 = true := by decide +kernel
  have p3 : powOk 10 16 = true := by decide +kernel
  have cell : ∀ C : Cf, ev C 59 (.ite (.cmp .Lt (.var 1) (.blt "len" [.var 0])) (.blt "int" [.idx (.var 0) (.var 1)]) (.bin .Add (.bin .Mult (.lit (.int 131)) (.var 1)) (.lit (.int 37)))) [some (.rol (ns.map D.int)), some (.int s), none, none, none] st = .ok (.int c) st := by
    intro C
    by_cases hlt : s < (ns.length : Int)
    · have ix : idxD st (.rol (ns.map D.int)) (.int s) = some (.int c) := by
        show atD (ns.map D.int) s = _
        unfold atD
        rw [if_pos h0, List.getElem?_map, hc, if_pos hlt, List.getElem?_eq_getElem (by omega), List.getD_eq_getElem?_getD, List.getElem?_eq_getElem (by omega)]
        rfl
      simp [hlt, ix]
    · rw [hc, if_neg hlt]
      simp [hlt, m1]
  refine ⟨st ++ [.lst [.int (if g - 10 ^ 16 > 0 then g - 10 ^ 16 else 0), .int (p * 73 + 619 * s + 41 * (if c < 0 then 1 else 0) + 17), .int 0]], ?_, ⟨_, _, _, by rw [List.getElem?_append_right (Nat.le_refl _), Nat.sub_self]; rfl, by decide, by decide⟩⟩
  have e0 : ([D.rol (ns.map D.int), .int s].map some ++ List.replicate (d__law_dice.names.length - [D.rol (ns.map D.int), .int s].length) none : Env) = [some (.rol (ns.map D.int)), some (.int s), none, none, none] := rfl
  rw [e0]
  have mx : ∀ i j : Int, maxD [.int i, .int j] st = some (.int (if j > i then j else i)) := fun _ _ => rfl
  have fin : ∀ (d : D) (x : O), D.low st.length d = false → finish st.length (.ret d (st ++ [x])) = .ok d (st ++ [x]) := fun d x hd => by
    show trim _ _ _ = _
    unfold trim
    rw [hd]
    rfl
  have great : ∀ C : Cf, ev C 59 (.bin .Mod (.blt "int" [.blt "abs" [.var 2]]) (.bin .Pow (.bin .Pow (.lit (.int 10)) (.lit (.int 53))) (.lit (.int 6)))) [some (.rol (ns.map D.int)), some (.int s), some (.int c), none, none] st = .ok (.int g) st := by
    intro C
    rw [hg]
    exact great_ev p1 p2
  have seed : ∀ C : Cf, ev C 59 (.bin .Add (.bin .Add (.bin .Add (.bin .Mult (.bin .Mod (.var 3) (.lit (.int 2305843009213693907))) (.lit (.int 73))) (.bin .Mult (.lit (.int 619)) (.var 1))) (.bin .Mult (.lit (.int 41)) (.blt "int" [.cmp .Lt (.var 2) (.lit (.int 0))]))) (.lit (.int 17)))
      [some (.rol (ns.map D.int)), some (.int s), some (.int c), some (.int g), none] st = .ok (.int (p * 73 + 619 * s + 41 * (if c < 0 then 1 else 0) + 17)) st := by
    intro C
    simp [← hp, m2, m3, m4]
  simp only [d__law_dice, exL_cons, exL_nil, deep_eq, ex_asg, ex_ret, cell, great, seed, Res.run_ok, tgD_name, Res.still_ok, SR.then_next, List.set_cons_zero, List.set_cons_succ]
  simp [p3, mx]
  rw [fin _ _ (by simp [D.low])]
end
end Mu

set_option linter.all false
set_option Elab.async false
set_option maxRecDepth 100000
/-! The defs of the law's text, printed for the interpreter by gen.py. -/
namespace L21
open PySem L2 Mu
def top (i : Nat) : Stmt := PySem.Challenge.pw_dearturns_k21_whole_numbers.main.body.getD i (.Pass ⟨0, 0, 0, 0⟩)
abbrev d_is_integer : Fd := Lib.d_is_integer
abbrev d_common_divisor : Fd := Lib.d_common_divisor
abbrev d_is_number : Fd := Lib.d_is_number
abbrev d_reduced : Fd := Lib.d_reduced
abbrev d_number : Fd := Lib.d_number
abbrev d_require_number : Fd := Lib.d_require_number
abbrev d_require_count : Fd := Lib.d_require_count
abbrev d_added : Fd := Lib.d_added
abbrev d_multiplied : Fd := Lib.d_multiplied
abbrev d_opposite : Fd := Lib.d_opposite
abbrev d_divided : Fd := Lib.d_divided
abbrev d_sum_of : Fd := Lib.d_sum_of
abbrev d_plus : Fd := Lib.d_plus
abbrev d_minus : Fd := Lib.d_minus
abbrev d_times : Fd := Lib.d_times
abbrev d_over : Fd := Lib.d_over
abbrev d_compared : Fd := Lib.d_compared
abbrev d_total : Fd := Lib.d_total
abbrev d_power : Fd := Lib.d_power
abbrev d__law_dice : Fd := Lib.d__law_dice
abbrev d__law_roll : Fd := Lib.d__law_roll
abbrev d__law_pick : Fd := Lib.d__law_pick
abbrev d__law_fr : Fd := Lib.d__law_fr
abbrev d__law_plus : Fd := Lib.d__law_plus
abbrev d__law_times : Fd := Lib.d__law_times
abbrev d__law_minus : Fd := Lib.d__law_minus
abbrev d__law_integer : Fd := Lib.d__law_integer
abbrev d__law_drawn : Fd := Lib.d__law_drawn
def s__law_right_0 : S :=
  .par [1, 2, 3] [.call "_law_drawn" [.var 0], .call "_law_drawn" [.var 0], .call "_law_drawn" [.var 0]]
def s__law_right_1 : S :=
  .asg (.name 4) (.lst [.call "plus" [.var 1, .var 2], .call "minus" [.var 1, .var 2], .call "times" [.var 1, .var 2],
      .call "plus" [.call "minus" [.var 1, .var 2], .var 2]])
def s__law_right_2 : S :=
  .ite (.cmp .NotEq (.blt "repr" [.var 4]) (.blt "repr" [.lst [.call "_law_plus" [.var 1, .var 2], .call "_law_minus" [.var 1, .var 2],
      .call "_law_times" [.var 1, .var 2], .var 1]])) [.ret (.lit (.bl false))] []
def s__law_right_3 : S :=
  .ite (.cmp .NotEq (.idx (.var 2) (.lit (.int 0))) (.lit (.int 0))) [.asg (.name 5) (.call "_law_fr" [.bin .Mult (.idx (.var 1) (.lit (.int 0))) (.idx (.var 2) (.lit (.int 1))),
      .bin .Mult (.idx (.var 1) (.lit (.int 1))) (.idx (.var 2) (.lit (.int 0)))]), .ite (.or (.cmp .NotEq (.blt "repr" [.call "over" [.var 1,
      .var 2]]) (.blt "repr" [.var 5])) (.cmp .NotEq (.call "times" [.call "over" [.var 1, .var 2], .var 2]) (.var 1))) [.ret (.lit (.bl false))] []] []
def s__law_right_4 : S :=
  .par [6, 7] [.bin .Mult (.idx (.var 1) (.lit (.int 0))) (.idx (.var 2) (.lit (.int 1))),
      .bin .Mult (.idx (.var 2) (.lit (.int 0))) (.idx (.var 1) (.lit (.int 1)))]
def s__law_right_5 : S :=
  .ite (.or (.cmp .NotEq (.call "compared" [.var 1,
      .var 2]) (.bin .Sub (.blt "int" [.cmp .Gt (.var 6) (.var 7)]) (.blt "int" [.cmp .Lt (.var 6) (.var 7)]))) (.cmp .NotEq (.call "compared" [.var 1,
      .var 1]) (.lit (.int 0)))) [.ret (.lit (.bl false))] []
def s__law_right_6 : S :=
  .ite (.cmp .NotEq (.call "times" [.call "plus" [.var 1, .var 2], .var 3]) (.call "plus" [.call "times" [.var 1, .var 3], .call "times" [.var 2,
      .var 3]])) [.ret (.lit (.bl false))] []
def s__law_right_7 : S :=
  .par [8, 5] [.comp false (.call "_law_drawn" [.var 0]) (.name 11) (.rng [.call "_law_roll" [.var 0, .lit (.int 6)]]) none [("turn", 11)],
      .tup [.lit (.int 0), .lit (.int 1)]]
def s__law_right_8 : S :=
  .for_ (.name 9) (.seq (.var 8)) [.asg (.name 5) (.call "_law_plus" [.var 5, .var 9])]
def s__law_right_9 : S :=
  .ite (.or (.cmp .NotEq (.call "total" [.blt "tuple" [.var 8]]) (.var 5)) (.cmp .NotEq (.call "total" [.blt "tuple" [.rev (.var 8)]]) (.var 5))) [.ret (.lit (.bl false))] []
def s__law_right_10 : S :=
  .par [10, 5] [.call "_law_roll" [.var 0, .lit (.int 7)], .tup [.lit (.int 1), .lit (.int 1)]]
def s__law_right_11 : S :=
  .for_ (.name 11) (.rng [.var 10]) [.asg (.name 5) (.call "_law_times" [.var 5, .var 1])]
def s__law_right_12 : S :=
  .ite (.or (.cmp .NotEq (.call "power" [.var 1, .var 10]) (.var 5)) (.cmp .NotEq (.call "power" [.var 1, .lit (.int 0)]) (.tup [.lit (.int 1),
      .lit (.int 1)]))) [.ret (.lit (.bl false))] []
def s__law_right_13 : S :=
  .par [12, 13] [.call "_law_pick" [.var 0, .lst [.lit (.int 0), .call "_law_integer" [.var 0]]], .call "_law_integer" [.var 0]]
def s__law_right_14 : S :=
  .ret (.and (.cmp .Eq (.call "number" [.var 12, .var 13]) (.call "_law_fr" [.var 12,
      .var 13])) (.cmp .Eq (.blt "repr" [.call "number" [.var 12]]) (.blt "repr" [.tup [.var 12, .lit (.int 1)]])))
def d__law_right : Fd where
  name := "_law_right"
  names := ["dice", "one", "other", "third", "told", "due", "left", "right", "row", "item", "many", "turn", "top", "bottom"]
  ps := ["dice"]
  dft := []
  body := [s__law_right_0, s__law_right_1, s__law_right_2, s__law_right_3, s__law_right_4, s__law_right_5, s__law_right_6, s__law_right_7, s__law_right_8,
      s__law_right_9, s__law_right_10, s__law_right_11, s__law_right_12, s__law_right_13, s__law_right_14]
def s_law_0 : S :=
  .for_ (.name 1) (.rng [.blt "max" [.lit (.int 1), .blt "min" [.lit (.int 6), .blt "len" [.var 0]]]]) [.asg (.name 2) (.call "_law_dice" [.var 0,
      .var 1]), .for_ (.name 3) (.rng [.lit (.int 3)]) [.ite (.not (.call "_law_right" [.var 2])) [.ret (.lit (.bl false))] []]]
def s_law_1 : S :=
  .asg (.name 4) (.tup [.bin .Add (.bin .Pow (.lit (.int 10)) (.lit (.int 60))) (.lit (.int 1)),
      .bin .Add (.bin .Pow (.lit (.int 10)) (.lit (.int 59))) (.lit (.int 3))])
def s_law_2 : S :=
  .asg (.name 5) (.lst [.cmp .Eq (.call "plus" [.var 4, .tup [.lit (.int 1), .lit (.int 3)]]) (.call "_law_plus" [.var 4, .tup [.lit (.int 1),
      .lit (.int 3)]]), .cmp .Eq (.call "power" [.tup [.neg (.lit (.int 1)), .lit (.int 2)], .lit (.int 60)]) (.tup [.lit (.int 1),
      .lit (.int 1152921504606846976)])])
def s_law_3 : S :=
  .asg (.name 5) (.bin .Add (.var 5) (.lst [.call "number" [.bin .Pow (.lit (.int 10)) (.lit (.int 39)),
      .neg (.bin .Pow (.lit (.int 10)) (.lit (.int 39)))], .call "number" [.neg (.lit (.int 6)), .lit (.int 4)], .call "total" [.tup []],
      .call "compared" [.tup [.neg (.lit (.int 1)), .lit (.int 2)], .tup [.neg (.lit (.int 1)), .lit (.int 3)]]]))
def s_law_4 : S :=
  .ret (.cmp .Eq (.var 5) (.lst [.lit (.bl true), .lit (.bl true), .tup [.neg (.lit (.int 1)), .lit (.int 1)], .tup [.neg (.lit (.int 3)),
      .lit (.int 2)], .tup [.lit (.int 0), .lit (.int 1)], .neg (.lit (.int 1))]))
def d_law : Fd where
  name := "law"
  names := ["script", "spot", "dice", "turn", "great", "told"]
  ps := ["script"]
  dft := []
  body := [s_law_0, s_law_1, s_law_2, s_law_3, s_law_4]
def con : List (Str × D) :=
  [("NOUGHT", .tup [.int 0, .int 1]), ("ONE", .tup [.int 1, .int 1]), ("MOST_PASSED", .int 10000000000000000000000000000000000000000)]
def T : Tab where
  fns := [d_is_integer, d_common_divisor, d_is_number, d_reduced, d_number, d_require_number, d_require_count, d_added, d_multiplied, d_opposite, d_divided,
      d_sum_of, d_plus, d_minus, d_times, d_over, d_compared, d_total, d_power, d__law_dice, d__law_roll, d__law_pick, d__law_fr, d__law_plus,
      d__law_times, d__law_minus, d__law_integer, d__law_drawn, d__law_right, d_law]
  con := fun x => con.lookup x
theorem c_is_integer : fdB T d_is_integer (top 10) = true := by decide +kernel
theorem c_common_divisor : fdB T d_common_divisor (top 11) = true := by decide +kernel
theorem c_is_number : fdB T d_is_number (top 12) = true := by decide +kernel
theorem c_reduced : fdB T d_reduced (top 13) = true := by decide +kernel
theorem c_number : fdB T d_number (top 14) = true := by decide +kernel
theorem c_require_number : fdB T d_require_number (top 15) = true := by decide +kernel
theorem c_require_count : fdB T d_require_count (top 16) = true := by decide +kernel
theorem c_added : fdB T d_added (top 17) = true := by decide +kernel
theorem c_multiplied : fdB T d_multiplied (top 18) = true := by decide +kernel
theorem c_opposite : fdB T d_opposite (top 19) = true := by decide +kernel
theorem c_divided : fdB T d_divided (top 20) = true := by decide +kernel
theorem c_sum_of : fdB T d_sum_of (top 21) = true := by decide +kernel
theorem c_plus : fdB T d_plus (top 22) = true := by decide +kernel
theorem c_minus : fdB T d_minus (top 23) = true := by decide +kernel
theorem c_times : fdB T d_times (top 24) = true := by decide +kernel
theorem c_over : fdB T d_over (top 25) = true := by decide +kernel
theorem c_compared : fdB T d_compared (top 26) = true := by decide +kernel
theorem c_total : fdB T d_total (top 27) = true := by decide +kernel
theorem c_power : fdB T d_power (top 28) = true := by decide +kernel
theorem c__law_dice : fdB T d__law_dice (top 30) = true := by decide +kernel
theorem c__law_roll : fdB T d__law_roll (top 31) = true := by decide +kernel
theorem c__law_pick : fdB T d__law_pick (top 32) = true := by decide +kernel
theorem c__law_fr : fdB T d__law_fr (top 33) = true := by decide +kernel
theorem c__law_plus : fdB T d__law_plus (top 34) = true := by decide +kernel
theorem c__law_times : fdB T d__law_times (top 35) = true := by decide +kernel
theorem c__law_minus : fdB T d__law_minus (top 36) = true := by decide +kernel
theorem c__law_integer : fdB T d__law_integer (top 37) = true := by decide +kernel
theorem c__law_drawn : fdB T d__law_drawn (top 38) = true := by decide +kernel
theorem c__law_right : fdB T d__law_right (top 39) = true := by decide +kernel
theorem c_law : fdB T d_law (top 40) = true := by decide +kernel
end L21

set_option linter.all false
set_option Elab.async false
namespace L21
open PySem Mu
theorem hN : HasNum T := ⟨rfl, rfl, rfl, rfl, rfl, rfl, rfl, rfl, rfl, rfl, rfl, rfl, rfl, rfl, rfl, rfl, rfl, rfl, rfl, rfl, rfl, rfl⟩
theorem hL : HasLaw T := ⟨rfl, rfl, rfl⟩
theorem hF : HasFr T := ⟨rfl, rfl, rfl, rfl⟩
theorem hD : HasDr T := ⟨rfl, rfl⟩
theorem exL_step {f : S → Mu.Env → Sto → SR} {s : S} {ss : List S} {env env' : Mu.Env} {st st' : Sto} (h : f s env st = .next env' st') : exL f (s :: ss) env st = exL f ss env' st' := by
  rw [exL_cons, h]
  rfl
theorem exL_ret {f : S → Mu.Env → Sto → SR} {s : S} {ss : List S} {env : Mu.Env} {st st' : Sto} {d : D} (h : f s env st = .ret d st') : exL f (s :: ss) env st = .ret d st' := by
  rw [exL_cons, h]
  rfl
theorem mono {i : Nat} {st : Sto} {B B' : Nat} (h : Dice i B st) (hb : B ≤ B') : Dice i B' st := by
  obtain ⟨a, b, c, e, h0, h1⟩ := h
  exact ⟨a, b, c, e, h0, by omega⟩
/-! ### sums the other way round -/
theorem sum_app (a : Rat) : ∀ l : List Rat, l.foldl (· + ·) a = a + l.foldl (· + ·) 0
  | [] => by simp [Rat.add_zero]
  | x :: l => by
    show l.foldl (· + ·) (a + x) = a + l.foldl (· + ·) (0 + x)
    rw [sum_app (a + x) l, sum_app (0 + x) l, Rat.zero_add, Rat.add_assoc]
theorem sum_rev : ∀ l : List Rat, l.reverse.foldl (· + ·) 0 = l.foldl (· + ·) 0
  | [] => rfl
  | x :: l => by
    rw [List.reverse_cons, List.foldl_append, sum_rev l]
    show l.foldl (· + ·) 0 + x = l.foldl (· + ·) (0 + x)
    rw [sum_app (0 + x) l, Rat.zero_add, Rat.add_comm]
section
variable {k i : Nat} {st : Sto} {q1 q2 q3 : Rat}
abbrev C (k : Nat) : Cf := { k := k, call := callF T k, con := T.con }
theorem s1 (hk : 45 ≤ k) (h1 : sz q1 64) (h2 : sz q2 64) (h3 : sz q3 64) (i : D) :
    ex (C k) 60 s__law_right_1 [some i, some (frD q1), some (frD q2), some (frD q3), none, none, none, none, none, none, none, none, none, none] st =
      .next [some i, some (frD q1), some (frD q2), some (frD q3), some (.lst [frD (q1 + q2), frD (q1 - q2), frD (q1 * q2), frD q1]), none, none, none, none, none, none, none, none, none] st := by
  have e1 := plus_fr (k := k) (st := st) hN (by omega) h1 h2 (by omega)
  have e2 := minus_fr (k := k) (st := st) hN (by omega) h1 h2 (by omega)
  have e3 := times_fr (k := k) (st := st) hN (by omega) h1 h2 (by omega)
  have e4 := plus_fr (k := k) (st := st) hN (by omega) (sz_sub h1 h2) (h2.mono (m := 64 + 64 + 1) (by omega)) (by omega)
  rw [Rat.sub_add_cancel] at e4
  simp [s__law_right_1, e1, e2, e3, e4]
theorem s2 (hk : 45 ≤ k) (h1 : sz q1 64) (h2 : sz q2 64) (h3 : sz q3 64) (i : D) {o5 o6 o7 o8 o9 o10 o11 o12 o13 : Option D} {env : Mu.Env} (he : env = [some i, some (frD q1), some (frD q2), some (frD q3), some (.lst [frD (q1 + q2), frD (q1 - q2), frD (q1 * q2), frD q1]), o5, o6, o7, o8, o9, o10, o11, o12, o13]) :
    ex (C k) 60 s__law_right_2 env st = .next env st := by
  subst he
  have e1 := law_plus_fr (k := k) (st := st) hF (by omega) h1 h2 (by omega)
  have e2 := law_minus_fr (k := k) (st := st) hF (by omega) h1 h2 (by omega)
  have e3 := law_times_fr (k := k) (st := st) hF (by omega) h1 h2 (by omega)
  have r := repr_frs4 (st := st) (n := 129) (sz_add h1 h2) (sz_sub h1 h2) ((sz_mul h1 h2).mono (by omega)) (h1.mono (by omega)) (by omega)
  simp [s__law_right_2, e1, e2, e3, r]
theorem idx0 (a : Rat) : idxD st (frD a) (.int 0) = some (.int a.num) := rfl
theorem idx1 (a : Rat) : idxD st (frD a) (.int 1) = some (.int a.den) := rfl
theorem s3 (hk : 45 ≤ k) (h1 : sz q1 64) (h2 : sz q2 64) (h3 : sz q3 64) (i : D) {o4 o6 o7 o8 o9 o10 o11 o12 o13 : Option D} :
    ∃ o5, ex (C k) 60 s__law_right_3 [some i, some (frD q1), some (frD q2), some (frD q3), o4, none, o6, o7, o8, o9, o10, o11, o12, o13] st = .next [some i, some (frD q1), some (frD q2), some (frD q3), o4, o5, o6, o7, o8, o9, o10, o11, o12, o13] st := by
  by_cases h0 : q2 = 0
  · refine ⟨none, ?_⟩
    simp [s__law_right_3, idx0, h0]
  · have hn := num_ne h0
    have e1 := over_fr (k := k) (st := st) hN (by omega) h1 h2 (by omega) h0
    have e2 := times_fr (k := k) (st := st) hN (by omega) (sz_div h1 h2 h0) (h2.mono (m := 64 + 64) (by omega)) (by omega)
    rw [Rat.div_mul_cancel h0] at e2
    have e3 := law_fr_int (k := k) (st := st) hF (by omega) (abs_mul h1.1 (den_abs h2.2)) (abs_mul (den_abs h1.2) h2.1) (by omega) (Int.mul_ne_zero (den_ne q1) hn)
    rw [← div_div] at e3
    have r := repr_fr (st := st) (sz_div h1 h2 h0) (by omega)
    have m1 : mulOk q1.num q2.den = true := mulOk_of h1.1 (den_abs h2.2) (by omega)
    have m2 : mulOk q1.den q2.num = true := mulOk_of (den_abs h1.2) h2.1 (by omega)
    refine ⟨some (frD (q1 / q2)), ?_⟩
    simp [s__law_right_3, idx0, idx1, hn, e1, e2, e3, r, m1, m2, cmp_ne_fr]
theorem s4 (h1 : sz q1 64) (h2 : sz q2 64) (i : D) {o3 o4 o5 o6 o7 o8 o9 o10 o11 o12 o13 : Option D} :
    ex (C k) 60 s__law_right_4 [some i, some (frD q1), some (frD q2), o3, o4, o5, o6, o7, o8, o9, o10, o11, o12, o13] st = .next [some i, some (frD q1), some (frD q2), o3, o4, o5, some (.int (q1.num * q2.den)), some (.int (q2.num * q1.den)), o8, o9, o10, o11, o12, o13] st := by
  have m1 : mulOk q1.num q2.den = true := mulOk_of h1.1 (den_abs h2.2) (by omega)
  have m2 : mulOk q2.num q1.den = true := mulOk_of h2.1 (den_abs h1.2) (by omega)
  simp [s__law_right_4, idx0, idx1, m1, m2]
theorem s5 (hk : 45 ≤ k) (h1 : sz q1 64) (h2 : sz q2 64) (i : D) {o3 o4 o5 o8 o9 o10 o11 o12 o13 : Option D} {env : Mu.Env} (he : env = [some i, some (frD q1), some (frD q2), o3, o4, o5, some (.int (q1.num * q2.den)), some (.int (q2.num * q1.den)), o8, o9, o10, o11, o12, o13]) :
    ex (C k) 60 s__law_right_5 env st = .next env st := by
  subst he
  have e1 := compared_fr (k := k) (st := st) hN (by omega) h1 h2 (by omega)
  have e2 := compared_fr (k := k) (st := st) hN (by omega) h1 h1 (by omega)
  have z : cmpQ (q1.num * q1.den) (q1.num * q1.den) = 0 := by simp [cmpQ]
  rw [z] at e2
  simp [s__law_right_5, e1, e2]
  simp [cmpQ]
theorem s6 (hk : 45 ≤ k) (h1 : sz q1 64) (h2 : sz q2 64) (h3 : sz q3 64) (i : D) {o4 o5 o6 o7 o8 o9 o10 o11 o12 o13 : Option D} {env : Mu.Env} (he : env = [some i, some (frD q1), some (frD q2), some (frD q3), o4, o5, o6, o7, o8, o9, o10, o11, o12, o13]) :
    ex (C k) 60 s__law_right_6 env st = .next env st := by
  subst he
  have e1 := plus_fr (k := k) (st := st) hN (by omega) h1 h2 (by omega)
  have e2 := times_fr (k := k) (st := st) hN (by omega) (sz_add h1 h2) (h3.mono (m := 64 + 64 + 1) (by omega)) (by omega)
  have e3 := times_fr (k := k) (st := st) hN (by omega) h1 h3 (by omega)
  have e4 := times_fr (k := k) (st := st) hN (by omega) h2 h3 (by omega)
  have e5 := plus_fr (k := k) (st := st) hN (by omega) (sz_mul h1 h3) (sz_mul h2 h3) (by omega)
  rw [← Rat.add_mul] at e5
  simp [s__law_right_6, e1, e2, e3, e4, e5, cmp_ne_fr]

theorem compL_ok {f : D → Sto → Res (Option D)} {xs : List D} (P : Nat → List D → Sto → Prop) (h : ∀ i x acc st, xs[i]? = some x → P i acc st → ∃ d st', f x st = .ok (some d) st' ∧ acc.length < 16777216 ∧ P (i + 1) (acc ++ [d]) st') :
    ∀ {acc : List D} {st : Sto}, P 0 acc st → ∃ ds st', compL f xs acc st = .ok ds st' ∧ P xs.length ds st' := by
  induction xs generalizing P with
  | nil => exact fun {acc st} p => ⟨acc, st, rfl, p⟩
  | cons x xs ih =>
    intro acc st p
    obtain ⟨d, st1, e, hl, p1⟩ := h 0 x acc st rfl p
    obtain ⟨ds, st2, e2, p2⟩ := ih (fun i => P (i + 1)) (fun i y acc st hy q => h (i + 1) y acc st (by rw [List.getElem?_cons_succ]; exact hy) q) p1
    refine ⟨ds, st2, ?_, p2⟩
    unfold compL
    rw [e, Res.bind_ok]
    simp only
    rw [if_pos (show acc.length < sizeLine by rw [Mu.sizeLine_eq]; exact hl)]
    exact e2
theorem row_ok (hk : 45 ≤ k) {j B : Nat} (hd : Dice j B st) (hB : B ≤ 700000) {o1 o2 o3 o4 o5 o6 o7 o8 o9 o10 o11 o12 o13 : Option D} {env : Mu.Env} (he : env = [some (.ref j), o1, o2, o3, o4, o5, o6, o7, o8, o9, o10, o11, o12, o13]) :
    ∃ (qs : List Rat) (st' : Sto), ev (C k) 59 (.comp false (.call "_law_drawn" [.var 0]) (.name 11) (.rng [.call "_law_roll" [.var 0, .lit (.int 6)]]) none [("turn", 11)]) env st = .ok (.lst (qs.map frD)) st' ∧
      qs.length ≤ 5 ∧ (∀ q ∈ qs, sz q 64) ∧ Dice j (B + 50) st' ∧ st'.length = st.length := by
  obtain ⟨v, st1, e1, v0, v1, d1, l1⟩ := roll_ok (k := k) hL (m := 6) (by omega) hd (by omega) (by decide)
  have hlen : (intsD 0 v.toNat).length = v.toNat := intsD_len
  obtain ⟨ds, st2, e, qs, rfl, hq, hz, d2, l2⟩ := compL_ok (f := turnC (fun x env st => tgD (fun e env st => ev (C k) 58 e env st) (.name 11) x env st) (condT (fun c env st => evT (C k) 58 c env st) none) (fun env st => ev (C k) 58 (.call "_law_drawn" [.var 0]) env st) [11] env)
    (xs := intsD 0 v.toNat) (fun m acc st' => ∃ qs : List Rat, acc = qs.map frD ∧ qs.length = m ∧ (∀ q ∈ qs, sz q 64) ∧ Dice j (B + 1 + 7 * m) st' ∧ st'.length = st.length) (by
      rintro m x acc st' hx ⟨qs, rfl, hq, hz, d, l⟩
      obtain ⟨hm, rfl⟩ := intsD_at hx
      obtain ⟨q, st2, e2, z2, d2, l2⟩ := drawn_ok (k := k) hL hD hF (by omega) d (by omega)
      refine ⟨frD q, st2, ?_, by simp; omega, qs ++ [q], by simp, by simp [hq], fun r hr => ?_, mono d2 (by omega), by omega⟩
      · subst he
        simp [turnC, condT, wipeE, e2]
      · rcases List.mem_append.mp hr with hr | hr
        · exact hz r hr
        · rw [List.mem_singleton.mp hr]
          exact z2) (acc := []) (st := st1) ⟨[], rfl, rfl, by simp, mono d1 (by omega), l1⟩
  rw [hlen] at hq d2
  refine ⟨qs, st2, ?_, by omega, hz, mono d2 (by omega), l2⟩
  rw [ev_comp]
  unfold compR
  have it : itD (fun e st => ev (C k) 58 e env st) (.rng [.call "_law_roll" [.var 0, .lit (.int 6)]]) st = .ok (intsD 0 v.toNat) st1 := by
    subst he
    simp [e1, rng1 (m := v) (by omega)]
  simp only [it, Res.bind_ok, List.map_cons, List.map_nil, e, Bool.false_eq_true, if_false]
theorem s8 (hk : 45 ≤ k) {qs : List Rat} (hl : qs.length ≤ 5) (hq : ∀ q ∈ qs, sz q 64) {o0 o1 o2 o3 o4 o6 o7 o9 o10 o11 o12 o13 : Option D} :
    ∃ o, ex (C k) 60 s__law_right_8 [o0, o1, o2, o3, o4, some (frD 0), o6, o7, some (.lst (qs.map frD)), o9, o10, o11, o12, o13] st = .next [o0, o1, o2, o3, o4, some (frD (qs.foldl (· + ·) 0)), o6, o7, some (.lst (qs.map frD)), o, o10, o11, o12, o13] st := by
  obtain ⟨env', st', e, rfl, o, rfl, _⟩ := forL_ok (f := fun x env st => (tgD (fun e env st => ev (C k) 59 e env st) (.name 9) x env st).still.run env fun env st => exL (ex (C k) 59) [.asg (.name 5) (.call "_law_plus" [.var 5, .var 9])] env st) (xs := qs.map frD)
    (fun m env st' => st' = st ∧ ∃ o, env = [o0, o1, o2, o3, o4, some (frD ((qs.take m).foldl (· + ·) 0)), o6, o7, some (.lst (qs.map frD)), o, o10, o11, o12, o13] ∧ sz ((qs.take m).foldl (· + ·) 0) (1 + m * 65)) (by
      rintro m x env st' hx ⟨rfl, o, rfl, z⟩
      obtain ⟨q, hq1, rfl⟩ := get_map hx
      have hm := (List.getElem?_eq_some_iff.mp hq1).1
      have hz := hq q (List.mem_of_getElem? hq1)
      have ad := law_plus_fr (k := k) (st := st') hF (by omega) (z.mono (m := 1000) (by omega)) (hz.mono (m := 1000) (by omega)) (by omega)
      refine ⟨[o0, o1, o2, o3, o4, some (frD ((qs.take m).foldl (· + ·) 0 + q)), o6, o7, some (.lst (qs.map frD)), some (frD q), o10, o11, o12, o13], st', .inl (by simp [ad]), rfl, some (frD q), ?_, ?_⟩
      · rw [take_next hq1, List.foldl_append]
        rfl
      · rw [take_next hq1, List.foldl_append]
        exact (sz_add z hz).mono (by omega)) (env := [o0, o1, o2, o3, o4, some (frD 0), o6, o7, some (.lst (qs.map frD)), o9, o10, o11, o12, o13]) (st := st) ⟨rfl, o9, rfl, ⟨by simp, by simp⟩⟩
  refine ⟨o, ?_⟩
  simp at e
  simp [s__law_right_8, e]
theorem s9 (hk : 45 ≤ k) {qs : List Rat} (hl : qs.length ≤ 5) (hq : ∀ q ∈ qs, sz q 64) {o0 o1 o2 o3 o4 o6 o7 o9 o10 o11 o12 o13 : Option D} {env : Mu.Env} (he : env = [o0, o1, o2, o3, o4, some (frD (qs.foldl (· + ·) 0)), o6, o7, some (.lst (qs.map frD)), o9, o10, o11, o12, o13]) :
    ex (C k) 60 s__law_right_9 env st = .next env st := by
  subst he
  have b : (qs.length + 1) * (64 + 1) ≤ 1000000 := by omega
  have e1 := total_fr (k := k) (st := st) hN (by omega) hq b
  have e2 := total_fr (k := k) (st := st) hN (qs := qs.reverse) (by omega) (fun q hm => hq q (List.mem_reverse.mp hm)) (by rw [List.length_reverse]; exact b)
  rw [sum_rev, List.map_reverse] at e2
  have t1 : ∀ xs : List D, tupleD [.lst xs] st = some (.tup xs) := fun _ => rfl
  simp [s__law_right_9, t1, e1, e2, cmp_ne_fr]
theorem s11 (hk : 45 ≤ k) (h1 : sz q1 64) {m : Nat} (hm : m ≤ 6) {o0 o2 o3 o4 o6 o7 o8 o9 o11 o12 o13 : Option D} :
    ∃ o, ex (C k) 60 s__law_right_11 [o0, some (frD q1), o2, o3, o4, some (frD 1), o6, o7, o8, o9, some (.int m), o11, o12, o13] st = .next [o0, some (frD q1), o2, o3, o4, some (frD (q1 ^ m)), o6, o7, o8, o9, some (.int m), o, o12, o13] st := by
  obtain ⟨env', st', e, rfl, o, rfl, _⟩ := forL_ok (f := fun x env st => (tgD (fun e env st => ev (C k) 59 e env st) (.name 11) x env st).still.run env fun env st => exL (ex (C k) 59) [.asg (.name 5) (.call "_law_times" [.var 5, .var 1])] env st) (xs := intsD 0 m)
    (fun j env st' => st' = st ∧ ∃ o, env = [o0, some (frD q1), o2, o3, o4, some (frD (q1 ^ j)), o6, o7, o8, o9, some (.int m), o, o12, o13] ∧ sz (q1 ^ j) (1 + j * 64)) (by
      rintro j x env st' hx ⟨rfl, o, rfl, z⟩
      obtain ⟨hj, rfl⟩ := intsD_at hx
      have ad := law_times_fr (k := k) (st := st') hF (by omega) (z.mono (m := 1000) (by omega)) (h1.mono (m := 1000) (by omega)) (by omega)
      refine ⟨[o0, some (frD q1), o2, o3, o4, some (frD (q1 ^ j * q1)), o6, o7, o8, o9, some (.int m), some (.int (0 + j)), o12, o13], st', .inl (by simp [ad]), rfl, some (.int (0 + j)), ?_, ?_⟩
      · rw [Rat.pow_succ]
      · rw [Rat.pow_succ]
        exact (sz_mul z h1).mono (by omega)) (env := [o0, some (frD q1), o2, o3, o4, some (frD 1), o6, o7, o8, o9, some (.int m), o11, o12, o13]) (st := st) ⟨rfl, o11, by rw [Rat.pow_zero], by rw [Rat.pow_zero]; exact ⟨by simp, by simp⟩⟩
  rw [intsD_len] at e
  refine ⟨o, ?_⟩
  simp at e
  simp [s__law_right_11, rng1 (m := m) (by omega), e]
theorem s12 (hk : 45 ≤ k) (h1 : sz q1 64) {m : Nat} (hm : m ≤ 6) {o0 o2 o3 o4 o6 o7 o8 o9 o11 o12 o13 : Option D} {env : Mu.Env} (he : env = [o0, some (frD q1), o2, o3, o4, some (frD (q1 ^ m)), o6, o7, o8, o9, some (.int m), o11, o12, o13]) :
    ex (C k) 60 s__law_right_12 env st = .next env st := by
  subst he
  have e1 := power_fr (k := k) (st := st) hN (m := m) (by omega) h1 (by omega) (by omega)
  have e2 := power_fr (k := k) (st := st) hN (m := 0) (by omega) h1 (by omega) (by omega)
  rw [Rat.pow_zero] at e2
  simp at e2
  simp [s__law_right_12, e1, e2, cmp_ne_fr, one_fr]

theorem s14 (hk : 45 ≤ k) {t b : Int} (ht : t.natAbs ≤ 10 ^ 19) (hb : b.natAbs ≤ 10 ^ 19) (h0 : b ≠ 0) {o0 o1 o2 o3 o4 o5 o6 o7 o8 o9 o10 o11 : Option D} :
    ex (C k) 60 s__law_right_14 [o0, o1, o2, o3, o4, o5, o6, o7, o8, o9, o10, o11, some (.int t), some (.int b)] st = .ret (.bl true) st := by
  have l1 : t.natAbs < 2 ^ 64 := Nat.lt_of_le_of_lt ht (by decide)
  have l2 : b.natAbs < 2 ^ 64 := Nat.lt_of_le_of_lt hb (by decide)
  have e1 := number_int (k := k) (st := st) hN (t := t) (b := b) (by omega) (Nat.lt_of_le_of_lt ht (by decide)) (Nat.lt_of_le_of_lt hb (by decide)) h0
  have e2 := number_1 (k := k) (st := st) hN (t := t) (by omega) (Nat.lt_of_le_of_lt ht (by decide))
  have e3 := law_fr_int (k := k) (st := st) hF (by omega) l1 l2 (by omega) h0
  have z : sz (Rat.divInt t 1) 64 := sz_divInt l1 (by decide) (by decide)
  have r := repr_fr (st := st) z (by omega)
  have f := divInt_one t
  rw [f] at e2 r
  simp [s__law_right_14, e1, e2, e3, r, cmp_eq_fr]
theorem right_ok (hk : 46 ≤ k) {j B : Nat} (hd : Dice j B st) (hB : B ≤ 600000) : ∃ st', callF T k "_law_right" [.ref j] st = .ok (.bl true) st' ∧ Dice j (B + 100) st' ∧ st'.length = st.length := by
  obtain ⟨k, rfl, hk1⟩ := succ_of (j := 45) hk; clear hk; have hk := hk1; clear hk1
  obtain ⟨q1, st1, e1, z1, d1, l1⟩ := drawn_ok (k := k) hL hD hF (by omega) hd (by omega)
  obtain ⟨q2, st2, e2, z2, d2, l2⟩ := drawn_ok (k := k) hL hD hF (by omega) d1 (by omega)
  obtain ⟨q3, st3, e3, z3, d3, l3⟩ := drawn_ok (k := k) hL hD hF (by omega) d2 (by omega)
  have a0 : ex (C k) 60 s__law_right_0 [some (.ref j), none, none, none, none, none, none, none, none, none, none, none, none, none] st = .next [some (.ref j), some (frD q1), some (frD q2), some (frD q3), none, none, none, none, none, none, none, none, none, none] st3 := by
    simp [s__law_right_0, e1, e2, e3]
  obtain ⟨o5, a3⟩ := s3 (st := st3) (q3 := q3) hk z1 z2 z3 (.ref j) (o4 := some (.lst [frD (q1 + q2), frD (q1 - q2), frD (q1 * q2), frD q1])) (o6 := none) (o7 := none) (o8 := none) (o9 := none) (o10 := none) (o11 := none) (o12 := none) (o13 := none)
  obtain ⟨qs, st4, e4, hl, hq, d4, l4⟩ := row_ok (k := k) hk d3 (by omega) (env := [some (.ref j), some (frD q1), some (frD q2), some (frD q3), some (.lst [frD (q1 + q2), frD (q1 - q2), frD (q1 * q2), frD q1]), o5, some (.int (q1.num * q2.den)), some (.int (q2.num * q1.den)), none, none, none, none, none, none]) rfl
  have a7 : ex (C k) 60 s__law_right_7 [some (.ref j), some (frD q1), some (frD q2), some (frD q3), some (.lst [frD (q1 + q2), frD (q1 - q2), frD (q1 * q2), frD q1]), o5, some (.int (q1.num * q2.den)), some (.int (q2.num * q1.den)), none, none, none, none, none, none] st3 =
      .next [some (.ref j), some (frD q1), some (frD q2), some (frD q3), some (.lst [frD (q1 + q2), frD (q1 - q2), frD (q1 * q2), frD q1]), some (frD 0), some (.int (q1.num * q2.den)), some (.int (q2.num * q1.den)), some (.lst (qs.map frD)), none, none, none, none, none] st4 := by
    simp only [s__law_right_7, ex_par, evL_cons, e4, Res.bind_ok]
    simp [zero_fr]
  obtain ⟨o9, a8⟩ := s8 (st := st4) hk hl hq (o0 := some (.ref j)) (o1 := some (frD q1)) (o2 := some (frD q2)) (o3 := some (frD q3)) (o4 := some (.lst [frD (q1 + q2), frD (q1 - q2), frD (q1 * q2), frD q1])) (o6 := some (.int (q1.num * q2.den))) (o7 := some (.int (q2.num * q1.den))) (o9 := none) (o10 := none) (o11 := none) (o12 := none) (o13 := none)
  obtain ⟨v, st5, e5, v0, v1, d5, l5⟩ := roll_ok (k := k) hL (m := 7) (by omega) d4 (by omega) (by decide)
  obtain ⟨m, rfl⟩ : ∃ m : Nat, v = m := ⟨v.toNat, by omega⟩
  have a10 : ex (C k) 60 s__law_right_10 [some (.ref j), some (frD q1), some (frD q2), some (frD q3), some (.lst [frD (q1 + q2), frD (q1 - q2), frD (q1 * q2), frD q1]), some (frD (qs.foldl (· + ·) 0)), some (.int (q1.num * q2.den)), some (.int (q2.num * q1.den)), some (.lst (qs.map frD)), o9, none, none, none, none] st4 =
      .next [some (.ref j), some (frD q1), some (frD q2), some (frD q3), some (.lst [frD (q1 + q2), frD (q1 - q2), frD (q1 * q2), frD q1]), some (frD 1), some (.int (q1.num * q2.den)), some (.int (q2.num * q1.den)), some (.lst (qs.map frD)), o9, some (.int m), none, none, none] st5 := by
    simp [s__law_right_10, e5, one_fr]
  obtain ⟨o11, a11⟩ := s11 (st := st5) hk z1 (m := m) (by omega) (o0 := some (.ref j)) (o2 := some (frD q2)) (o3 := some (frD q3)) (o4 := some (.lst [frD (q1 + q2), frD (q1 - q2), frD (q1 * q2), frD q1])) (o6 := some (.int (q1.num * q2.den))) (o7 := some (.int (q2.num * q1.den))) (o8 := some (.lst (qs.map frD))) (o9 := o9) (o11 := none) (o12 := none) (o13 := none)
  obtain ⟨v1', st6, e6, n6, b6, d6, l6⟩ := integer_ok (k := k) hL hD (by omega) d5 (by omega)
  obtain ⟨p, st7, hp, e7, d7, l7⟩ := pick_ok (k := k) hL (xs := [.int 0, .int v1']) (by omega) d6 (by omega) (by simp)
  obtain ⟨t, ht, bt⟩ : ∃ t : Int, ([D.int 0, .int v1'] : List D)[p] = .int t ∧ t.natAbs ≤ 10 ^ 19 := by
    have hp2 : p < 2 := hp
    match p, hp2 with
    | 0, _ => exact ⟨_, rfl, by decide⟩
    | 1, _ => exact ⟨_, rfl, b6⟩
  rw [ht] at e7
  obtain ⟨b, st8, e8, n8, b8, d8, l8⟩ := integer_ok (k := k) hL hD (by omega) d7 (by omega)
  have a13 : ex (C k) 60 s__law_right_13 [some (.ref j), some (frD q1), some (frD q2), some (frD q3), some (.lst [frD (q1 + q2), frD (q1 - q2), frD (q1 * q2), frD q1]), some (frD (q1 ^ m)), some (.int (q1.num * q2.den)), some (.int (q2.num * q1.den)), some (.lst (qs.map frD)), o9, some (.int m), o11, none, none] st5 =
      .next [some (.ref j), some (frD q1), some (frD q2), some (frD q3), some (.lst [frD (q1 + q2), frD (q1 - q2), frD (q1 * q2), frD q1]), some (frD (q1 ^ m)), some (.int (q1.num * q2.den)), some (.int (q2.num * q1.den)), some (.lst (qs.map frD)), o9, some (.int m), o11, some (.int t), some (.int b)] st8 := by
    simp [s__law_right_13, e6, e7, e8]
  refine ⟨st8, ?_, mono d8 (by omega), by omega⟩
  rw [run_def (show T.fn "_law_right" = some d__law_right from rfl) k rfl]
  have en : ([D.ref j].map some ++ List.replicate (d__law_right.names.length - [D.ref j].length) none : Mu.Env) = [some (.ref j), none, none, none, none, none, none, none, none, none, none, none, none, none] := rfl
  rw [en]
  have body : exL (ex (C k) 60) d__law_right.body [some (.ref j), none, none, none, none, none, none, none, none, none, none, none, none, none] st = .ret (.bl true) st8 := by
    show exL (ex (C k) 60) [s__law_right_0, s__law_right_1, s__law_right_2, s__law_right_3, s__law_right_4, s__law_right_5, s__law_right_6, s__law_right_7, s__law_right_8, s__law_right_9, s__law_right_10, s__law_right_11, s__law_right_12, s__law_right_13, s__law_right_14] _ _ = _
    refine (exL_step a0).trans ?_
    refine (exL_step (s1 hk z1 z2 z3 _)).trans ?_
    refine (exL_step (s2 hk z1 z2 z3 _ rfl)).trans ?_
    refine (exL_step a3).trans ?_
    refine (exL_step (s4 z1 z2 _)).trans ?_
    refine (exL_step (s5 hk z1 z2 _ rfl)).trans ?_
    refine (exL_step (s6 hk z1 z2 z3 _ rfl)).trans ?_
    refine (exL_step a7).trans ?_
    refine (exL_step a8).trans ?_
    refine (exL_step (s9 hk hl hq rfl)).trans ?_
    refine (exL_step a10).trans ?_
    refine (exL_step a11).trans ?_
    refine (exL_step (s12 hk z1 (show m ≤ 6 by omega) rfl)).trans ?_
    refine (exL_step a13).trans ?_
    exact exL_ret (s14 hk bt b8 n8)
  refine (congrArg (finish st.length) body).trans ?_
  exact finish_ret' (by omega) _
end
end L21

set_option linter.all false
set_option Elab.async false
namespace L21
open PySem Mu
section
variable {k : Nat} {st : Sto}
theorem turns_ok (hk : 46 ≤ k) {i : Nat} (hd : Dice i 0 st) {o0 o1 o3 o4 o5 : Option D} {n : Nat} :
    ∃ o st', forL (fun x env st => (tgD (fun e env st => ev (C k) n e env st) (.name 3) x env st).still.run env fun env st => exL (ex (C k) 58) [.ite (.not (.call "_law_right" [.var 2])) [.ret (.lit (.bl false))] []] env st) (intsD 0 3) [o0, o1, some (.ref i), o3, o4, o5] st = .next [o0, o1, some (.ref i), o, o4, o5] st' := by
  obtain ⟨env', st', e, o, rfl, _⟩ := forL_ok (f := fun x env st => (tgD (fun e env st => ev (C k) n e env st) (.name 3) x env st).still.run env fun env st => exL (ex (C k) 58) [.ite (.not (.call "_law_right" [.var 2])) [.ret (.lit (.bl false))] []] env st) (xs := intsD 0 3)
    (fun j env st => ∃ o, env = [o0, o1, some (.ref i), o, o4, o5] ∧ Dice i (100 * j) st) (by
      rintro j x env st hx ⟨o, rfl, d⟩
      obtain ⟨hj, rfl⟩ := intsD_at hx
      obtain ⟨st2, e, d2, _⟩ := right_ok (k := k) hk d (by omega)
      exact ⟨[o0, o1, some (.ref i), some (.int (0 + j)), o4, o5], st2, .inl (by simp [e]), some (.int (0 + j)), rfl, mono d2 (by omega)⟩) (env := [o0, o1, some (.ref i), o3, o4, o5]) (st := st) ⟨o3, rfl, hd⟩
  exact ⟨o, st', e⟩
theorem l0 (hk : 46 ≤ k) {ns : List Int} (hn : ns.length ≤ 63) : ∃ o1 o2 o3 st', ex (C k) 60 s_law_0 [some (.rol (ns.map D.int)), none, none, none, none, none] [] = .next [some (.rol (ns.map D.int)), o1, o2, o3, none, none] st' := by
  obtain ⟨m, hm⟩ : ∃ m : Int, m = if (if (ns.length : Int) < 6 then (ns.length : Int) else 6) > 1 then (if (ns.length : Int) < 6 then (ns.length : Int) else 6) else 1 := ⟨_, rfl⟩
  have hb : 0 ≤ m ∧ m ≤ 6 := by
    rw [hm]
    split <;> split <;> omega
  obtain ⟨env', st', e, o1, o2, o3, rfl⟩ := forL_ok (f := fun x env st => (tgD (fun e env st => ev (C k) 59 e env st) (.name 1) x env st).still.run env fun env st => exL (ex (C k) 59) [.asg (.name 2) (.call "_law_dice" [.var 0,
      .var 1]), .for_ (.name 3) (.rng [.lit (.int 3)]) [.ite (.not (.call "_law_right" [.var 2])) [.ret (.lit (.bl false))] []]] env st) (xs := intsD 0 m.toNat)
    (fun j env st => ∃ o1 o2 o3, env = [some (.rol (ns.map D.int)), o1, o2, o3, none, none]) (by
      rintro j x env st hx ⟨o1, o2, o3, rfl⟩
      obtain ⟨hj, rfl⟩ := intsD_at hx
      obtain ⟨st1, e1, d1⟩ := dice_ok (k := k) (st := st) hL (ns := ns) (s := 0 + j) (by omega) (by omega) (by omega)
      obtain ⟨o, st2, e2⟩ := turns_ok (k := k) (st := st1) hk d1 (o0 := some (.rol (ns.map D.int))) (o1 := some (.int (0 + j))) (o3 := o3) (o4 := none) (o5 := none) (n := 58)
      refine ⟨_, st2, .inl ?_, some (.int (0 + j)), some (.ref st.length), o, rfl⟩
      have r : rngD [.int 3] = some (intsD 0 3) := rfl
      simp only [tgD_name, Res.still_ok, Res.run_ok, exL_cons, exL_nil, ex_asg, ev_call, evL_cons, evL_nil, ev_var, at_zero, at_succ, List.set_cons_zero, List.set_cons_succ, Res.of_some, Res.bind_ok, e1, SR.then_next, ex_for, itD_rng, ev_lit, r]
      simp only [exL_cons, exL_nil, tgD_name, Res.still_ok, Res.run_ok] at e2
      rw [e2]
      rfl) (env := [some (.rol (ns.map D.int)), none, none, none, none, none]) (st := []) ⟨none, none, none, rfl⟩
  refine ⟨o1, o2, o3, st', ?_⟩
  have mi : ∀ i j : Int, minD [.int i, .int j] [] = some (.int (if j < i then j else i)) := fun _ _ => rfl
  have mx : ∀ i j : Int, maxD [.int i, .int j] [] = some (.int (if j > i then j else i)) := fun _ _ => rfl
  have it : itD (fun e st => ev (C k) 59 e [some (.rol (ns.map D.int)), none, none, none, none, none] st) (.rng [.blt "max" [.lit (.int 1), .blt "min" [.lit (.int 6), .blt "len" [.var 0]]]]) [] = .ok (intsD 0 m.toNat) [] := by
    simp only [itD_rng, evL_cons, evL_nil, ev_blt, ev_lit, ev_var, at_zero, Res.of_some, Res.bind_ok, b_len, len_rol, b_min, b_max, mi, mx, List.length_map]
    rw [← hm, rng1 (m := m) (by omega)]
    rfl
  simp only [s_law_0, ex_for, it, Res.run_ok]
  exact e
/-- the great number -/
def gr : Rat := Rat.divInt (10 ^ 60 + 1) (10 ^ 59 + 3)
theorem gr_fr : D.tup [.int (10 ^ 60 + 1), .int (10 ^ 59 + 3)] = frD gr := by
  have e1 : gr.num = 10 ^ 60 + 1 := by decide +kernel
  have e2 : (gr.den : Int) = 10 ^ 59 + 3 := by decide +kernel
  unfold frD
  rw [e1, e2]
theorem th_fr : D.tup [.int 1, .int 3] = frD (Rat.divInt 1 3) := rfl
theorem mh_fr : D.tup [.int (-1), .int 2] = frD (Rat.divInt (-1) 2) := rfl
theorem mt_fr : D.tup [.int (-1), .int 3] = frD (Rat.divInt (-1) 3) := rfl
theorem l1 {o0 o1 o2 o3 : Option D} : ex (C k) 60 s_law_1 [o0, o1, o2, o3, none, none] st = .next [o0, o1, o2, o3, some (frD gr), none] st := by
  have p1 : powOk 10 60 = true := by decide +kernel
  have p2 : powOk 10 59 = true := by decide +kernel
  rw [← gr_fr]
  have a1 : binD k .Pow (.int 10) (.int 60) = some (.int (10 ^ 60)) := pow_ok 10 60 p1
  have a2 : binD k .Pow (.int 10) (.int 59) = some (.int (10 ^ 59)) := pow_ok 10 59 p2
  simp only [s_law_1, ex_asg, ev_tup, evL_cons, evL_nil, ev_bin, ev_lit, Res.bind_ok, a1, a2, Res.of_some, bin_add, List.length_cons, List.length_nil, Mu.sizeLine_eq, Res.run_ok, tgD_name, Res.still_ok, List.set_cons_zero, List.set_cons_succ]
  rfl
theorem l2 (hk : 46 ≤ k) {o0 o1 o2 o3 : Option D} : ex (C k) 60 s_law_2 [o0, o1, o2, o3, some (frD gr), none] st = .next [o0, o1, o2, o3, some (frD gr), some (.lst [.bl true, .bl true])] st := by
  have g1 : sz gr 300 := ⟨by decide +kernel, by decide +kernel⟩
  have g2 : sz (Rat.divInt 1 3) 300 := ⟨by decide +kernel, by decide +kernel⟩
  have g3 : sz (Rat.divInt (-1) 2) 300 := ⟨by decide +kernel, by decide +kernel⟩
  have e1 := plus_fr (k := k) (st := st) hN (by omega) g1 g2 (by omega)
  have e2 := law_plus_fr (k := k) (st := st) hF (by omega) g1 g2 (by omega)
  have e3 := power_fr (k := k) (st := st) hN (m := 60) (by omega) g3 (by omega) (by omega)
  have e4 : frD (Rat.divInt (-1) 2 ^ 60) = D.tup [.int 1, .int 1152921504606846976] := by
    have a1 : (Rat.divInt (-1) 2 ^ 60).num = 1 := by decide +kernel
    have a2 : ((Rat.divInt (-1) 2 ^ 60).den : Int) = 1152921504606846976 := by decide +kernel
    unfold frD
    rw [a1, a2]
  have c : cmpD .Eq (D.tup [.int 1, .int 1152921504606846976]) (.tup [.int 1, .int 1152921504606846976]) = some true := by decide +kernel
  rw [e4] at e3
  have e3 : callF T k "power" [frD (Rat.divInt (-1) 2), .int 60] st = .ok (.tup [.int 1, .int 1152921504606846976]) st := e3
  simp [s_law_2, th_fr, mh_fr, e1, e2, e3, cmp_eq_fr, c]
theorem l3 (hk : 46 ≤ k) {o0 o1 o2 o3 o4 : Option D} : ex (C k) 60 s_law_3 [o0, o1, o2, o3, o4, some (.lst [.bl true, .bl true])] st = .next [o0, o1, o2, o3, o4, some (.lst [.bl true, .bl true, frD (Rat.divInt (10 ^ 39) (-(10 ^ 39))), frD (Rat.divInt (-6) 4), frD 0, .int (-1)])] st := by
  have g3 : sz (Rat.divInt (-1) 2) 300 := ⟨by decide +kernel, by decide +kernel⟩
  have g4 : sz (Rat.divInt (-1) 3) 300 := ⟨by decide +kernel, by decide +kernel⟩
  have p1 : powOk 10 39 = true := by decide +kernel
  have a1 : binD k .Pow (.int 10) (.int 39) = some (.int (10 ^ 39)) := pow_ok 10 39 p1
  have e1 := number_int (k := k) (st := st) hN (t := 10 ^ 39) (b := -(10 ^ 39)) (by omega) (by decide +kernel) (by decide +kernel) (by decide)
  have e2 := number_int (k := k) (st := st) hN (t := -6) (b := 4) (by omega) (by decide +kernel) (by decide +kernel) (by decide)
  have e3 := total_fr (k := k) (st := st) hN (qs := []) (n := 1) (by omega) (by simp) (by decide)
  have e4 := compared_fr (k := k) (st := st) hN (by omega) g3 g4 (by omega)
  have e5 : cmpQ ((Rat.divInt (-1) 2).num * (Rat.divInt (-1) 3).den) ((Rat.divInt (-1) 3).num * (Rat.divInt (-1) 2).den) = -1 := by decide +kernel
  rw [e5] at e4
  have e3 : callF T k "total" [.tup []] st = .ok (frD 0) st := e3
  have ad : ∀ xs ys : List D, binD k .Add (.lst xs) (.lst ys) = if xs.length + ys.length ≤ sizeLine then some (.lst (xs ++ ys)) else none := fun _ _ => rfl
  simp only [s_law_3, ex_asg, ev_bin, ev_var, at_zero, at_succ, ev_lst, evL_cons, evL_nil, ev_call, ev_lit, ev_neg, negD_int, ev_tup, Res.bind_ok, a1, Res.of_some, List.length_cons, List.length_nil, Mu.sizeLine_eq, e1, e2, e3, Nat.reduceAdd, Nat.reduceLeDiff, if_true, mh_fr, mt_fr, e4, ad, Res.run_ok, tgD_name, Res.still_ok, List.set_cons_zero, List.set_cons_succ, Nat.zero_add, List.cons_append, List.nil_append]
theorem l4 {o0 o1 o2 o3 o4 : Option D} : ex (C k) 60 s_law_4 [o0, o1, o2, o3, o4, some (.lst [.bl true, .bl true, frD (Rat.divInt (10 ^ 39) (-(10 ^ 39))), frD (Rat.divInt (-6) 4), frD 0, .int (-1)])] st = .ret (.bl true) st := by
  have c : cmpD .Eq (.lst [.bl true, .bl true, frD (Rat.divInt (10 ^ 39) (-(10 ^ 39))), frD (Rat.divInt (-6) 4), frD 0, .int (-1)]) (.lst [.bl true, .bl true, .tup [.int (-1), .int 1], .tup [.int (-3), .int 2], .tup [.int 0, .int 1], .int (-1)]) = some true := by decide +kernel
  simp only [s_law_4, ex_ret, ev_cmp, ev_var, at_zero, at_succ, Res.of_some, Res.bind_ok, ev_lst, evL_cons, evL_nil, ev_lit, ev_tup, ev_neg, negD_int, List.length_cons, List.length_nil, Mu.sizeLine_eq, Nat.reduceAdd, Nat.reduceLeDiff, if_true, c, Nat.zero_add, Option.map_some, Res.run_ok]
theorem law_ok (ns : List Int) (hn : ns.length ≤ 63) : ∃ st, callF T 230 "law" [.rol (ns.map D.int)] [] = .ok (.bl true) st := by
  obtain ⟨o1, o2, o3, st', e⟩ := l0 (k := 229) (by omega) hn
  refine ⟨[], ?_⟩
  rw [run_def (show T.fn "law" = some d_law from rfl) 229 rfl]
  have en : ([D.rol (ns.map D.int)].map some ++ List.replicate (d_law.names.length - [D.rol (ns.map D.int)].length) none : Mu.Env) = [some (.rol (ns.map D.int)), none, none, none, none, none] := rfl
  rw [en]
  simp only [d_law, exL_cons, exL_nil, deep_eq, e, SR.then_next, l1, l2 (k := 229) (by omega), l3 (k := 229) (by omega), l4, SR.then_ret]
  show trim 0 _ _ = _
  simp [trim, D.low]
end
end L21

open PySem PySem.W PyProof.Rows Mu
set_option maxRecDepth 100000 in
set_option maxHeartbeats 0 in
theorem PySem.Challenge.cw_dearturns_k21_whole_numbers_holds : PySem.Challenge.rw_dearturns_k21_whole_numbers.Holds := by
  w_on; o_law; k_head; (case hw => w_witness2)
  k_fill
  refine Mu.walk_mu (l := PySem.Challenge.rw_dearturns_k21_whole_numbers) (T := L21.T) (k := 230) rfl (by decide) rfl ⟨rfl, by decide, by decide⟩ (by decide +kernel) (fun w h Y => PySem.W.kIn_of Y) ?F ?law
  case law => exact L21.law_ok
  case F =>
    intro w mg fa h KX G hmg
    have o_is_integer := by
      refine' fd_ok (T := L21.T) (F := L21.d_is_integer) (st := L21.top 10) KX G ?a ?l ?c ?k L21.c_is_integer rfl ?b; (case a => k_is); (case l => k_is); (case c => k_is); (case k => k_is); (case b => exact fun _ _ _ _ _ _ us hl => match us, hl with | [_], _ => rfl)
    have o_common_divisor := by
      refine' fd_ok (T := L21.T) (F := L21.d_common_divisor) (st := L21.top 11) KX G ?a ?l ?c ?k L21.c_common_divisor rfl ?b; (case a => k_is); (case l => k_is); (case c => k_is); (case k => k_is); (case b => exact fun _ _ _ _ _ _ us hl => match us, hl with | [_, _], _ => rfl)
    have o_is_number := by
      refine' fd_ok (T := L21.T) (F := L21.d_is_number) (st := L21.top 12) KX G ?a ?l ?c ?k L21.c_is_number rfl ?b; (case a => k_is); (case l => k_is); (case c => k_is); (case k => k_is); (case b => exact fun _ _ _ _ _ _ us hl => match us, hl with | [_], _ => rfl)
    have o_reduced := by
      refine' fd_ok (T := L21.T) (F := L21.d_reduced) (st := L21.top 13) KX G ?a ?l ?c ?k L21.c_reduced rfl ?b; (case a => k_is); (case l => k_is); (case c => k_is); (case k => k_is); (case b => exact fun _ _ _ _ _ _ us hl => match us, hl with | [_, _], _ => rfl)
    have o_number := by
      refine' fd_okD (T := L21.T) (F := L21.d_number) (st := L21.top 14) KX G ?a ?l ?c ?k L21.c_number ?d ?e (by decide) (by decide) ?b; (case a => k_is); (case l => k_is); (case c => k_is); (case k => k_is); (case d => k_is); (case e => (refine' cons_cons ?ch ?ct; (case ch => exact con_int); (case ct => exact cons_nil)))
      case b => exact fun j hj => match j, hj with
        | 0, _ => fun T _ _ _ _ _ _ us its hu hi => match us, hu, its, hi with | [_], _, [_], _ => ⟨_, rfl, rfl⟩
        | 1, _ => fun T _ _ _ _ _ _ us its hu hi => match us, hu, its, hi with | [_, _], _, [_], _ => ⟨_, rfl, rfl⟩
        | j + 2, h => absurd h (by show ¬ j + 2 ≤ 1; omega)
    have o_require_number := by
      refine' fd_ok (T := L21.T) (F := L21.d_require_number) (st := L21.top 15) KX G ?a ?l ?c ?k L21.c_require_number rfl ?b; (case a => k_is); (case l => k_is); (case c => k_is); (case k => k_is); (case b => exact fun _ _ _ _ _ _ us hl => match us, hl with | [_], _ => rfl)
    have o_require_count := by
      refine' fd_okD (T := L21.T) (F := L21.d_require_count) (st := L21.top 16) KX G ?a ?l ?c ?k L21.c_require_count ?d ?e (by decide) (by decide) ?b; (case a => k_is); (case l => k_is); (case c => k_is); (case k => k_is); (case d => k_is); (case e => (refine' cons_cons ?ch ?ct; (case ch => exact con_int); (case ct => (refine' cons_cons ?ch ?ct; (case ch => exact con_int); (case ct => exact cons_nil)))))
      case b => exact fun j hj => match j, hj with
        | 0, _ => fun T _ _ _ _ _ _ us its hu hi => match us, hu, its, hi with | [_], _, [_, _], _ => ⟨_, rfl, rfl⟩
        | 1, _ => fun T _ _ _ _ _ _ us its hu hi => match us, hu, its, hi with | [_, _], _, [_, _], _ => ⟨_, rfl, rfl⟩
        | 2, _ => fun T _ _ _ _ _ _ us its hu hi => match us, hu, its, hi with | [_, _, _], _, [_, _], _ => ⟨_, rfl, rfl⟩
        | j + 3, h => absurd h (by show ¬ j + 3 ≤ 2; omega)
    have o_added := by
      refine' fd_ok (T := L21.T) (F := L21.d_added) (st := L21.top 17) KX G ?a ?l ?c ?k L21.c_added rfl ?b; (case a => k_is); (case l => k_is); (case c => k_is); (case k => k_is); (case b => exact fun _ _ _ _ _ _ us hl => match us, hl with | [_, _], _ => rfl)
    have o_multiplied := by
      refine' fd_ok (T := L21.T) (F := L21.d_multiplied) (st := L21.top 18) KX G ?a ?l ?c ?k L21.c_multiplied rfl ?b; (case a => k_is); (case l => k_is); (case c => k_is); (case k => k_is); (case b => exact fun _ _ _ _ _ _ us hl => match us, hl with | [_, _], _ => rfl)
    have o_opposite := by
      refine' fd_ok (T := L21.T) (F := L21.d_opposite) (st := L21.top 19) KX G ?a ?l ?c ?k L21.c_opposite rfl ?b; (case a => k_is); (case l => k_is); (case c => k_is); (case k => k_is); (case b => exact fun _ _ _ _ _ _ us hl => match us, hl with | [_], _ => rfl)
    have o_divided := by
      refine' fd_ok (T := L21.T) (F := L21.d_divided) (st := L21.top 20) KX G ?a ?l ?c ?k L21.c_divided rfl ?b; (case a => k_is); (case l => k_is); (case c => k_is); (case k => k_is); (case b => exact fun _ _ _ _ _ _ us hl => match us, hl with | [_, _], _ => rfl)
    have o_sum_of := by
      refine' fd_ok (T := L21.T) (F := L21.d_sum_of) (st := L21.top 21) KX G ?a ?l ?c ?k L21.c_sum_of rfl ?b; (case a => k_is); (case l => k_is); (case c => k_is); (case k => k_is); (case b => exact fun _ _ _ _ _ _ us hl => match us, hl with | [_], _ => rfl)
    have o_plus := by
      refine' fd_ok (T := L21.T) (F := L21.d_plus) (st := L21.top 22) KX G ?a ?l ?c ?k L21.c_plus rfl ?b; (case a => k_is); (case l => k_is); (case c => k_is); (case k => k_is); (case b => exact fun _ _ _ _ _ _ us hl => match us, hl with | [_, _], _ => rfl)
    have o_minus := by
      refine' fd_ok (T := L21.T) (F := L21.d_minus) (st := L21.top 23) KX G ?a ?l ?c ?k L21.c_minus rfl ?b; (case a => k_is); (case l => k_is); (case c => k_is); (case k => k_is); (case b => exact fun _ _ _ _ _ _ us hl => match us, hl with | [_, _], _ => rfl)
    have o_times := by
      refine' fd_ok (T := L21.T) (F := L21.d_times) (st := L21.top 24) KX G ?a ?l ?c ?k L21.c_times rfl ?b; (case a => k_is); (case l => k_is); (case c => k_is); (case k => k_is); (case b => exact fun _ _ _ _ _ _ us hl => match us, hl with | [_, _], _ => rfl)
    have o_over := by
      refine' fd_ok (T := L21.T) (F := L21.d_over) (st := L21.top 25) KX G ?a ?l ?c ?k L21.c_over rfl ?b; (case a => k_is); (case l => k_is); (case c => k_is); (case k => k_is); (case b => exact fun _ _ _ _ _ _ us hl => match us, hl with | [_, _], _ => rfl)
    have o_compared := by
      refine' fd_ok (T := L21.T) (F := L21.d_compared) (st := L21.top 26) KX G ?a ?l ?c ?k L21.c_compared rfl ?b; (case a => k_is); (case l => k_is); (case c => k_is); (case k => k_is); (case b => exact fun _ _ _ _ _ _ us hl => match us, hl with | [_, _], _ => rfl)
    have o_total := by
      refine' fd_ok (T := L21.T) (F := L21.d_total) (st := L21.top 27) KX G ?a ?l ?c ?k L21.c_total rfl ?b; (case a => k_is); (case l => k_is); (case c => k_is); (case k => k_is); (case b => exact fun _ _ _ _ _ _ us hl => match us, hl with | [_], _ => rfl)
    have o_power := by
      refine' fd_ok (T := L21.T) (F := L21.d_power) (st := L21.top 28) KX G ?a ?l ?c ?k L21.c_power rfl ?b; (case a => k_is); (case l => k_is); (case c => k_is); (case k => k_is); (case b => exact fun _ _ _ _ _ _ us hl => match us, hl with | [_, _], _ => rfl)
    have o__law_dice := by
      refine' fd_ok (T := L21.T) (F := L21.d__law_dice) (st := L21.top 30) KX G ?a ?l ?c ?k L21.c__law_dice rfl ?b; (case a => k_is); (case l => k_is); (case c => k_is); (case k => k_is); (case b => exact fun _ _ _ _ _ _ us hl => match us, hl with | [_, _], _ => rfl)
    have o__law_roll := by
      refine' fd_ok (T := L21.T) (F := L21.d__law_roll) (st := L21.top 31) KX G ?a ?l ?c ?k L21.c__law_roll rfl ?b; (case a => k_is); (case l => k_is); (case c => k_is); (case k => k_is); (case b => exact fun _ _ _ _ _ _ us hl => match us, hl with | [_, _], _ => rfl)
    have o__law_pick := by
      refine' fd_ok (T := L21.T) (F := L21.d__law_pick) (st := L21.top 32) KX G ?a ?l ?c ?k L21.c__law_pick rfl ?b; (case a => k_is); (case l => k_is); (case c => k_is); (case k => k_is); (case b => exact fun _ _ _ _ _ _ us hl => match us, hl with | [_, _], _ => rfl)
    have o__law_fr := by
      refine' fd_ok (T := L21.T) (F := L21.d__law_fr) (st := L21.top 33) KX G ?a ?l ?c ?k L21.c__law_fr rfl ?b; (case a => k_is); (case l => k_is); (case c => k_is); (case k => k_is); (case b => exact fun _ _ _ _ _ _ us hl => match us, hl with | [_, _], _ => rfl)
    have o__law_plus := by
      refine' fd_ok (T := L21.T) (F := L21.d__law_plus) (st := L21.top 34) KX G ?a ?l ?c ?k L21.c__law_plus rfl ?b; (case a => k_is); (case l => k_is); (case c => k_is); (case k => k_is); (case b => exact fun _ _ _ _ _ _ us hl => match us, hl with | [_, _], _ => rfl)
    have o__law_times := by
      refine' fd_ok (T := L21.T) (F := L21.d__law_times) (st := L21.top 35) KX G ?a ?l ?c ?k L21.c__law_times rfl ?b; (case a => k_is); (case l => k_is); (case c => k_is); (case k => k_is); (case b => exact fun _ _ _ _ _ _ us hl => match us, hl with | [_, _], _ => rfl)
    have o__law_minus := by
      refine' fd_ok (T := L21.T) (F := L21.d__law_minus) (st := L21.top 36) KX G ?a ?l ?c ?k L21.c__law_minus rfl ?b; (case a => k_is); (case l => k_is); (case c => k_is); (case k => k_is); (case b => exact fun _ _ _ _ _ _ us hl => match us, hl with | [_, _], _ => rfl)
    have o__law_integer := by
      refine' fd_ok (T := L21.T) (F := L21.d__law_integer) (st := L21.top 37) KX G ?a ?l ?c ?k L21.c__law_integer rfl ?b; (case a => k_is); (case l => k_is); (case c => k_is); (case k => k_is); (case b => exact fun _ _ _ _ _ _ us hl => match us, hl with | [_], _ => rfl)
    have o__law_drawn := by
      refine' fd_ok (T := L21.T) (F := L21.d__law_drawn) (st := L21.top 38) KX G ?a ?l ?c ?k L21.c__law_drawn rfl ?b; (case a => k_is); (case l => k_is); (case c => k_is); (case k => k_is); (case b => exact fun _ _ _ _ _ _ us hl => match us, hl with | [_], _ => rfl)
    have o__law_right := by
      refine' fd_ok (T := L21.T) (F := L21.d__law_right) (st := L21.top 39) KX G ?a ?l ?c ?k L21.c__law_right rfl ?b; (case a => k_is); (case l => k_is); (case c => k_is); (case k => k_is); (case b => exact fun _ _ _ _ _ _ us hl => match us, hl with | [_], _ => rfl)
    have o_law := by
      refine' fd_ok (T := L21.T) (F := L21.d_law) (st := L21.top 40) KX G ?a ?l ?c ?k L21.c_law rfl ?b; (case a => k_is); (case l => k_is); (case c => k_is); (case k => k_is); (case b => exact fun _ _ _ _ _ _ us hl => match us, hl with | [_], _ => rfl)
    have z : ∀ x ∈ blts, mg x = none := by
      refine blts_of KX G ?_
      refine' non_cons ?z0 (non_cons ?z1 (non_cons ?z2 (non_cons ?z3 (non_cons ?z4 (non_cons ?z5 (non_cons ?z6 (non_cons ?z7 (non_cons ?z8 (non_cons ?z9 (non_cons ?z10 (non_cons ?z11 (non_cons ?z12 (non_cons ?z13 (non_cons ?z14 (non_cons ?z15 non_nil)))))))))))))))
      all_goals k_is
    have k_NOUGHT := by
      refine' con_of (mg := mg) (x := "NOUGHT") (d := (.tup [.int 0, .int 1])) KX G ?a ?b; (case a => k_is); (case b => (refine' con_tup ?cl ?ch ?cc; (case cl => k_is); (case ch => decide); (case cc => (refine' cons_cons ?ch ?ct; (case ch => exact con_int); (case ct => (refine' cons_cons ?ch ?ct; (case ch => exact con_int); (case ct => exact cons_nil)))))))
    have k_ONE := by
      refine' con_of (mg := mg) (x := "ONE") (d := (.tup [.int 1, .int 1])) KX G ?a ?b; (case a => k_is); (case b => (refine' con_tup ?cl ?ch ?cc; (case cl => k_is); (case ch => decide); (case cc => (refine' cons_cons ?ch ?ct; (case ch => exact con_int); (case ct => (refine' cons_cons ?ch ?ct; (case ch => exact con_int); (case ct => exact cons_nil)))))))
    have k_MOST_PASSED := by
      refine' con_of (mg := mg) (x := "MOST_PASSED") (d := (.int 10000000000000000000000000000000000000000)) KX G ?a ?b; (case a => k_is); (case b => exact con_int)
    have q := fd_at o_law hmg
    exact ⟨_, L21.d_law, rfl, rfl, q, fun base hs => ⟨hs, rfl, con_all (con_cons k_NOUGHT ( con_cons k_ONE ( con_cons k_MOST_PASSED (con_nil)))), z, fns_cons o_is_integer ( fns_cons o_common_divisor ( fns_cons o_is_number ( fns_cons o_reduced ( fns_cons o_number ( fns_cons o_require_number ( fns_cons o_require_count ( fns_cons o_added ( fns_cons o_multiplied ( fns_cons o_opposite ( fns_cons o_divided ( fns_cons o_sum_of ( fns_cons o_plus ( fns_cons o_minus ( fns_cons o_times ( fns_cons o_over ( fns_cons o_compared ( fns_cons o_total ( fns_cons o_power ( fns_cons o__law_dice ( fns_cons o__law_roll ( fns_cons o__law_pick ( fns_cons o__law_fr ( fns_cons o__law_plus ( fns_cons o__law_times ( fns_cons o__law_minus ( fns_cons o__law_integer ( fns_cons o__law_drawn ( fns_cons o__law_right ( fns_cons o_law (fns_nil))))))))))))))))))))))))))))))⟩⟩
#print axioms PySem.Challenge.cw_dearturns_k21_whole_numbers_holds
