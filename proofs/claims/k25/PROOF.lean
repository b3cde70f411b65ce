import PyProof.Rows.All
import Wide.All
import OpenK.AllK
import Wide.FinOn
import PySem.Challenge.RW_crossgrants_k25_heights_of_pointers
import HandS.ForMost
import HandS.IsInst
import HandS.Flow
import HandS.Conv
import HandS.Zip
import HandS.Style
import HandS.SetFor
set_option Elab.async false
set_option linter.all false
set_option maxRecDepth 100000
namespace VI
open PySem PySem.Spec PyProof.Rows L2

/-! data: trees without identity -/
inductive D where
  | non | bl (b : Bool) | int (i : Int) | str (s : Str) | lst (xs : List D) | tup (xs : List D)
  deriving Inhabited

inductive Val where
  | d (x : D) | ref (i : Nat) | scr (ns : List Int)
  deriving Inhabited

inductive Ob where
  | lst (xs : List D) | gone
  deriving Inhabited

abbrev Mem := List Ob
abbrev Env := List (Option Val)

inductive Res (α : Type) where
  | stuck
  | ok (a : α) (M : Mem)

def Res.bind {α β : Type} (r : Res α) (f : α → Mem → Res β) : Res β :=
  match r with
  | .stuck => .stuck
  | .ok a M => f a M

def Res.lift {α : Type} (o : Option α) (M : Mem) : Res α :=
  match o with
  | none => .stuck
  | some a => .ok a M

theorem bind_ok {α β : Type} (a : α) (M : Mem) (f : α → Mem → Res β) : (Res.ok a M).bind f = f a M := rfl
theorem bind_stuck {α β : Type} (f : α → Mem → Res β) : (Res.stuck : Res α).bind f = .stuck := rfl

inductive BI where
  | len | abs | int | max | min | divmod | all | list | tuple | sum
  deriving DecidableEq

inductive Ty where
  | int | bool | list | tuple | str
  deriving DecidableEq
/-! programs -/
mutual
inductive Ex where
  | slot (i : Nat) | cst (x : D)
  | bin (op : Operator) (a b : Ex) | neg (a : Ex)
  | cmp (op : CmpOp) (a b : Ex) | cmp2 (op op2 : CmpOp) (a b c : Ex)
  | and_ (a b : Ex) | or_ (a b : Ex) | not_ (a : Ex) | ife (c a b : Ex)
  | tup (es : Exs) | lst (es : Exs) | mk (es : Exs)
  | ix (a b : Ex)
  | call (f : Str) (es : Exs) | bi (b : BI) (es : Exs) | isi (a : Ex) (ts : List Ty)
  | comp (it : It) (tg : Tg) (own : List Nat) (cs : Exs) (e : Ex)
  | frz (e : Ex)
  | sl (a : Ex) (lo hi : Exs) | rev (a : Ex) | lcnt (a b : Ex) | new (e : Ex)
inductive Exs where
  | nil | cons (e : Ex) (es : Exs)
inductive It where
  | seq (e : Ex) | rng1 (a : Ex) | rng2 (a b : Ex) | enm (e : Ex) | zip (a b : Ex)
inductive Tg where
  | slot (i : Nat) | tup (ts : Tgs)
inductive Tgs where
  | nil | cons (t : Tg) (ts : Tgs)
end

/-- targets of an assignment: names and places of lists -/
inductive Lts where
  | nil | slot (i : Nat) (ts : Lts) | sub (o i : Ex) (ts : Lts)

mutual
inductive St where
  | expr (e : Ex) | asg (i : Nat) (e : Ex) | unp (ts : Tgs) (e : Ex) | unm (ts : Lts) (e : Ex) | par (i j : Nat) (es : Exs)
  | set (o i e : Ex)
  | ret (e : Ex) | retN | ifs (c : Ex) (a b : Sts) | for_ (it : It) (tg : Tg) (b : Sts) | while_ (c : Ex) (b : Sts)
  | brk | cnt | pass
  | aug (i : Nat) (op : Operator) (e : Ex) | augS (o i : Ex) (op : Operator) (e : Ex)
inductive Sts where
  | nil | cons (s : St) (ss : Sts)
end

/-! data as the library's data -/
mutual
def D.py : D → PyData
  | .non => .none
  | .bl b => .bool b
  | .int i => .int i
  | .str s => .str s
  | .lst xs => .list (pys xs)
  | .tup xs => .tuple (pys xs)
def pys : List D → List PyData
  | [] => []
  | x :: xs => x.py :: pys xs
end
end VI
namespace VI
open PySem PySem.Spec PyProof.Rows L2

mutual
def D.dep : D → Nat
  | .lst xs => deps xs + 1
  | .tup xs => deps xs + 1
  | _ => 0
def deps : List D → Nat
  | [] => 0
  | x :: xs => max x.dep (deps xs)
end

mutual
/-- == of Python, over data -/
def D.eqv : D → D → Bool
  | .non, .non => true
  | .bl a, .bl b => a == b
  | .bl a, .int j => (if a then 1 else 0) == j
  | .int i, .bl b => i == (if b then 1 else 0)
  | .int i, .int j => i == j
  | .str x, .str y => x == y
  | .lst xs, .lst ys => eqvs xs ys
  | .tup xs, .tup ys => eqvs xs ys
  | _, _ => false
def eqvs : List D → List D → Bool
  | [], [] => true
  | x :: xs, y :: ys => x.eqv y && eqvs xs ys
  | _, _ => false
end

def LIM : Nat := 100000

def deq (x y : D) : Option Bool := if x.dep ≤ 60 ∨ y.dep ≤ 60 then some (x.eqv y) else none

/-- what a value is, read through the store -/
def Val.at (v : Val) (M : Mem) : Option D :=
  match v with
  | .d x => some x
  | .ref i => match M[i]? with
    | some (.lst xs) => some (.lst xs)
    | _ => none
  | .scr ns => some (.lst (ns.map .int))
/-- .. but for the script -/
def Val.pl (v : Val) (M : Mem) : Option D :=
  match v with
  | .d x => some x
  | .ref i => match M[i]? with
    | some (.lst xs) => some (.lst xs)
    | _ => none
  | .scr _ => none

def D.tru : D → Bool
  | .non => false
  | .bl b => b
  | .int i => i != 0
  | .str s => (s.length : Int) != 0
  | .lst xs => !xs.isEmpty
  | .tup xs => !xs.isEmpty

/-- numbers -/
def binI (op : Operator) (i j : Int) : Option Int :=
  match op with
  | .Add => some (i + j)
  | .Sub => some (i - j)
  | .Mult => if (-(2 ^ 64) < i ∧ i < 2 ^ 64) ∨ (-(2 ^ 64) < j ∧ j < 2 ^ 64) then some (i * j) else none
  | .FloorDiv => if 0 < j ∧ j < 1073741824 then some (i / j) else none
  | .Mod => if 0 < j then some (i % j) else none
  | .Pow => if 0 ≤ j ∧ j ≤ 1000000 ∧ i.natAbs < 2 ^ 64 then some (i ^ j.toNat) else none
  | _ => none

def binD (op : Operator) (x y : D) : Option D :=
  match op, x, y with
  | .Add, .lst xs, .lst ys => if xs.length + ys.length ≤ LIM then some (.lst (xs ++ ys)) else none
  | .Mult, .lst xs, .int k => if -(2 ^ 62) < k ∧ k < 2 ^ 62 ∧ xs.length * k.toNat ≤ LIM then some (.lst (List.replicate k.toNat xs).flatten) else none
  | op, .int i, .int j => (binI op i j).map .int
  | _, _, _ => none

def cmpI (op : CmpOp) (i j : Int) : Option Bool :=
  match op with
  | .Lt => some (decide (i < j))
  | .LtE => some (decide (i ≤ j))
  | .Gt => some (decide (j < i))
  | .GtE => some (decide (j ≤ i))
  | _ => none

def D.isNon : D → Bool
  | .non => true
  | _ => false

def cmpD (op : CmpOp) (x y : D) : Option Bool :=
  match op with
  | .Eq => deq x y
  | .NotEq => (deq x y).map (!·)
  | .Is => if y.isNon then some x.isNon else none
  | .IsNot => if y.isNon then some (!x.isNon) else none
  | op => match x, y with
    | .int i, .int j => cmpI op i j
    | _, _ => none

def ixD (x : D) (i : Int) : Option D :=
  match x with
  | .lst xs => atI xs i
  | .tup xs => atI xs i
  | _ => none

def allB : List D → Option (List Bool)
  | [] => some []
  | .bl b :: xs => (allB xs).map (b :: ·)
  | _ :: _ => none

def absI (i : Int) : Int := if i < 0 then -i else i
def max2I (i j : Int) : Int := if j > i then j else i
def min2I (i j : Int) : Int := if j < i then j else i

def lenD : D → Option Nat
  | .lst xs => some xs.length
  | .tup xs => some xs.length
  | _ => none

def intsOf : List D → Option (List Int)
  | [] => some []
  | .int i :: xs => (intsOf xs).map (i :: ·)
  | _ :: _ => none
def cutL {α : Type} (xs : List α) (lo hi : Option Int) : List α := (xs.drop (HT.sIx xs.length 0 lo)).take (HT.sIx xs.length xs.length hi - HT.sIx xs.length 0 lo)
def slD (x : D) (lo hi : Option Int) : Option D :=
  match x with
  | .lst xs => some (.lst (cutL xs lo hi))
  | _ => none
def revD : D → Option D
  | .lst xs => some (.lst xs.reverse)
  | _ => none
def cntD (x y : D) : Option D :=
  match x, y with
  | .lst xs, .int k => (intsOf xs).map fun ns => .int (ns.count k : Nat)
  | _, _ => none
def augI (op : Operator) (i j : Int) : Option Int :=
  match op with
  | .Add => some (i + j)
  | .Sub => some (i - j)
  | _ => none
/-- built-in functions over data -/
def biD (b : BI) (xs : List D) : Option D :=
  match b, xs with
  | .len, [x] => (lenD x).map fun n => .int n
  | .abs, [.int i] => some (.int (absI i))
  | .int, [.int i] => some (.int i)
  | .int, [.bl b] => some (.int (if b then 1 else 0))
  | .max, [.int i, .int j] => some (.int (max2I i j))
  | .min, [.int i, .int j] => some (.int (min2I i j))
  | .divmod, [.int i, .int j] => if 0 < j ∧ j < 1073741824 then some (.tup [.int (i / j), .int (i % j)]) else none
  | .all, [.lst xs] => (allB xs).map fun bs => .bl (bs.all id)
  | .list, [.lst xs] => some (.lst xs)
  | .list, [.tup xs] => some (.lst xs)
  | .tuple, [.lst xs] => some (.tup xs)
  | .sum, [.lst xs] => (intsOf xs).map fun ns => .int ns.sum
  | _, _ => none

def datas : List Val → Option (List D)
  | [] => some []
  | .d x :: vs => (datas vs).map (x :: ·)
  | _ :: _ => none
def ats : List Val → Mem → Option (List D)
  | [], _ => some []
  | v :: vs, M => (v.at M).bind fun x => (ats vs M).map (x :: ·)

def part : List Val → Option (Option Int)
  | [] => some none
  | [.d (.int i)] => some (some i)
  | _ => none
def partR (r : Res (List Val)) : Res (Option Int) := r.bind fun vs M => Res.lift (part vs) M
def isLst (v : Val) (M : Mem) : Bool :=
  match v.at M with
  | some (.lst _) => true
  | _ => false
def getI (o i : Val) (M : Mem) : Option Int :=
  match o.at M, i with
  | some (.lst xs), .d (.int k) => match (if 0 ≤ k then atI xs k else none) with
    | some (.int a) => some a
    | _ => none
  | _, _ => none
def Ty.nm : Ty → String
  | .int => "int" | .bool => "bool" | .list => "list" | .tuple => "tuple" | .str => "str"
def isT (t : Ty) (x : D) : Bool :=
  match t, x with
  | .int, .int _ => true
  | .int, .bl _ => true
  | .bool, .bl _ => true
  | .list, .lst _ => true
  | .tuple, .tup _ => true
  | .str, .str _ => true
  | _, _ => false

/-- items that a walk yields: a value, or a fresh tuple that is taken apart at once -/
inductive Itm where
  | v (x : Val)
  | p (xs : List Val)

def rng (lo : Int) (n : Nat) : List Val := (List.range n).map fun (k : Nat) => Val.d (D.int (lo + (k : Int)))

/-! targets -/
mutual
def Tg.put : Tg → Val → Env → Mem → Option Env
  | .slot i, v, env, _ => some (env.set i (some v))
  | .tup ts, v, env, M => match v.at M with
    | some (.tup xs) => ts.put (xs.map .d) env M
    | _ => none
def Tgs.put : Tgs → List Val → Env → Mem → Option Env
  | .nil, [], env, _ => some env
  | .cons t ts, v :: vs, env, M => (t.put v env M).bind fun env1 => ts.put vs env1 M
  | _, _, _, _ => none
end
def Tg.putI : Tg → Itm → Env → Mem → Option Env
  | t, .v x, env, M => t.put x env M
  | .tup ts, .p xs, env, M => ts.put xs env M
  | .slot _, .p _, _, _ => none

/-- the slots of a block's own names forgotten -/
def wipeE (env : Env) : List Nat → Env
  | [] => env
  | i :: is => (wipeE env is).set i none

def lcGo (tg : Tg) (own : List Nat) (env : Env) (tst : Env → Mem → Res Bool) (el : Env → Mem → Res Val) : List Itm → List D → Mem → Res Val
  | [], acc, M => .ok (.d (.lst acc)) M
  | x :: xs, acc, M =>
    match tg.putI x (wipeE env own) M with
    | none => .stuck
    | some env1 => (tst env1 M).bind fun b M1 =>
      if b then (el env1 M1).bind fun v M2 =>
        match v with
        | .d y => if acc.length < LIM then lcGo tg own env tst el xs (acc ++ [y]) M2 else .stuck
        | _ => .stuck
      else lcGo tg own env tst el xs acc M1

abbrev Oracle := Str → List Val → Mem → Res Val

def truR (r : Res Val) : Res Bool := r.bind fun v M => Res.lift ((v.at M).map D.tru) M

def RNG : Int := 100000000

mutual
def Ex.ev (F : Oracle) : Ex → Env → Mem → Res Val
  | .slot i, env, M => match env[i]? with
    | some (some v) => .ok v M
    | _ => .stuck
  | .cst x, _, M => .ok (.d x) M
  | .bin op a b, env, M => (a.ev F env M).bind fun x M1 => (b.ev F env M1).bind fun y M2 =>
      Res.lift ((x.pl M2).bind fun x => (y.pl M2).bind fun y => (binD op x y).map .d) M2
  | .neg a, env, M => (a.ev F env M).bind fun x M1 => match x with
      | .d (.int i) => .ok (.d (.int (-i))) M1
      | _ => .stuck
  | .cmp op a b, env, M => (a.ev F env M).bind fun x M1 => (b.ev F env M1).bind fun y M2 =>
      Res.lift ((x.at M2).bind fun x => (y.at M2).bind fun y => (cmpD op x y).map fun b => .d (.bl b)) M2
  | .cmp2 op op2 a b c, env, M => (a.ev F env M).bind fun x M1 => (b.ev F env M1).bind fun y M2 =>
      (Res.lift ((x.at M2).bind fun x => (y.at M2).bind fun y => cmpD op x y) M2).bind fun k M2 =>
        if k then (c.ev F env M2).bind fun z M3 => Res.lift ((y.at M3).bind fun y => (z.at M3).bind fun z => (cmpD op2 y z).map fun b => .d (.bl b)) M3
        else .ok (.d (.bl false)) M2
  | .and_ a b, env, M => (a.ev F env M).bind fun x M1 => match (x.at M1).map D.tru with
      | some true => b.ev F env M1
      | some false => .ok x M1
      | none => .stuck
  | .or_ a b, env, M => (a.ev F env M).bind fun x M1 => match (x.at M1).map D.tru with
      | some true => .ok x M1
      | some false => b.ev F env M1
      | none => .stuck
  | .not_ a, env, M => (truR (a.ev F env M)).bind fun b M1 => .ok (.d (.bl (!b))) M1
  | .ife c a b, env, M => (truR (c.ev F env M)).bind fun k M1 => if k then a.ev F env M1 else b.ev F env M1
  | .tup es, env, M => (es.ev F env M).bind fun vs M1 => Res.lift ((datas vs).bind fun xs => if xs.length ≤ LIM then some (.d (.tup xs)) else none) M1
  | .lst es, env, M => (es.ev F env M).bind fun vs M1 => Res.lift ((datas vs).bind fun xs => if xs.length ≤ LIM then some (.d (.lst xs)) else none) M1
  | .mk es, env, M => (es.ev F env M).bind fun vs M1 => match datas vs with
      | some xs => if xs.length ≤ LIM then .ok (.ref M1.length) (M1 ++ [.lst xs]) else .stuck
      | none => .stuck
  | .ix a b, env, M => (a.ev F env M).bind fun x M1 => (b.ev F env M1).bind fun y M2 =>
      match x.at M2, y with
      | some x, .d (.int i) => Res.lift ((ixD x i).map .d) M2
      | _, _ => .stuck
  | .call f es, env, M => (es.ev F env M).bind fun vs M1 => F f vs M1
  | .bi b es, env, M => (es.ev F env M).bind fun vs M1 => Res.lift ((ats vs M1).bind fun xs => (biD b xs).map .d) M1
  | .isi a ts, env, M => (a.ev F env M).bind fun x M1 => Res.lift ((x.at M1).map fun x => .d (.bl (ts.any fun t => isT t x))) M1
  | .comp it tg own cs e, env, M => (it.ev F env M).bind fun xs M1 =>
      lcGo tg own env (fun env M => cs.tst F env M) (fun env M => e.ev F env M) xs [] M1
  | .frz e, env, M => (e.ev F env M).bind fun x M1 => match x with
      | .d x => .ok (.d x) M1
      | .ref i => match M1[i]? with
        | some (.lst xs) => .ok (.d (.lst xs)) (M1.set i .gone)
        | _ => .stuck
      | .scr _ => .stuck
  | .sl a lo hi, env, M => (a.ev F env M).bind fun x M1 => (partR (lo.ev F env M1)).bind fun l M2 => (partR (hi.ev F env M2)).bind fun h M3 =>
      Res.lift ((x.at M3).bind fun x => (slD x l h).map .d) M3
  | .rev a, env, M => (a.ev F env M).bind fun x M1 => Res.lift ((x.at M1).bind fun x => (revD x).map .d) M1
  | .lcnt a b, env, M => (a.ev F env M).bind fun x M1 => if isLst x M1 then (b.ev F env M1).bind fun y M2 =>
      Res.lift ((x.at M2).bind fun x => (y.at M2).bind fun y => (cntD x y).map .d) M2 else .stuck
  | .new e, env, M => (e.ev F env M).bind fun x M1 => match x with
      | .d (.lst xs) => .ok (.ref M1.length) (M1 ++ [.lst xs])
      | _ => .stuck
def Exs.ev (F : Oracle) : Exs → Env → Mem → Res (List Val)
  | .nil, _, M => .ok [] M
  | .cons e es, env, M => (e.ev F env M).bind fun v M1 => (es.ev F env M1).bind fun vs M2 => .ok (v :: vs) M2
def Exs.tst (F : Oracle) : Exs → Env → Mem → Res Bool
  | .nil, _, M => .ok true M
  | .cons e es, env, M => (truR (e.ev F env M)).bind fun b M1 => if b then es.tst F env M1 else .ok false M1
def It.ev (F : Oracle) : It → Env → Mem → Res (List Itm)
  | .seq e, env, M => (e.ev F env M).bind fun x M1 => match x with
      | .d (.lst xs) => .ok (xs.map fun x => .v (.d x)) M1
      | .d (.tup xs) => .ok (xs.map fun x => .v (.d x)) M1
      | _ => .stuck
  | .rng1 a, env, M => (a.ev F env M).bind fun x M1 => match x with
      | .d (.int j) => if -RNG ≤ j ∧ j < RNG then .ok ((rng 0 j.toNat).map .v) M1 else .stuck
      | _ => .stuck
  | .rng2 a b, env, M => (a.ev F env M).bind fun x M1 => (b.ev F env M1).bind fun y M2 => match x, y with
      | .d (.int i), .d (.int j) => if (-RNG ≤ i ∧ i < RNG) ∧ -RNG ≤ j ∧ j < RNG then .ok ((rng i (j - i).toNat).map .v) M2 else .stuck
      | _, _ => .stuck
  | .enm e, env, M => (e.ev F env M).bind fun x M1 => match x with
      | .d (.lst xs) => if xs.length ≤ LIM then .ok (xs.zipIdx.map fun p => .p [.d (.int p.2), .d p.1]) M1 else .stuck
      | _ => .stuck
  | .zip a b, env, M => (a.ev F env M).bind fun x M1 => (b.ev F env M1).bind fun y M2 => match x, y with
      | .d (.lst xs), .d (.lst ys) => .ok ((xs.zip ys).map fun p => .p [.d p.1, .d p.2]) M2
      | .d (.tup xs), .d (.tup ys) => .ok ((xs.zip ys).map fun p => .p [.d p.1, .d p.2]) M2
      | _, _ => .stuck
end

/-! statements -/
inductive Fl where
  | nx | rt (v : Val) | bk | ct

def forGo (tg : Tg) (body : Env → Mem → Res (Fl × Env)) : List Itm → Env → Mem → Res (Fl × Env)
  | [], env, M => .ok (.nx, env) M
  | x :: xs, env, M =>
    match tg.putI x env M with
    | none => .stuck
    | some env1 => (body env1 M).bind fun p M1 =>
      match p.1 with
      | .nx => forGo tg body xs p.2 M1
      | .ct => forGo tg body xs p.2 M1
      | .bk => .ok (.nx, p.2) M1
      | .rt v => .ok (.rt v, p.2) M1

def whileGo (tst : Env → Mem → Res Bool) (body : Env → Mem → Res (Fl × Env)) : Nat → Env → Mem → Res (Fl × Env)
  | 0, _, _ => .stuck
  | n + 1, env, M => (tst env M).bind fun b M1 =>
    if b then (body env M1).bind fun p M2 =>
      match p.1 with
      | .nx => whileGo tst body n p.2 M2
      | .ct => whileGo tst body n p.2 M2
      | .bk => .ok (.nx, p.2) M2
      | .rt v => .ok (.rt v, p.2) M2
    else .ok (.nx, env) M1

def setAt (o i v : Val) (M : Mem) : Option Mem :=
  match o, i, v with
  | .ref r, .d (.int k), .d y => match M[r]? with
    | some (.lst xs) => (ixN xs.length k).map fun j => M.set r (.lst (xs.set j y))
    | _ => none
  | _, _, _ => none

def Lts.len : Lts → Nat
  | .nil => 0
  | .slot _ ts => ts.len + 1
  | .sub _ _ ts => ts.len + 1
def Lts.put (F : Oracle) : Lts → List Val → Env → Mem → Res Env
  | .nil, [], env, M => .ok env M
  | .slot i ts, v :: vs, env, M => ts.put F vs (env.set i (some v)) M
  | .sub o i ts, v :: vs, env, M => (o.ev F env M).bind fun r M1 => (i.ev F env M1).bind fun k M2 => match setAt r k v M2 with
      | some M3 => ts.put F vs env M3
      | none => .stuck
  | _, _, _, _ => .stuck

mutual
def St.ex (F : Oracle) : St → Env → Mem → Res (Fl × Env)
  | .expr e, env, M => (e.ev F env M).bind fun _ M1 => .ok (.nx, env) M1
  | .asg i e, env, M => (e.ev F env M).bind fun v M1 => .ok (.nx, env.set i (some v)) M1
  | .unp ts e, env, M => (e.ev F env M).bind fun v M1 => match (Tg.tup ts).put v env M1 with
      | some env1 => .ok (.nx, env1) M1
      | none => .stuck
  | .unm ts e, env, M => (e.ev F env M).bind fun v M1 => match v.at M1 with
      | some (.tup xs) => (ts.put F (xs.map .d) env M1).bind fun env1 M2 => .ok (.nx, env1) M2
      | _ => .stuck
  | .par i j es, env, M => (es.ev F env M).bind fun vs M1 => match vs with
      | [v, u] => .ok (.nx, (env.set i (some v)).set j (some u)) M1
      | _ => .stuck
  | .set o i e, env, M => (e.ev F env M).bind fun v M1 => (o.ev F env M1).bind fun r M2 => (i.ev F env M2).bind fun k M3 => match setAt r k v M3 with
      | some M4 => .ok (.nx, env) M4
      | none => .stuck
  | .ret e, env, M => (e.ev F env M).bind fun v M1 => .ok (.rt v, env) M1
  | .retN, env, M => .ok (.rt (.d .non), env) M
  | .ifs c a b, env, M => (truR (c.ev F env M)).bind fun k M1 => if k then a.ex F env M1 else b.ex F env M1
  | .for_ it tg b, env, M => (it.ev F env M).bind fun xs M1 => forGo tg (fun env M => b.ex F env M) xs env M1
  | .while_ c b, env, M => whileGo (fun env M => truR (c.ev F env M)) (fun env M => b.ex F env M) 1000000 env M
  | .brk, env, M => .ok (.bk, env) M
  | .cnt, env, M => .ok (.ct, env) M
  | .pass, env, M => .ok (.nx, env) M
  | .aug i op e, env, M => (e.ev F env M).bind fun v M1 => match env[i]?, v with
      | some (some (.d (.int a))), .d (.int b) => match augI op a b with
        | some c => .ok (.nx, env.set i (some (.d (.int c)))) M1
        | none => .stuck
      | _, _ => .stuck
  | .augS o i op e, env, M => (o.ev F env M).bind fun r M1 => (i.ev F env M1).bind fun k M2 => match getI r k M2 with
      | some a => (e.ev F env M2).bind fun v M3 => match v with
        | .d (.int b) => match (augI op a b).bind fun c => setAt r k (.d (.int c)) M3 with
          | some M4 => .ok (.nx, env) M4
          | none => .stuck
        | _ => .stuck
      | none => .stuck
def Sts.ex (F : Oracle) : Sts → Env → Mem → Res (Fl × Env)
  | .nil, env, M => .ok (.nx, env) M
  | .cons s ss, env, M => (s.ex F env M).bind fun p M1 =>
      match p.1 with
      | .nx => ss.ex F p.2 M1
      | f => .ok (f, p.2) M1
end

/-- what a call leaves -/
def leave (n : Nat) (v : Val) (M : Mem) : Res Val :=
  match v with
  | .d x => .ok (.d x) (M.take n)
  | .ref i => if i < n then .ok (.ref i) (M.take n) else .ok (.ref i) M
  | .scr _ => .stuck

def fin (n : Nat) (f : Fl) (M : Mem) : Res Val :=
  match f with
  | .rt v => leave n v M
  | .nx => leave n (.d .non) M
  | _ => .stuck

/-- a def: how many names, how many parameters, the body -/
structure Fn where
  n : Nat
  ps : Nat
  body : Sts

def Fn.run (F : Oracle) (f : Fn) (vs : List Val) (M : Mem) : Res Val :=
  if vs.length = f.ps then
    (f.body.ex F (vs.map some ++ List.replicate (f.n - vs.length) none) M).bind fun p M1 => fin M.length p.1 M1
  else .stuck

abbrev Table := List (Str × Fn)
def call (T : Table) : Nat → Oracle
  | 0, _, _, _ => .stuck
  | n + 1, f, vs, M => match T.lookup f with
    | some fn => fn.run (call T n) vs M
    | none => .stuck
end VI
namespace VI
open PySem PySem.Spec PyProof.Rows L2

structure Wd where
  R : List Addr
  M : Mem
  H : Hp
  Z : List Addr

def Lq (w : Wd) (a : Addr) : Prop := ∃ (i : Nat) (ob : Ob), w.R[i]? = some a ∧ w.M[i]? = some ob ∧ ob ≠ Ob.gone
/-- what no data may be at: the store's objects, and what is hidden -/
def Lv (w : Wd) (a : Addr) : Prop := Lq w a ∨ a ∈ w.Z

def okS (s : Str) : Bool := s.cps.all (· < 0x110000)

def FzL (w : Wd) (a : Addr) (xs : List V) : Prop := w.H a = some (.lst xs) ∧ ¬ Lv w a
def FzT (K : PySem.W.Frag) (w : Wd) (a : Addr) (xs : List V) : Prop := (w.H a = some (.tup xs) ∧ ¬ Lv w a) ∨ SqT K (fun _ => none) a xs

theorem FzL.sq {K : PySem.W.Frag} {w : Wd} {a : Addr} {xs : List V} (h : FzL w a xs) : SqL K w.H a xs := SqL.of h.1
theorem FzT.sq {K : PySem.W.Frag} {w : Wd} {a : Addr} {xs : List V} (h : FzT K w a xs) : SqT K w.H a xs := by
  rcases h with h | h
  · exact SqT.of h.1
  · rcases h with (h | ⟨o, h⟩) | h
    · cases h
    · cases h
    · exact .inr h

mutual
def RepD (K : PySem.W.Frag) (w : Wd) : D → V → Prop
  | .non, x => x = .non
  | .bl b, x => x = .bl b
  | .int i, x => x = .int i
  | .str s, x => x = .str s ∧ okS s = true ∧ s.length ≤ sizeLine
  | .lst ds, x => ∃ a xs, x = .ref a ∧ FzL w a xs ∧ RepDs K w ds xs
  | .tup ds, x => ∃ a xs, x = .ref a ∧ FzT K w a xs ∧ RepDs K w ds xs
def RepDs (K : PySem.W.Frag) (w : Wd) : List D → List V → Prop
  | [], xs => xs = []
  | d :: ds, xs => ∃ y ys, xs = y :: ys ∧ RepD K w d y ∧ RepDs K w ds ys
end

def RepV (K : PySem.W.Frag) (w : Wd) : Val → V → Prop
  | .d x, v => RepD K w x v
  | .ref i, v => ∃ a, v = .ref a ∧ w.R[i]? = some a
  | .scr ns, v => ∃ a, v = .ref a ∧ (((∃ o, w.H a = some (.frz o (.lst (ns.map V.int)))) ∧ ¬ Lv w a) ∨ SqL K (fun _ => none) a (ns.map V.int))

def RepVs (K : PySem.W.Frag) (w : Wd) : List Val → List V → Prop
  | [], xs => xs = []
  | d :: ds, xs => ∃ y ys, xs = y :: ys ∧ RepV K w d y ∧ RepVs K w ds ys

def RepO (K : PySem.W.Frag) (w : Wd) (a : Addr) : Ob → Prop
  | .lst ds => ∃ xs, w.H a = some (.lst xs) ∧ RepDs K w ds xs
  | .gone => True

structure Ok (K : PySem.W.Frag) (w : Wd) : Prop where
  len : w.R.length = w.M.length
  ob : ∀ (i : Nat) a ob, w.R[i]? = some a → w.M[i]? = some ob → RepO K w a ob
  inj : ∀ (i j : Nat) a ob ob', w.R[i]? = some a → w.R[j]? = some a → w.M[i]? = some ob → w.M[j]? = some ob' → ob ≠ .gone → ob' ≠ .gone → i = j
  zz : ∀ a, a ∈ w.Z → (∃ u, w.H a = some u) ∧ ¬ Lq w a

structure ExtF (w w' : Wd) : Prop where
  fz : ∀ a o, w.H a = some o → ¬ Lv w a → w'.H a = some o ∧ ¬ Lv w' a
structure Ext0 (w w' : Wd) : Prop where
  fz : ∀ a o, w.H a = some o → ¬ Lv w a → w'.H a = some o ∧ ¬ Lv w' a
  kp : ∀ (i : Nat) a, w.R[i]? = some a → w'.R[i]? = some a
structure Ext (w w' : Wd) : Prop where
  fz : ∀ a o, w.H a = some o → ¬ Lv w a → w'.H a = some o ∧ ¬ Lv w' a
  kp : ∀ (i : Nat) a, w.R[i]? = some a → w'.R[i]? = some a
  zs : w'.Z = w.Z
  zh : ∀ a, a ∈ w.Z → w'.H a = w.H a

theorem Ext0.toF {w w' : Wd} (e : Ext0 w w') : ExtF w w' := ⟨e.fz⟩
theorem Ext.to0 {w w' : Wd} (e : Ext w w') : Ext0 w w' := ⟨e.fz, e.kp⟩
theorem Ext.refl (w : Wd) : Ext w w := ⟨fun _ _ h n => ⟨h, n⟩, fun _ _ h => h, rfl, fun _ _ => rfl⟩
theorem Ext.trans {a b c : Wd} (x : Ext a b) (y : Ext b c) : Ext a c :=
  ⟨fun p o h n => let ⟨h1, n1⟩ := x.fz p o h n; y.fz p o h1 n1, fun i p h => y.kp i p (x.kp i p h), y.zs.trans x.zs, fun p h => (y.zh p (by rw [x.zs]; exact h)).trans (x.zh p h)⟩

section
variable {K : PySem.W.Frag} {w w' : Wd}
theorem FzL.monoF (e : ExtF w w') {a : Addr} {xs : List V} (h : FzL w a xs) : FzL w' a xs := e.fz a _ h.1 h.2
theorem FzT.monoF (e : ExtF w w') {a : Addr} {xs : List V} (h : FzT K w a xs) : FzT K w' a xs := by
  rcases h with ⟨h, n⟩ | h
  · exact .inl (e.fz a _ h n)
  · exact .inr h
theorem sqL_mono {H H' : Hp} {a : Addr} {xs : List V} (hH : ∀ u, H a = some u → H' a = some u) (h : SqL K H a xs) : SqL K H' a xs := by
  rcases h with (h | ⟨o, h⟩) | h
  · exact .inl (.inl (hH _ h))
  · exact .inl (.inr ⟨o, hH _ h⟩)
  · exact .inr h
mutual
theorem RepD.monoF (e : ExtF w w') : ∀ (d : D) (x : V), RepD K w d x → RepD K w' d x
  | .non, _, h => by simpa only [RepD] using h
  | .bl _, _, h => by simpa only [RepD] using h
  | .int _, _, h => by simpa only [RepD] using h
  | .str _, _, h => by simpa only [RepD] using h
  | .lst ds, x, h => by
    rw [RepD] at h ⊢
    obtain ⟨a, xs, h1, h2, h3⟩ := h
    exact ⟨a, xs, h1, h2.monoF e, RepDs.monoF e ds xs h3⟩
  | .tup ds, x, h => by
    rw [RepD] at h ⊢
    obtain ⟨a, xs, h1, h2, h3⟩ := h
    exact ⟨a, xs, h1, h2.monoF e, RepDs.monoF e ds xs h3⟩
theorem RepDs.monoF (e : ExtF w w') : ∀ (ds : List D) (xs : List V), RepDs K w ds xs → RepDs K w' ds xs
  | [], xs, h => by simpa only [RepDs] using h
  | d :: ds, xs, h => by
    rw [RepDs] at h ⊢
    obtain ⟨y, ys, h1, h2, h3⟩ := h
    exact ⟨y, ys, h1, RepD.monoF e d y h2, RepDs.monoF e ds ys h3⟩
end
theorem RepD.mono0 (e : Ext0 w w') (d : D) (x : V) (h : RepD K w d x) : RepD K w' d x := RepD.monoF e.toF d x h
theorem RepDs.mono0 (e : Ext0 w w') (d : List D) (x : List V) (h : RepDs K w d x) : RepDs K w' d x := RepDs.monoF e.toF d x h
theorem FzL.mono0 (e : Ext0 w w') {a : Addr} {xs : List V} (h : FzL w a xs) : FzL w' a xs := h.monoF e.toF
theorem FzT.mono0 (e : Ext0 w w') {a : Addr} {xs : List V} (h : FzT K w a xs) : FzT K w' a xs := h.monoF e.toF
theorem RepV.mono0 (e : Ext0 w w') : ∀ {v : Val} {x : V}, RepV K w v x → RepV K w' v x
  | .d d, x, h => RepD.mono0 e d x h
  | .ref i, x, h => let ⟨a, h1, h2⟩ := h; ⟨a, h1, e.kp i a h2⟩
  | .scr ns, x, ⟨a, h1, h2⟩ => by
    refine ⟨a, h1, ?_⟩
    rcases h2 with ⟨⟨o, h2⟩, h3⟩ | h2
    · obtain ⟨q1, q2⟩ := e.fz a _ h2 h3
      exact .inl ⟨⟨o, q1⟩, q2⟩
    · exact .inr h2
theorem RepVs.mono0 (e : Ext0 w w') : ∀ {vs : List Val} {xs : List V}, RepVs K w vs xs → RepVs K w' vs xs
  | [], _, h => h
  | _ :: _, _, ⟨y, ys, h1, h2, h3⟩ => ⟨y, ys, h1, h2.mono0 e, RepVs.mono0 e h3⟩

theorem FzL.mono (e : Ext w w') {a : Addr} {xs : List V} (h : FzL w a xs) : FzL w' a xs := h.mono0 e.to0
theorem FzT.mono (e : Ext w w') {a : Addr} {xs : List V} (h : FzT K w a xs) : FzT K w' a xs := h.mono0 e.to0
theorem RepD.mono (e : Ext w w') {d : D} {x : V} (h : RepD K w d x) : RepD K w' d x := RepD.mono0 e.to0 d x h
theorem RepDs.mono (e : Ext w w') {d : List D} {x : List V} (h : RepDs K w d x) : RepDs K w' d x := RepDs.mono0 e.to0 d x h
theorem RepV.mono (e : Ext w w') {d : Val} {x : V} (h : RepV K w d x) : RepV K w' d x := h.mono0 e.to0
theorem RepVs.mono (e : Ext w w') {d : List Val} {x : List V} (h : RepVs K w d x) : RepVs K w' d x := h.mono0 e.to0

/-! lists of data -/
theorem RepDs.len : ∀ {ds : List D} {xs : List V}, RepDs K w ds xs → xs.length = ds.length
  | [], xs, h => by rw [RepDs] at h; rw [h]; rfl
  | d :: ds, xs, h => by
    rw [RepDs] at h
    obtain ⟨y, ys, rfl, _, h3⟩ := h
    rw [List.length_cons, List.length_cons, RepDs.len h3]
theorem RepDs.app : ∀ {ds es : List D} {xs ys : List V}, RepDs K w ds xs → RepDs K w es ys → RepDs K w (ds ++ es) (xs ++ ys)
  | [], es, xs, ys, h, h2 => by rw [RepDs] at h; rw [h]; exact h2
  | d :: ds, es, xs, ys, h, h2 => by
    rw [RepDs] at h
    obtain ⟨y, zs, rfl, h3, h4⟩ := h
    rw [List.cons_append, List.cons_append, RepDs]
    exact ⟨y, _, rfl, h3, RepDs.app h4 h2⟩
theorem RepDs.one {d : D} {x : V} (h : RepD K w d x) : RepDs K w [d] [x] := by
  rw [RepDs]
  exact ⟨x, [], rfl, h, by rw [RepDs]⟩
theorem RepDs.get : ∀ {ds : List D} {xs : List V} {i : Nat} {d : D}, RepDs K w ds xs → ds[i]? = some d → ∃ x, xs[i]? = some x ∧ RepD K w d x
  | [], xs, i, d, _, h => by simp at h
  | e :: ds, xs, 0, d, h, h2 => by
    rw [RepDs] at h
    obtain ⟨y, ys, rfl, h3, _⟩ := h
    simp at h2
    subst h2
    exact ⟨y, rfl, h3⟩
  | e :: ds, xs, i + 1, d, h, h2 => by
    rw [RepDs] at h
    obtain ⟨y, ys, rfl, _, h4⟩ := h
    obtain ⟨x, q1, q2⟩ := RepDs.get (i := i) h4 (by simpa using h2)
    exact ⟨x, by simpa using q1, q2⟩
theorem RepDs.setI : ∀ {ds : List D} {xs : List V} {d : D} {x : V} (i : Nat), RepDs K w ds xs → RepD K w d x → RepDs K w (ds.set i d) (xs.set i x)
  | [], xs, d, x, i, h, _ => by rw [RepDs] at h; subst h; simp [RepDs]
  | e :: ds, xs, d, x, 0, h, h2 => by
    rw [RepDs] at h
    obtain ⟨y, ys, rfl, _, h4⟩ := h
    rw [List.set_cons_zero, List.set_cons_zero, RepDs]
    exact ⟨x, ys, rfl, h2, h4⟩
  | e :: ds, xs, d, x, i + 1, h, h2 => by
    rw [RepDs] at h
    obtain ⟨y, ys, rfl, h3, h4⟩ := h
    rw [List.set_cons_succ, List.set_cons_succ, RepDs]
    exact ⟨y, _, rfl, h3, RepDs.setI i h4 h2⟩
theorem RepDs.rep {ds : List D} {xs : List V} (h : RepDs K w ds xs) : ∀ n : Nat, RepDs K w (List.replicate n ds).flatten (List.replicate n xs).flatten
  | 0 => by simp [RepDs]
  | n + 1 => by
    rw [List.replicate_succ, List.replicate_succ, List.flatten_cons, List.flatten_cons]
    exact h.app (RepDs.rep h n)
theorem RepDs.vs : ∀ {ds : List D} {xs : List V}, RepDs K w ds xs → RepVs K w (ds.map Val.d) xs
  | [], xs, h => by rw [RepDs] at h; exact h
  | d :: ds, xs, h => by
    rw [RepDs] at h
    obtain ⟨y, ys, rfl, h3, h4⟩ := h
    exact ⟨y, ys, rfl, h3, RepDs.vs h4⟩

/-! what an address holds -/
theorem Ok.trackedQ (o : Ok K w) {a : Addr} (l : Lq w a) : ∃ u, w.H a = some u := by
  obtain ⟨i, ob, h1, h2, h3⟩ := l
  have r := o.ob i a ob h1 h2
  cases ob with
  | lst ds => obtain ⟨xs, e, _⟩ := r; exact ⟨_, e⟩
  | gone => exact absurd rfl h3
theorem Ok.tracked (o : Ok K w) {a : Addr} (l : Lv w a) : ∃ u, w.H a = some u := by
  rcases l with l | l
  · exact o.trackedQ l
  · exact (o.zz a l).1
theorem Ok.notLive (o : Ok K w) {a : Addr} (h : w.H a = none) : ¬ Lv w a := fun l => by
  obtain ⟨u, e⟩ := o.tracked l
  rw [h] at e
  cases e

/-- a new object that is not in the store -/
def Wd.new (w : Wd) (p : Addr) (o : HO) : Wd := { w with H := upd w.H p o }
theorem ext_new (o : Ok K w) {p : Addr} {u : HO} (h : w.H p = none) : Ext w (w.new p u) :=
  ⟨fun a v e n => ⟨by show upd w.H p u a = _; rw [upd_ne (ne_of_none e h)]; exact e, n⟩, fun _ _ e => e, rfl, fun a ha => by
    obtain ⟨⟨v, e⟩, _⟩ := o.zz a ha
    show upd w.H p u a = _
    rw [upd_ne (ne_of_none e h)]⟩
theorem RepO.mono0 {a : Addr} (e : Ext0 w w') (hH : ∀ u, w.H a = some u → w'.H a = some u) : ∀ {ob : Ob}, RepO K w a ob → RepO K w' a ob
  | .lst ds, ⟨xs, h1, h2⟩ => ⟨xs, hH _ h1, RepDs.mono0 e _ _ h2⟩
  | .gone, _ => trivial
theorem RepO.mono {a : Addr} (e : Ext w w') (hH : ∀ u, w.H a = some u → w'.H a = some u) {ob : Ob} (h : RepO K w a ob) : RepO K w' a ob := h.mono0 e.to0 hH
theorem ok_new (o : Ok K w) {p : Addr} {u : HO} (h : w.H p = none) : Ok K (w.new p u) := by
  have e := ext_new o (u := u) h
  refine ⟨o.len, fun i a ob h1 h2 => RepO.mono e (fun v q => ?_) (o.ob i a ob h1 h2), o.inj, fun a ha => ?_⟩
  · show upd w.H p u a = _
    rw [upd_ne (ne_of_none q h)]
    exact q
  · obtain ⟨⟨v, z⟩, n⟩ := o.zz a ha
    exact ⟨⟨v, (e.zh a ha).trans z⟩, n⟩
theorem notLive_new (o : Ok K w) {p : Addr} {u : HO} (h : w.H p = none) : ¬ Lv (w.new p u) p := fun l => o.notLive h l
theorem rep_newL (o : Ok K w) {p : Addr} {xs : List V} {ds : List D} (h : w.H p = none) (r : RepDs K w ds xs) : RepD K (w.new p (.lst xs)) (.lst ds) (.ref p) := by
  rw [RepD]
  exact ⟨p, xs, rfl, ⟨upd_same, notLive_new o h⟩, r.mono (ext_new o h)⟩
theorem rep_newT (o : Ok K w) {p : Addr} {xs : List V} {ds : List D} (h : w.H p = none) (r : RepDs K w ds xs) : RepD K (w.new p (.tup xs)) (.tup ds) (.ref p) := by
  rw [RepD]
  exact ⟨p, xs, rfl, .inl ⟨upd_same, notLive_new o h⟩, r.mono (ext_new o h)⟩

/-- a new object of the store -/
def Wd.push (w : Wd) (p : Addr) (o : HO) (ob : Ob) : Wd := ⟨w.R ++ [p], w.M ++ [ob], upd w.H p o, w.Z⟩
theorem get_push {α : Type} {l : List α} {x y : α} {i : Nat} (h : (l ++ [x])[i]? = some y) : l[i]? = some y ∨ (i = l.length ∧ y = x) := by
  rcases Nat.lt_or_ge i l.length with q | q
  · rw [List.getElem?_append_left q] at h
    exact .inl h
  · rw [List.getElem?_append_right q] at h
    rcases Nat.eq_zero_or_pos (i - l.length) with z | z
    · rw [z] at h
      simp at h
      exact .inr ⟨by omega, h.symm⟩
    · rw [List.getElem?_eq_none (by rw [List.length_singleton]; omega)] at h
      cases h
theorem get_app {α : Type} {l r : List α} {y : α} {i : Nat} (h : l[i]? = some y) : (l ++ r)[i]? = some y := by
  rw [List.getElem?_append_left (List.getElem?_eq_some_iff.mp h).1]
  exact h
theorem ext_push (o : Ok K w) {p : Addr} {u : HO} {ob : Ob} (h : w.H p = none) : Ext w (w.push p u ob) := by
  refine ⟨fun a v e n => ⟨?_, ?_⟩, fun i a e => get_app e, rfl, fun a ha => ?_⟩
  · show upd w.H p u a = _
    rw [upd_ne (ne_of_none e h)]
    exact e
  rotate_left
  · obtain ⟨⟨v, z⟩, _⟩ := o.zz a ha
    show upd w.H p u a = _
    rw [upd_ne (ne_of_none z h)]
  · rintro (⟨i, ob', h1, h2, h3⟩ | hz)
    rotate_left
    · exact n (.inr hz)
    have h1 : (w.R ++ [p])[i]? = some a := h1
    have h2 : (w.M ++ [ob])[i]? = some ob' := h2
    rcases get_push h1 with q | ⟨q, rfl⟩
    · rcases get_push h2 with q2 | ⟨q2, _⟩
      · exact n (.inl ⟨i, ob', q, q2, h3⟩)
      · have := (List.getElem?_eq_some_iff.mp q).1
        rw [o.len] at this
        omega
    · rw [h] at e
      cases e
theorem ok_push (o : Ok K w) {p : Addr} {xs : List V} {ds : List D} (h : w.H p = none) (r : RepDs K w ds xs) : Ok K (w.push p (.lst xs) (.lst ds)) := by
  have e := ext_push o (u := .lst xs) (ob := .lst ds) h
  have key : ∀ (i : Nat) a ob, (w.R ++ [p])[i]? = some a → (w.M ++ [Ob.lst ds])[i]? = some ob → (w.R[i]? = some a ∧ w.M[i]? = some ob) ∨ (i = w.R.length ∧ a = p ∧ ob = .lst ds) := fun i a ob h1 h2 => by
    rcases get_push h1 with q | ⟨q, rfl⟩
    · rcases get_push h2 with q2 | ⟨q2, _⟩
      · exact .inl ⟨q, q2⟩
      · have := (List.getElem?_eq_some_iff.mp q).1
        rw [o.len] at this
        omega
    · rcases get_push h2 with q2 | ⟨q2, rfl⟩
      · have := (List.getElem?_eq_some_iff.mp q2).1
        rw [← o.len] at this
        omega
      · exact .inr ⟨q, rfl, rfl⟩
  refine ⟨?_, fun i a ob h1 h2 => ?_, fun i j a ob ob' h1 h2 h3 h4 n1 n2 => ?_, fun a ha => ?_⟩
  rotate_left 3
  · obtain ⟨⟨v, z⟩, n⟩ := o.zz a ha
    refine ⟨⟨v, (e.zh a ha).trans z⟩, ?_⟩
    rintro ⟨i, ob, h1, h2, h3⟩
    rcases key i a ob h1 h2 with ⟨q1, q2⟩ | ⟨_, rfl, _⟩
    · exact n ⟨i, ob, q1, q2, h3⟩
    · rw [h] at z
      cases z
  · show (w.R ++ [p]).length = (w.M ++ [Ob.lst ds]).length
    rw [List.length_append, List.length_append, o.len]
    rfl
  · rcases key i a ob h1 h2 with ⟨q1, q2⟩ | ⟨_, rfl, rfl⟩
    · refine RepO.mono e (fun v q => ?_) (o.ob i a ob q1 q2)
      show upd w.H p _ a = _
      rw [upd_ne (ne_of_none q h)]
      exact q
    · exact ⟨xs, upd_same, r.mono e⟩
  · have nl : ∀ (k : Nat) ob, w.R[k]? = some p → w.M[k]? = some ob → ob ≠ .gone → False := fun k ob q1 q2 n => o.notLive h (.inl ⟨k, ob, q1, q2, n⟩)
    rcases key i a ob h1 h3 with ⟨q1, q2⟩ | ⟨e1, rfl, rfl⟩
    · rcases key j a ob' h2 h4 with ⟨q3, q4⟩ | ⟨_, rfl, _⟩
      · exact o.inj i j a ob ob' q1 q3 q2 q4 n1 n2
      · exact (nl i ob q1 q2 n1).elim
    · rcases key j a ob' h2 h4 with ⟨q3, q4⟩ | ⟨e2, _, _⟩
      · exact (nl j ob' q3 q4 n2).elim
      · rw [e1, e2]

/-- an object of the store is changed -/
def Wd.mut (w : Wd) (i : Nat) (a : Addr) (o : HO) (ob : Ob) : Wd := ⟨w.R, w.M.set i ob, upd w.H a o, w.Z⟩
theorem get_setI {l : List Ob} {i j : Nat} {x y : Ob} (h : (l.set i x)[j]? = some y) : (j = i ∧ y = x ∧ i < l.length) ∨ (j ≠ i ∧ l[j]? = some y) := by
  by_cases q : i = j
  · subst q
    rcases Nat.lt_or_ge i l.length with z | z
    · rw [List.getElem?_set_self z] at h
      exact .inl ⟨rfl, (Option.some.inj h).symm, z⟩
    · rw [List.getElem?_eq_none (by simpa using z)] at h
      cases h
  · rw [List.getElem?_set_ne q] at h
    exact .inr ⟨fun z => q z.symm, h⟩
theorem ext_mut (o : Ok K w) {i : Nat} {a : Addr} {ob ob' : Ob} {u : HO} (h1 : w.R[i]? = some a) (h2 : w.M[i]? = some ob') (h3 : ob' ≠ .gone) : Ext w (w.mut i a u ob) := by
  refine ⟨fun b v e n => ⟨?_, ?_⟩, fun _ _ e => e, rfl, fun b hb => ?_⟩
  · show upd w.H a u b = _
    rw [upd_ne (fun z => n (by rw [z]; exact .inl ⟨i, ob', h1, h2, h3⟩))]
    exact e
  rotate_left
  · show upd w.H a u b = _
    rw [upd_ne (fun z => (o.zz b hb).2 (by rw [z]; exact ⟨i, ob', h1, h2, h3⟩))]
  · rintro (⟨j, ob2, q1, q2, q3⟩ | hz)
    rotate_left
    · exact n (.inr hz)
    have q2 : (w.M.set i ob)[j]? = some ob2 := q2
    rcases get_setI q2 with ⟨rfl, rfl, _⟩ | ⟨_, q⟩
    · have q1 : w.R[j]? = some b := q1
      rw [h1] at q1
      cases q1
      exact n (.inl ⟨j, ob', h1, h2, h3⟩)
    · exact n (.inl ⟨j, ob2, q1, q, q3⟩)
theorem ok_mut (o : Ok K w) {i : Nat} {a : Addr} {ob' : Ob} {xs : List V} {ds : List D} (h1 : w.R[i]? = some a) (h2 : w.M[i]? = some ob') (h3 : ob' ≠ .gone) (r : RepDs K w ds xs) : Ok K (w.mut i a (.lst xs) (.lst ds)) := by
  have e := ext_mut o (u := .lst xs) (ob := .lst ds) h1 h2 h3
  refine ⟨by show w.R.length = (w.M.set i _).length; rw [List.length_set]; exact o.len, fun j b ob q1 q2 => ?_, fun j k b ob ob2 q1 q2 q3 q4 n1 n2 => ?_, fun b hb => ?_⟩
  rotate_left 2
  · obtain ⟨⟨v, z⟩, n⟩ := o.zz b hb
    refine ⟨⟨v, (e.zh b hb).trans z⟩, ?_⟩
    rintro ⟨j, ob, q1, q2, q3⟩
    have q2 : (w.M.set i _)[j]? = some ob := q2
    rcases get_setI q2 with ⟨rfl, _, _⟩ | ⟨_, q⟩
    · exact n ⟨j, ob', q1, h2, h3⟩
    · exact n ⟨j, ob, q1, q, q3⟩
  · have q2 : (w.M.set i _)[j]? = some ob := q2
    have q1 : w.R[j]? = some b := q1
    rcases get_setI q2 with ⟨rfl, rfl, _⟩ | ⟨nj, q⟩
    · cases h1.symm.trans q1
      exact ⟨xs, upd_same, r.mono e⟩
    · have go : ob ≠ .gone → RepO K (w.mut i a (.lst xs) (.lst ds)) b ob := fun n => by
        refine RepO.mono e (fun v z => ?_) (o.ob j b _ q1 q)
        show upd w.H a _ b = _
        rw [upd_ne]
        · exact z
        · intro z2
          subst z2
          exact nj (o.inj j i b _ _ q1 h1 q h2 n h3)
      cases ob with
      | gone => trivial
      | lst es => exact go (by intro z; cases z)
  · have q3 : (w.M.set i _)[j]? = some ob := q3
    have q4 : (w.M.set i _)[k]? = some ob2 := q4
    have live : ∀ {m : Nat} {ob3 : Ob}, (w.M.set i (Ob.lst ds))[m]? = some ob3 → ob3 ≠ .gone → ∃ ob4, w.M[m]? = some ob4 ∧ ob4 ≠ .gone := fun {m ob3} z n => by
      rcases get_setI z with ⟨rfl, _, _⟩ | ⟨_, q⟩
      · exact ⟨ob', h2, h3⟩
      · exact ⟨ob3, q, n⟩
    obtain ⟨o1, z1, m1⟩ := live q3 n1
    obtain ⟨o2, z2, m2⟩ := live q4 n2
    exact o.inj j k b o1 o2 q1 q2 z1 z2 m1 m2
end
end VI
set_option maxHeartbeats 1000000
namespace VI
open PySem PySem.Spec PyProof.Rows L2

/-! what a result is to bring -/
def PostG {α β : Type} (K : PySem.W.Frag) (rep : Wd → α → β → Prop) (w : Wd) (r : Res α) (Q : β → Hp → Prop) : Prop :=
  match r with
  | .stuck => False
  | .ok a M' => ∀ w' x, w'.M = M' → Ext w w' → Ok K w' → rep w' a x → Q x w'.H

section
variable {K : PySem.W.Frag} {w w1 : Wd} {α β γ δ : Type} {rep : Wd → α → β → Prop} {rep2 : Wd → γ → δ → Prop}
theorem PostG.mono {r : Res α} {Q : β → Hp → Prop} (e : Ext w w1) (h : PostG K rep w r Q) : PostG K rep w1 r Q := by
  cases r with
  | stuck => exact h
  | ok a M' => exact fun w' x hm e2 o rx => h w' x hm (e.trans e2) o rx
theorem PostG.bind {r : Res α} {f : α → Mem → Res γ} {Q : δ → Hp → Prop} (h : PostG K rep2 w (r.bind f) Q) :
    PostG K rep w r fun x H => ∃ w1 a, w1.H = H ∧ Ext w w1 ∧ Ok K w1 ∧ rep w1 a x ∧ PostG K rep2 w1 (f a w1.M) Q := by
  cases r with
  | stuck => exact h
  | ok a M' =>
    intro w' x hm e o rx
    subst hm
    exact ⟨w', a, rfl, e, o, rx, PostG.mono e h⟩
theorem PostG.imp {r : Res α} {Q Q' : β → Hp → Prop} (h : PostG K rep w r Q) (q : ∀ x H, Q x H → Q' x H) : PostG K rep w r Q' := by
  cases r with
  | stuck => exact h
  | ok a M' => exact fun w' x hm e o rx => q _ _ (h w' x hm e o rx)
theorem PostG.lift {o : Option α} {Q : β → Hp → Prop} (h : PostG K rep w (Res.lift o w.M) Q) (ok : Ok K w) : ∃ a, o = some a ∧ ∀ w' x, w'.M = w.M → Ext w w' → Ok K w' → rep w' a x → Q x w'.H := by
  cases o with
  | none => exact h.elim
  | some a => exact ⟨a, rfl, h⟩
end

/-! slots -/
structure EnvRep (K : PySem.W.Frag) (w : Wd) (env : Env) (σ : L2.St) : Prop where
  len : env.length = σ.length
  get : ∀ (i : Nat) v, env[i]? = some (some v) → ∃ x, σ[i]? = some (some x) ∧ RepV K w v x
section
variable {K : PySem.W.Frag} {w w' : Wd} {env : Env} {σ : L2.St}
theorem EnvRep.mono0 (r : EnvRep K w env σ) (e : Ext0 w w') : EnvRep K w' env σ :=
  ⟨r.len, fun i v h => let ⟨x, h1, h2⟩ := r.get i v h; ⟨x, h1, h2.mono0 e⟩⟩
theorem EnvRep.mono (r : EnvRep K w env σ) (e : Ext w w') : EnvRep K w' env σ :=
  ⟨r.len, fun i v h => let ⟨x, h1, h2⟩ := r.get i v h; ⟨x, h1, h2.mono e⟩⟩
theorem EnvRep.setI (r : EnvRep K w env σ) (i : Nat) {v : Val} {x : V} (h : RepV K w v x) : EnvRep K w (env.set i (some v)) (σ.set i (some x)) := by
  refine ⟨by rw [List.length_set, List.length_set]; exact r.len, fun j u e => ?_⟩
  by_cases q : i = j
  · subst q
    rcases Nat.lt_or_ge i env.length with z | z
    · rw [List.getElem?_set_self z] at e
      cases e
      exact ⟨x, by rw [List.getElem?_set_self (by rw [← r.len]; exact z)], h⟩
    · rw [List.getElem?_eq_none (by simpa using z)] at e
      cases e
  · rw [List.getElem?_set_ne q] at e
    obtain ⟨y, h1, h2⟩ := r.get j u e
    exact ⟨y, by rw [List.getElem?_set_ne q]; exact h1, h2⟩
theorem wipeE_len (env : Env) : ∀ is : List Nat, (wipeE env is).length = env.length
  | [] => rfl
  | i :: is => by unfold wipeE; rw [List.length_set, wipeE_len env is]
theorem EnvRep.wipe (r : EnvRep K w env σ) : ∀ is : List Nat, EnvRep K w (wipeE env is) (L2.wipe σ is)
  | [] => r
  | i :: is => by
    have h := EnvRep.wipe r is
    unfold wipeE L2.wipe
    refine ⟨by rw [List.length_set, List.length_set]; exact h.len, fun j u e => ?_⟩
    by_cases q : i = j
    · subst q
      rcases Nat.lt_or_ge i (wipeE env is).length with z | z
      · rw [List.getElem?_set_self z] at e
        cases e
      · rw [List.getElem?_eq_none (by simpa using z)] at e
        cases e
    · rw [List.getElem?_set_ne q] at e
      obtain ⟨y, h1, h2⟩ := h.get j u e
      exact ⟨y, by rw [List.getElem?_set_ne q]; exact h1, h2⟩
end

/-! readings -/
def tI (K : PySem.W.Frag) (F : Oracle) (e : Ex) : TE := fun σ H Q => ∃ env w, w.H = H ∧ Ok K w ∧ EnvRep K w env σ ∧ PostG K (RepV K) w (e.ev F env w.M) Q
def tIb (K : PySem.W.Frag) (F : Oracle) (e : Ex) : TT := fun σ H Q => ∃ env w, w.H = H ∧ Ok K w ∧ EnvRep K w env σ ∧ PostG K (fun _ a b => a = b) w (truR (e.ev F env w.M)) Q
def tIa (K : PySem.W.Frag) (F : Oracle) (es : Exs) : TA := fun σ H Q => ∃ env w, w.H = H ∧ Ok K w ∧ EnvRep K w env σ ∧ PostG K (RepVs K) w (es.ev F env w.M) Q
def tIt (K : PySem.W.Frag) (F : Oracle) (es : Exs) : TT := fun σ H Q => ∃ env w, w.H = H ∧ Ok K w ∧ EnvRep K w env σ ∧ PostG K (fun _ a b => a = b) w (es.tst F env w.M) Q

theorem pe_imp {X : Cx} {e : Expr} {t t' : TE} (h : PE X e t) (q : ∀ σ H Q, t' σ H Q → t σ H Q) : PE X e t' := ⟨fun pins s σ H Q I z => h.run pins s σ H Q I (q σ H Q z)⟩
theorem pt_imp {X : Cx} {e : Expr} {t t' : TT} (h : PT X e t) (q : ∀ σ H Q, t' σ H Q → t σ H Q) : PT X e t' := ⟨fun pins s σ H Q I z => h.run pins s σ H Q I (q σ H Q z)⟩
theorem pw_imp {X : Cx} {e : Expr} {t t' : TT} (h : PW X e t) (q : ∀ σ H Q, t' σ H Q → t σ H Q) : PW X e t' := ⟨fun wh pins s σ H Q I z => h.run wh pins s σ H Q I (q σ H Q z)⟩
theorem pa_imp {X : Cx} {e : List Expr} {t t' : TA} (h : PA X e t) (q : ∀ σ H Q, t' σ H Q → t σ H Q) : PA X e t' := ⟨fun pos pins s σ H Q I z => h.run pos pins s σ H Q I (q σ H Q z)⟩

/-! values read through the store -/
def RepA (K : PySem.W.Frag) (w : Wd) : D → V → Prop
  | .lst ds, x => ∃ a xs, x = .ref a ∧ SqL K w.H a xs ∧ RepDs K w ds xs
  | .tup ds, x => ∃ a xs, x = .ref a ∧ SqT K w.H a xs ∧ RepDs K w ds xs
  | d, x => RepD K w d x
/-- .. a list's own object known -/
def RepP (K : PySem.W.Frag) (w : Wd) : D → V → Prop
  | .lst ds, x => ∃ a xs, x = .ref a ∧ w.H a = some (.lst xs) ∧ RepDs K w ds xs
  | .tup ds, x => ∃ a xs, x = .ref a ∧ SqT K w.H a xs ∧ RepDs K w ds xs
  | d, x => RepD K w d x
section
variable {K : PySem.W.Frag} {w w' : Wd}
theorem RepD.p : ∀ {d : D} {x : V}, RepD K w d x → RepP K w d x
  | .non, _, h => h
  | .bl _, _, h => h
  | .int _, _, h => h
  | .str _, _, h => h
  | .lst ds, x, h => by rw [RepD] at h; obtain ⟨a, xs, h1, h2, h3⟩ := h; exact ⟨a, xs, h1, h2.1, h3⟩
  | .tup ds, x, h => by rw [RepD] at h; obtain ⟨a, xs, h1, h2, h3⟩ := h; exact ⟨a, xs, h1, h2.sq, h3⟩
theorem RepP.a : ∀ {d : D} {x : V}, RepP K w d x → RepA K w d x
  | .non, _, h => h
  | .bl _, _, h => h
  | .int _, _, h => h
  | .str _, _, h => h
  | .lst ds, x, ⟨a, xs, h1, h2, h3⟩ => ⟨a, xs, h1, SqL.of h2, h3⟩
  | .tup ds, x, h => h
theorem repDs_ints : ∀ ns : List Int, RepDs K w (ns.map D.int) (ns.map V.int)
  | [] => by simp [RepDs]
  | n :: ns => by
    rw [List.map_cons, List.map_cons, RepDs]
    exact ⟨_, _, rfl, by rw [RepD], repDs_ints ns⟩
theorem RepV.at (o : Ok K w) : ∀ {v : Val} {x : V} {d : D}, RepV K w v x → v.at w.M = some d → RepA K w d x
  | .d e, x, d, h, q => by
    cases q
    exact (RepD.p h).a
  | .ref i, x, d, ⟨a, h1, h2⟩, q => by
    simp only [Val.at] at q
    split at q
    · rename_i xs e
      cases q
      obtain ⟨ys, h3, h4⟩ := o.ob i a _ h2 e
      exact ⟨a, ys, h1, SqL.of h3, h4⟩
    · cases q
  | .scr ns, x, d, ⟨a, h1, h2⟩, q => by
    cases q
    refine ⟨a, _, h1, ?_, repDs_ints ns⟩
    rcases h2 with ⟨⟨o, h2⟩, _⟩ | h2
    · exact .inl (.inr ⟨o, h2⟩)
    · rcases h2 with (h | ⟨o, h⟩) | h
      · cases h
      · cases h
      · exact .inr h
theorem RepV.pl (o : Ok K w) : ∀ {v : Val} {x : V} {d : D}, RepV K w v x → v.pl w.M = some d → RepP K w d x
  | .d e, x, d, h, q => by
    cases q
    exact RepD.p h
  | .ref i, x, d, ⟨a, h1, h2⟩, q => by
    simp only [Val.pl] at q
    split at q
    · rename_i xs e
      cases q
      obtain ⟨ys, h3, h4⟩ := o.ob i a _ h2 e
      exact ⟨a, ys, h1, h3, h4⟩
    · cases q
  | .scr ns, x, d, _, q => by cases q
/-- the truth of data -/
theorem RepA.tru : ∀ {d : D} {x : V}, RepA K w d x → TruV K x w.H d.tru
  | .non, x, h => by
    have e : x = .non := by simpa only [RepA, RepD] using h
    subst e
    rfl
  | .bl b, x, h => by
    have e : x = .bl b := by simpa only [RepA, RepD] using h
    subst e
    rfl
  | .int b, x, h => by
    have e : x = .int b := by simpa only [RepA, RepD] using h
    subst e
    rfl
  | .str b, x, h => by
    have e : x = .str b ∧ okS b = true ∧ b.length ≤ sizeLine := by simpa only [RepA, RepD] using h
    obtain ⟨e, _, e2⟩ := e
    subst e
    exact ⟨e2, rfl⟩
  | .lst ds, x, ⟨a, xs, h1, h2, h3⟩ => by
    subst h1
    refine .inl ⟨xs, h2, ?_⟩
    have := h3.len
    cases xs <;> cases ds <;> simp_all [D.tru]
  | .tup ds, x, ⟨a, xs, h1, h2, h3⟩ => by
    subst h1
    refine .inr (.inl ⟨xs, h2, ?_⟩)
    have := h3.len
    cases xs <;> cases ds <;> simp_all [D.tru]
end

section
variable {X : Cx} {F : Oracle} {pos : Pos}
/-! names and constants -/
theorem s_slot {i : Nat} {x : Str} (hN : X.N[i]? = some x) (hv : Vis X.env.scope x) (hd : (x == ("__debug__" : Str)) = false) (hcd : (x == ("__classdict__" : Str)) = false) : PE X (.Name x pos) (tI X.K F (.slot i)) := by
  refine pe_imp (pe_var hN hv hd hcd) fun σ H Q ⟨env, w, e, o, r, h⟩ => ?_
  subst e
  rw [Ex.ev] at h
  split at h
  · rename_i v hv
    obtain ⟨y, h1, h2⟩ := r.get i v hv
    exact ⟨y, h1, h w y rfl (Ext.refl w) o h2⟩
  · exact h.elim
theorem s_cst {e : Expr} {d : D} {v : V} (h : PE X e (tC v)) (hd : ∀ w, RepD X.K w d v) : PE X e (tI X.K F (.cst d)) :=
  pe_imp h fun σ H Q ⟨env, w, e, o, r, h⟩ => by
    subst e
    rw [Ex.ev] at h
    exact h w v rfl (Ext.refl w) o (hd w)

/-! arguments -/
theorem s_nil : PA X [] (tIa X.K F .nil) := pa_imp pa_nil fun σ H Q ⟨env, w, e, o, r, h⟩ => by
  subst e
  rw [Exs.ev] at h
  exact h w [] rfl (Ext.refl w) o rfl
theorem s_cons {e : Expr} {es : List Expr} {i : Ex} {is : Exs} (h1 : PE X e (tI X.K F i)) (h2 : PA X es (tIa X.K F is)) (hs : starEach (e :: es) X.env = (false, eval e X.env) :: starEach es X.env) : PA X (e :: es) (tIa X.K F (.cons i is)) := by
  refine pa_imp (pa_cons h1 h2 hs) fun σ H Q ⟨env, w, e, o, r, h⟩ => ?_
  rw [Exs.ev] at h
  refine ⟨env, w, e, o, r, (PostG.bind (rep := RepV X.K) h).imp fun x H1 ⟨w1, v, e1, x1, o1, r1, p1⟩ => ?_⟩
  refine ⟨env, w1, e1, o1, r.mono x1, (PostG.bind (rep := RepVs X.K) p1).imp fun xs H2 ⟨w2, vs, e2, x2, o2, r2, p2⟩ => ?_⟩
  subst e2
  exact p2 w2 _ rfl (Ext.refl w2) o2 ⟨x, xs, rfl, r1.mono x2, r2⟩

/-! operators -/
theorem repP_int {w : Wd} {K : PySem.W.Frag} {i : Int} {x : V} (h : RepP K w (.int i) x) : x = .int i := by simpa only [RepP, RepD] using h
theorem repA_int {w : Wd} {K : PySem.W.Frag} {i : Int} {x : V} (h : RepA K w (.int i) x) : x = .int i := by simpa only [RepA, RepD] using h
theorem repD_int {w : Wd} {K : PySem.W.Frag} {i : Int} : RepD K w (.int i) (.int i) := by rw [RepD]
theorem repD_bl {w : Wd} {K : PySem.W.Frag} {i : Bool} : RepD K w (.bl i) (.bl i) := by rw [RepD]
theorem lim_le {n : Nat} (h : n ≤ LIM) : n ≤ sizeLine := Nat.le_trans h (by decide)
theorem lim_lt {n : Nat} (h : n < LIM) : n < sizeLine := Nat.lt_of_lt_of_le h (by decide)

def rB (K : PySem.W.Frag) (op : Operator) : R2 := fun x y H Q => ∃ w dx dy dz, w.H = H ∧ Ok K w ∧ RepP K w dx x ∧ RepP K w dy y ∧ binD op dx dy = some dz ∧
  ∀ w' z, w'.M = w.M → Ext w w' → Ok K w' → RepD K w' dz z → Q z w'.H
theorem op_B {op : Operator} : OpR X (binaryOp op) (rB X.K op) := by
  intro pins s σ H x y v u Q I rx ry h
  obtain ⟨w, dx, dy, dz, e, o, r1, r2, hb, q⟩ := h
  subst e
  unfold binD at hb
  split at hb
  · rename_i xs ys
    split at hb
    · rename_i hz
      cases hb
      obtain ⟨a, as, rfl, ha, ra⟩ := r1
      obtain ⟨b, bs, rfl, hb, rb⟩ := r2
      refine op_cat pins s σ w.H _ _ v u Q I rx ry ⟨a, b, as, bs, rfl, rfl, ha, hb, by rw [ra.len, rb.len]; exact lim_le hz, fun p hp => ?_⟩
      exact q (w.new p _) _ rfl (ext_new o hp) (ok_new o hp) (rep_newL o hp (ra.app rb))
    · cases hb
  · rename_i xs k
    split at hb
    · rename_i hz
      cases hb
      obtain ⟨a, as, rfl, ha, ra⟩ := r1
      have e := repP_int r2
      subst e
      refine op_rep pins s σ w.H _ _ v u Q I rx ry ⟨a, k, as, rfl, rfl, ha, by omega, by omega, by rw [ra.len]; exact lim_le hz.2.2, fun p hp => ?_⟩
      exact q (w.new p _) _ rfl (ext_new o hp) (ok_new o hp) (rep_newL o hp (ra.rep k.toNat))
    · cases hb
  · rename_i i j
    have e := repP_int r1
    subst e
    have e := repP_int r2
    subst e
    obtain ⟨k, hk, rfl⟩ := Option.map_eq_some_iff.mp hb
    have fin : Q (.int k) w.H := q w _ rfl (Ext.refl w) o repD_int
    unfold binI at hk
    split at hk
    · cases hk
      exact op_add pins s σ w.H _ _ v u Q I rx ry ⟨i, j, rfl, rfl, fin⟩
    · cases hk
      exact op_sub pins s σ w.H _ _ v u Q I rx ry ⟨i, j, rfl, rfl, fin⟩
    · split at hk
      · cases hk
        exact op_mul pins s σ w.H _ _ v u Q I rx ry ⟨i, j, rfl, rfl, by assumption, fin⟩
      · cases hk
    · split at hk
      · cases hk
        exact op_fdiv pins s σ w.H _ _ v u Q I rx ry ⟨i, j, rfl, rfl, by assumption, fin⟩
      · cases hk
    · split at hk
      · cases hk
        exact op_mod pins s σ w.H _ _ v u Q I rx ry ⟨i, j, rfl, rfl, by assumption, fin⟩
      · cases hk
    · split at hk
      · cases hk
        exact op_pow pins s σ w.H _ _ v u Q I rx ry ⟨i, j, rfl, rfl, by assumption, fin⟩
      · cases hk
    · cases hk
  · cases hb
theorem s_bin {op : Operator} {a b : Expr} {ia ib : Ex} (ha : PE X a (tI X.K F ia)) (hb : PE X b (tI X.K F ib)) : PE X (.BinOp a op b pos) (tI X.K F (.bin op ia ib)) := by
  refine pe_imp (pe_op op_B ha hb) fun σ H Q ⟨env, w, e, o, r, h⟩ => ?_
  rw [Ex.ev] at h
  refine ⟨env, w, e, o, r, (PostG.bind (rep := RepV X.K) h).imp fun x H1 ⟨w1, v, e1, x1, o1, r1, p1⟩ => ?_⟩
  refine ⟨env, w1, e1, o1, r.mono x1, (PostG.bind (rep := RepV X.K) p1).imp fun y H2 ⟨w2, u, e2, x2, o2, r2, p2⟩ => ?_⟩
  obtain ⟨z, hz, q⟩ := PostG.lift p2 o2
  obtain ⟨dx, h1, hz⟩ := Option.bind_eq_some_iff.mp hz
  obtain ⟨dy, h2, hz⟩ := Option.bind_eq_some_iff.mp hz
  obtain ⟨dz, h3, rfl⟩ := Option.map_eq_some_iff.mp hz
  exact ⟨w2, dx, dy, dz, e2, o2, (r1.mono x2).pl o2 h1, r2.pl o2 h2, h3, q⟩
theorem s_neg {a : Expr} {ia : Ex} (ha : PE X a (tI X.K F ia)) : PE X (.UnaryOp .USub a pos) (tI X.K F (.neg ia)) := by
  refine pe_imp (pe_un un_neg ha) fun σ H Q ⟨env, w, e, o, r, h⟩ => ?_
  rw [Ex.ev] at h
  refine ⟨env, w, e, o, r, (PostG.bind (rep := RepV X.K) h).imp fun x H1 ⟨w1, v, e1, x1, o1, r1, p1⟩ => ?_⟩
  subst e1
  split at p1
  · rename_i i
    refine ⟨i, ?_, p1 w1 _ rfl (Ext.refl w1) o1 (by rw [RepV, RepD])⟩
    simpa only [RepV, RepD] using r1
  · exact p1.elim
end
end VI
set_option maxHeartbeats 1000000
namespace VI
open PySem PySem.Spec PyProof.Rows L2

theorem rv_bl {w : Wd} {K : PySem.W.Frag} {b : Bool} : RepV K w (.d (.bl b)) (.bl b) := by rw [RepV, RepD]
/-! == over data -/
mutual
theorem eqv_py : ∀ x y : D, PyData.eqv x.py y.py = x.eqv y
  | .non, y => by cases y <;> simp [D.py, D.eqv, PyData.eqv]
  | .bl b, y => by cases y <;> simp [D.py, D.eqv, PyData.eqv]
  | .int i, y => by cases y <;> simp [D.py, D.eqv, PyData.eqv]
  | .str s, y => by cases y <;> simp [D.py, D.eqv, PyData.eqv]
  | .lst xs, y => by
    cases y with
    | lst ys => simp only [D.py, D.eqv, PyData.eqv]; exact eqvs_py xs ys
    | _ => simp [D.py, D.eqv, PyData.eqv]
  | .tup xs, y => by
    cases y with
    | tup ys => simp only [D.py, D.eqv, PyData.eqv]; exact eqvs_py xs ys
    | _ => simp [D.py, D.eqv, PyData.eqv]
theorem eqvs_py : ∀ xs ys : List D, PyData.eqvAll (pys xs) (pys ys) = eqvs xs ys
  | [], [] => by simp [pys, eqvs, PyData.eqvAll]
  | [], _ :: _ => by simp [pys, eqvs, PyData.eqvAll]
  | _ :: _, [] => by simp [pys, eqvs, PyData.eqvAll]
  | x :: xs, y :: ys => by simp only [pys, eqvs, PyData.eqvAll, eqv_py x y, eqvs_py xs ys]
end
mutual
theorem dep_py : ∀ x : D, x.py.depth = x.dep
  | .non => by simp [D.py, D.dep, PyData.depth]
  | .bl b => by simp [D.py, D.dep, PyData.depth]
  | .int i => by simp [D.py, D.dep, PyData.depth]
  | .str s => by simp [D.py, D.dep, PyData.depth]
  | .lst xs => by simp only [D.py, D.dep, PyData.depth, deps_py xs]
  | .tup xs => by simp only [D.py, D.dep, PyData.depth, deps_py xs]
theorem deps_py : ∀ xs : List D, PyData.depthAll (pys xs) = deps xs
  | [] => by simp [pys, deps, PyData.depthAll]
  | x :: xs => by simp only [pys, deps, PyData.depthAll, dep_py x, deps_py xs]
end
section
variable {K : PySem.W.Frag} {w : Wd}
mutual
theorem RepD.dp : ∀ (d : D) (x : V), RepD K w d x → Dp K w.H x d.py ∧ d.py.canLay0 = true
  | .non, x, h => by
    rw [RepD] at h; subst h
    exact ⟨by rw [D.py]; exact .non, by simp [D.py, PyData.canLay0]⟩
  | .bl b, x, h => by
    rw [RepD] at h; subst h
    exact ⟨by rw [D.py]; exact .bl b, by simp [D.py, PyData.canLay0]⟩
  | .int b, x, h => by
    rw [RepD] at h; subst h
    exact ⟨by rw [D.py]; exact .int b, by simp [D.py, PyData.canLay0]⟩
  | .str b, x, h => by
    rw [RepD] at h
    obtain ⟨e, h2, _⟩ := h
    subst e
    exact ⟨by rw [D.py]; exact .str b, by simp only [D.py, PyData.canLay0]; exact h2⟩
  | .lst ds, x, h => by
    rw [RepD] at h
    obtain ⟨a, xs, e, h2, h3⟩ := h
    subst e
    obtain ⟨q1, q2⟩ := RepDs.dp ds xs h3
    exact ⟨by rw [D.py]; exact .lst h2.sq q1, by simp only [D.py, PyData.canLay0]; exact q2⟩
  | .tup ds, x, h => by
    rw [RepD] at h
    obtain ⟨a, xs, e, h2, h3⟩ := h
    subst e
    obtain ⟨q1, q2⟩ := RepDs.dp ds xs h3
    exact ⟨by rw [D.py]; exact .tup h2.sq q1, by simp only [D.py, PyData.canLay0]; exact q2⟩
theorem RepDs.dp : ∀ (ds : List D) (xs : List V), RepDs K w ds xs → DpAll K w.H xs (pys ds) ∧ PyData.canLayAll0 (pys ds) = true
  | [], xs, h => by
    rw [RepDs] at h; subst h
    exact ⟨by rw [pys]; exact .nil, by simp [pys, PyData.canLayAll0]⟩
  | d :: ds, xs, h => by
    rw [RepDs] at h
    obtain ⟨y, ys, e, h2, h3⟩ := h
    subst e
    obtain ⟨q1, q2⟩ := RepD.dp d y h2
    obtain ⟨q3, q4⟩ := RepDs.dp ds ys h3
    exact ⟨by rw [pys]; exact .cons q1 q3, by simp only [pys, PyData.canLayAll0, q2, q4, Bool.and_self]⟩
end
theorem RepA.dp : ∀ {d : D} {x : V}, RepA K w d x → Dp K w.H x d.py ∧ d.py.canLay0 = true
  | .non, x, h => RepD.dp _ _ h
  | .bl _, x, h => RepD.dp _ _ h
  | .int _, x, h => RepD.dp _ _ h
  | .str _, x, h => RepD.dp _ _ h
  | .lst ds, x, ⟨a, xs, e, h2, h3⟩ => by
    subst e
    obtain ⟨q1, q2⟩ := RepDs.dp ds xs h3
    exact ⟨by rw [D.py]; exact .lst h2 q1, by simp only [D.py, PyData.canLay0]; exact q2⟩
  | .tup ds, x, ⟨a, xs, e, h2, h3⟩ => by
    subst e
    obtain ⟨q1, q2⟩ := RepDs.dp ds xs h3
    exact ⟨by rw [D.py]; exact .tup h2 q1, by simp only [D.py, PyData.canLay0]; exact q2⟩
end

section
variable {X : Cx} {F : Oracle} {pos : Pos}
def rC (K : PySem.W.Frag) (op : CmpOp) : R2 := fun x y H Q => ∃ w dx dy b, w.H = H ∧ Ok K w ∧ RepA K w dx x ∧ RepA K w dy y ∧ cmpD op dx dy = some b ∧ Q (.bl b) H
theorem repA_non {w : Wd} {K : PySem.W.Frag} {d : D} {x : V} (h : RepA K w d x) : decide (x = .non) = d.isNon := by
  cases d with
  | non => have e : x = .non := by simpa only [RepA, RepD] using h
           subst e; rfl
  | bl b => have e : x = .bl b := by simpa only [RepA, RepD] using h
            subst e; rfl
  | int b => have e : x = .int b := by simpa only [RepA, RepD] using h
             subst e; rfl
  | str b => have e : x = .str b ∧ okS b = true ∧ b.length ≤ sizeLine := by simpa only [RepA, RepD] using h
             obtain ⟨e, _⟩ := e
             subst e; rfl
  | lst ds => obtain ⟨a, xs, e, _⟩ := h
              subst e; rfl
  | tup ds => obtain ⟨a, xs, e, _⟩ := h
              subst e; rfl
theorem op_C {op : CmpOp} (hu : X.A.units + 64 < cLine) : OpR X (compareOp op) (rC X.K op) := by
  intro pins s σ H x y v u Q I rx ry h
  obtain ⟨w, dx, dy, b, e, o, r1, r2, hb, q⟩ := h
  subst e
  have hroom : dx.dep ≤ 60 ∨ dy.dep ≤ 60 → X.A.units + min dx.py.depth dy.py.depth < cLine := fun hz => by
    rw [dep_py, dep_py]
    rcases hz with hz | hz
    · have : min dx.dep dy.dep ≤ 60 := Nat.le_trans (Nat.min_le_left _ _) hz
      omega
    · have : min dx.dep dy.dep ≤ 60 := Nat.le_trans (Nat.min_le_right _ _) hz
      omega
  unfold cmpD at hb
  split at hb
  · unfold deq at hb
    split at hb
    · rename_i hz
      cases hb
      obtain ⟨p1, l1⟩ := r1.dp
      obtain ⟨p2, l2⟩ := r2.dp
      obtain ⟨as, g1⟩ := Dp.reads I _ x v p1 rx
      obtain ⟨bs, g2⟩ := Dp.reads I _ y u p2 ry
      exact SeqAt.compareEq_reads g1 g2 l1 l2 (hroom hz) ⟨.bl _, w.H, I, by rw [eqv_py]; rfl, q⟩
    · cases hb
  · unfold deq at hb
    split at hb
    · rename_i hz
      cases hb
      obtain ⟨p1, l1⟩ := r1.dp
      obtain ⟨p2, l2⟩ := r2.dp
      obtain ⟨as, g1⟩ := Dp.reads I _ x v p1 rx
      obtain ⟨bs, g2⟩ := Dp.reads I _ y u p2 ry
      exact SeqAt.compareNe_reads g1 g2 l1 l2 (hroom hz) ⟨.bl _, w.H, I, by rw [eqv_py]; rfl, q⟩
    · cases hb
  · split at hb
    · rename_i hz
      cases hb
      have e2 : y = .non := by
        have := repA_non r2
        rw [hz] at this
        exact of_decide_eq_true this
      exact op_isN pins s σ w.H x y v u Q I rx ry ⟨e2, by rw [repA_non r1]; exact q⟩
    · cases hb
  · split at hb
    · rename_i hz
      cases hb
      have e2 : y = .non := by
        have := repA_non r2
        rw [hz] at this
        exact of_decide_eq_true this
      exact op_notN pins s σ w.H x y v u Q I rx ry ⟨e2, by rw [repA_non r1]; exact q⟩
    · cases hb
  · split at hb
    · rename_i i j _ _ _ _
      have e := repA_int r1
      subst e
      have e := repA_int r2
      subst e
      unfold cmpI at hb
      split at hb
      · cases hb
        exact op_lt pins s σ w.H _ _ v u Q I rx ry ⟨_, _, rfl, rfl, q⟩
      · cases hb
        exact op_le pins s σ w.H _ _ v u Q I rx ry ⟨_, _, rfl, rfl, q⟩
      · cases hb
        exact op_gt pins s σ w.H _ _ v u Q I rx ry ⟨_, _, rfl, rfl, q⟩
      · cases hb
        exact op_ge pins s σ w.H _ _ v u Q I rx ry ⟨_, _, rfl, rfl, q⟩
      · cases hb
    · cases hb

/-- the reading of a comparison's two sides -/
theorem cmp_in {op : CmpOp} {ia ib : Ex} {σ : L2.St} {H : Hp} {Q : VK}
    (h : ∃ env w, w.H = H ∧ Ok X.K w ∧ EnvRep X.K w env σ ∧ PostG X.K (RepV X.K) w ((ia.ev F env w.M).bind fun x M1 => (ib.ev F env M1).bind fun y M2 =>
      Res.lift ((x.at M2).bind fun x => (y.at M2).bind fun y => (cmpD op x y).map fun b => .d (.bl b)) M2) Q) :
    tOp (rC X.K op) (tI X.K F ia) (tI X.K F ib) σ H Q := by
  obtain ⟨env, w, e, o, r, h⟩ := h
  refine ⟨env, w, e, o, r, (PostG.bind (rep := RepV X.K) h).imp fun x H1 ⟨w1, v, e1, x1, o1, r1, p1⟩ => ?_⟩
  refine ⟨env, w1, e1, o1, r.mono x1, (PostG.bind (rep := RepV X.K) p1).imp fun y H2 ⟨w2, u, e2, x2, o2, r2, p2⟩ => ?_⟩
  obtain ⟨z, hz, q⟩ := PostG.lift p2 o2
  obtain ⟨dx, h1, hz⟩ := Option.bind_eq_some_iff.mp hz
  obtain ⟨dy, h2, hz⟩ := Option.bind_eq_some_iff.mp hz
  obtain ⟨b, h3, rfl⟩ := Option.map_eq_some_iff.mp hz
  subst e2
  exact ⟨w2, dx, dy, b, rfl, o2, (r1.mono x2).at o2 h1, r2.at o2 h2, h3, q w2 _ rfl (Ext.refl w2) o2 rv_bl⟩
theorem s_cmp {op : CmpOp} {a b : Expr} {ia ib : Ex} (hu : X.A.units + 64 < cLine) (hm : behindInMarks op b = false) (ha : PE X a (tI X.K F ia)) (hb : PE X b (tI X.K F ib)) : PE X (.Compare a [op] [b] pos) (tI X.K F (.cmp op ia ib)) := by
  refine pe_imp (pe_cmpR (op_C hu) ha hb hm) fun σ H Q ⟨env, w, e, o, r, h⟩ => ?_
  rw [Ex.ev] at h
  exact cmp_in ⟨env, w, e, o, r, h⟩
/-- a test's answer out of a value's -/
theorem tru_bl {w : Wd} {K : PySem.W.Frag} {r : Res Val} {Q : Bool → Hp → Prop} (h : PostG K (fun _ a b => a = b) w (truR r) Q)
    (hb : ∀ v M, r = .ok v M → ∃ b, v = .d (.bl b)) : PostG K (RepV K) w r fun x H => ∃ k, x = .bl k ∧ Q k H := by
  cases r with
  | stuck => exact h
  | ok v M =>
    obtain ⟨b, rfl⟩ := hb v M rfl
    intro w' x hm e o rx
    have e1 : x = .bl b := by simpa only [RepV, RepD] using rx
    exact ⟨b, e1, h w' b hm e o rfl⟩
theorem s_cmpT {op : CmpOp} {a b : Expr} {ia ib : Ex} (hu : X.A.units + 64 < cLine) (hm : behindInMarks op b = false) (ha : PE X a (tI X.K F ia)) (hb : PE X b (tI X.K F ib)) : PT X (.Compare a [op] [b] pos) (tIb X.K F (.cmp op ia ib)) := by
  refine pt_imp (pt_cmpR (op_C hu) ha hb hm) fun σ H Q ⟨env, w, e, o, r, h⟩ => ?_
  refine cmp_in ⟨env, w, e, o, r, ?_⟩
  have h2 := tru_bl h (fun v M hv => by
    rw [Ex.ev] at hv
    cases h1 : ia.ev F env w.M with
    | stuck => rw [h1] at hv; cases hv
    | ok x M1 =>
      rw [h1, bind_ok] at hv
      cases h2 : ib.ev F env M1 with
      | stuck => rw [h2] at hv; cases hv
      | ok y M2 =>
        rw [h2, bind_ok] at hv
        cases h3 : ((x.at M2).bind fun x => (y.at M2).bind fun y => (cmpD op x y).map fun b => Val.d (.bl b)) with
        | none => rw [h3] at hv; cases hv
        | some z =>
          rw [h3] at hv
          cases hv
          obtain ⟨dx, _, h3⟩ := Option.bind_eq_some_iff.mp h3
          obtain ⟨dy, _, h3⟩ := Option.bind_eq_some_iff.mp h3
          obtain ⟨b, _, h3⟩ := Option.map_eq_some_iff.mp h3
          exact ⟨b, h3.symm⟩)
  rw [Ex.ev] at h2
  exact h2

/-! chains -/
theorem chain_in {op op2 : CmpOp} {ia ib ic : Ex} {σ : L2.St} {H : Hp} {Q : VK}
    (h : tI X.K F (.cmp2 op op2 ia ib ic) σ H Q) : tChain (rC X.K op) (rC X.K op2) (tI X.K F ia) (tI X.K F ib) (tI X.K F ic) σ H Q := by
  obtain ⟨env, w, e, o, r, h⟩ := h
  rw [Ex.ev] at h
  refine ⟨env, w, e, o, r, (PostG.bind (rep := RepV X.K) h).imp fun x H1 ⟨w1, v, e1, x1, o1, r1, p1⟩ => ?_⟩
  refine ⟨env, w1, e1, o1, r.mono x1, (PostG.bind (rep := RepV X.K) p1).imp fun y H2 ⟨w2, u, e2, x2, o2, r2, p2⟩ => ?_⟩
  subst e2
  have p3 := PostG.bind (rep := fun _ a b => a = b) p2
  obtain ⟨b, hz, p3⟩ := PostG.lift p3 o2
  obtain ⟨dx, h1, hz⟩ := Option.bind_eq_some_iff.mp hz
  obtain ⟨dy, h2, h3⟩ := Option.bind_eq_some_iff.mp hz
  refine ⟨w2, dx, dy, b, rfl, o2, (r1.mono x2).at o2 h1, r2.at o2 h2, h3, b, rfl, ?_⟩
  obtain ⟨w3, b', e3, x3, o3, rfl, p4⟩ := p3 w2 b rfl (Ext.refl w2) o2 rfl
  cases b' with
  | false => exact e3 ▸ p4 w3 _ rfl (Ext.refl w3) o3 rv_bl
  | true =>
    refine ⟨env, w3, e3, o3, (r.mono x1).mono (x2.trans x3), (PostG.bind (rep := RepV X.K) p4).imp fun z H4 ⟨w4, c, e4, x4, o4, r4, p5⟩ => ?_⟩
    obtain ⟨z2, hz, q⟩ := PostG.lift p5 o4
    obtain ⟨dy2, h4, hz⟩ := Option.bind_eq_some_iff.mp hz
    obtain ⟨dz, h5, hz⟩ := Option.bind_eq_some_iff.mp hz
    obtain ⟨b, h6, rfl⟩ := Option.map_eq_some_iff.mp hz
    subst e4
    exact ⟨w4, dy2, dz, b, rfl, o4, ((r2.mono x3).mono x4).at o4 h4, r4.at o4 h5, h6, q w4 _ rfl (Ext.refl w4) o4 rv_bl⟩
theorem s_cmp2 {op op2 : CmpOp} {a b c : Expr} {ia ib ic : Ex} (hu : X.A.units + 64 < cLine) (hm : lastMarks [op, op2] [b, c] = false) (ha : PE X a (tI X.K F ia)) (hb : PE X b (tI X.K F ib)) (hc : PE X c (tI X.K F ic)) :
    PE X (.Compare a [op, op2] [b, c] pos) (tI X.K F (.cmp2 op op2 ia ib ic)) :=
  pe_imp (pe_chain (op_C hu) (op_C hu) ha hb hc hm) fun _ _ _ h => chain_in h
theorem cmp2_bl {op op2 : CmpOp} {ia ib ic : Ex} {env : Env} {M M' : Mem} {v : Val} (h : (Ex.cmp2 op op2 ia ib ic).ev F env M = .ok v M') : ∃ b, v = .d (.bl b) := by
  rw [Ex.ev] at h
  cases h1 : ia.ev F env M with
  | stuck => rw [h1] at h; cases h
  | ok x M1 =>
    rw [h1, bind_ok] at h
    cases h2 : ib.ev F env M1 with
    | stuck => rw [h2] at h; cases h
    | ok y M2 =>
      rw [h2, bind_ok] at h
      cases h3 : ((x.at M2).bind fun x => (y.at M2).bind fun y => cmpD op x y) with
      | none => rw [h3] at h; cases h
      | some k =>
        rw [h3] at h
        cases k with
        | false => cases h; exact ⟨false, rfl⟩
        | true =>
          simp only [Res.lift, bind_ok, if_true] at h
          cases h4 : ic.ev F env M2 with
          | stuck => rw [h4] at h; cases h
          | ok z M3 =>
            rw [h4, bind_ok] at h
            cases h5 : ((y.at M3).bind fun y => (z.at M3).bind fun z => (cmpD op2 y z).map fun b => Val.d (.bl b)) with
            | none => rw [h5] at h; cases h
            | some q =>
              rw [h5] at h
              cases h
              obtain ⟨_, _, h5⟩ := Option.bind_eq_some_iff.mp h5
              obtain ⟨_, _, h5⟩ := Option.bind_eq_some_iff.mp h5
              obtain ⟨b, _, h5⟩ := Option.map_eq_some_iff.mp h5
              exact ⟨b, h5.symm⟩
theorem s_cmp2T {op op2 : CmpOp} {a b c : Expr} {ia ib ic : Ex} (hu : X.A.units + 64 < cLine) (hm : lastMarks [op, op2] [b, c] = false) (ha : PE X a (tI X.K F ia)) (hb : PE X b (tI X.K F ib)) (hc : PE X c (tI X.K F ic)) :
    PT X (.Compare a [op, op2] [b, c] pos) (tIb X.K F (.cmp2 op op2 ia ib ic)) :=
  pt_imp (pt_chain (op_C hu) (op_C hu) ha hb hc hm) fun σ H Q ⟨env, w, e, o, r, h⟩ => chain_in ⟨env, w, e, o, r, tru_bl h fun v M hv => cmp2_bl hv⟩

/-! and, or, not, if -/
theorem s_tru {a : Expr} {ia : Ex} (ha : PE X a (tI X.K F ia)) (he : ∀ whole, isTrue a X.env whole = (do let v ← whole; standAt a.pos; holding [v] (truthy v))) : PT X a (tIb X.K F ia) := by
  refine pt_imp (pt_truth ha he) fun σ H Q ⟨env, w, e, o, r, h⟩ => ⟨env, w, e, o, r, ?_⟩
  refine (PostG.bind (rep := RepV X.K) h).imp fun x H1 ⟨w1, v, e1, x1, o1, r1, p1⟩ => ?_
  obtain ⟨b, hb, q⟩ := PostG.lift p1 o1
  obtain ⟨d, h1, rfl⟩ := Option.map_eq_some_iff.mp hb
  subst e1
  exact ⟨_, (r1.at o1 h1).tru, q w1 _ rfl (Ext.refl w1) o1 rfl⟩
theorem tru_split {w : Wd} {K : PySem.W.Frag} {v : Val} {x : V} {f g : Res Val} {Q : VK} (o : Ok K w) (r : RepV K w v x)
    (h : PostG K (RepV K) w (match (v.at w.M).map D.tru with | some true => f | some false => g | none => .stuck) Q) :
    ∃ k, TruV K x w.H k ∧ PostG K (RepV K) w (if k = true then f else g) Q := by
  cases e : v.at w.M with
  | none => rw [e] at h; exact h.elim
  | some d =>
    rw [e] at h
    refine ⟨d.tru, (r.at o e).tru, ?_⟩
    simp only [Option.map_some] at h
    cases hb : d.tru with
    | true => rw [hb] at h; exact h
    | false => rw [hb] at h; exact h
theorem s_and {a b : Expr} {rest : List Expr} {ia ib : Ex} (ha : PE X a (tI X.K F ia)) (hb : PE X (.BoolOp .And (b :: rest) pos) (tI X.K F ib)) : PE X (.BoolOp .And (a :: b :: rest) pos) (tI X.K F (.and_ ia ib)) := by
  refine pe_imp (pe_andT ha hb) fun σ H Q ⟨env, w, e, o, r, h⟩ => ⟨env, w, e, o, r, ?_⟩
  rw [Ex.ev] at h
  refine (PostG.bind (rep := RepV X.K) h).imp fun x H1 ⟨w1, v, e1, x1, o1, r1, p1⟩ => ?_
  obtain ⟨k, h1, p2⟩ := tru_split o1 r1 p1
  subst e1
  refine ⟨k, h1, ?_⟩
  cases k with
  | true => exact ⟨env, w1, rfl, o1, r.mono x1, p2⟩
  | false => exact p2 w1 _ rfl (Ext.refl w1) o1 r1
theorem s_or {a b : Expr} {rest : List Expr} {ia ib : Ex} (ha : PE X a (tI X.K F ia)) (hb : PE X (.BoolOp .Or (b :: rest) pos) (tI X.K F ib)) : PE X (.BoolOp .Or (a :: b :: rest) pos) (tI X.K F (.or_ ia ib)) := by
  refine pe_imp (pe_orT ha hb) fun σ H Q ⟨env, w, e, o, r, h⟩ => ⟨env, w, e, o, r, ?_⟩
  rw [Ex.ev] at h
  refine (PostG.bind (rep := RepV X.K) h).imp fun x H1 ⟨w1, v, e1, x1, o1, r1, p1⟩ => ?_
  obtain ⟨k, h1, p2⟩ := tru_split o1 r1 p1
  subst e1
  refine ⟨k, h1, ?_⟩
  cases k with
  | true => exact p2 w1 _ rfl (Ext.refl w1) o1 r1
  | false => exact ⟨env, w1, rfl, o1, r.mono x1, p2⟩
theorem s_one {op : BoolOp} {a : Expr} {ia : Ex} (ha : PE X a (tI X.K F ia)) : PE X (.BoolOp op [a] pos) (tI X.K F ia) := pe_one ha
/-- .. as tests -/
theorem s_oneT {op : BoolOp} {a : Expr} {ia : Ex} (ha : PT X a (tIb X.K F ia)) : PW X (.BoolOp op [a] pos) (tIb X.K F ia) := by
  cases op
  · exact pw_and1 ha
  · exact pw_or1 ha
theorem tru_bind {w : Wd} {K : PySem.W.Frag} {r : Res Val} {f g : Val → Mem → Res Val} {Q : Bool → Hp → Prop}
    (h : PostG K (fun _ a b => a = b) w (truR (r.bind fun x M1 => match (x.at M1).map D.tru with | some true => f x M1 | some false => g x M1 | none => .stuck)) Q) :
    PostG K (fun _ a b => a = b) w (truR r) fun k H => ∃ w1 x, w1.H = H ∧ Ext w w1 ∧ Ok K w1 ∧ (x.at w1.M).map D.tru = some k ∧ PostG K (fun _ a b => a = b) w1 (truR (if k = true then f x w1.M else g x w1.M)) Q := by
  cases r with
  | stuck => exact h
  | ok x M =>
    cases e : (x.at M).map D.tru with
    | none =>
      have h : PostG K (fun _ a b => a = b) w (truR (match (x.at M).map D.tru with | some true => f x M | some false => g x M | none => .stuck)) Q := h
      rw [e] at h
      exact h.elim
    | some k =>
      have h : PostG K (fun _ a b => a = b) w (truR (match (x.at M).map D.tru with | some true => f x M | some false => g x M | none => .stuck)) Q := h
      rw [e] at h
      show PostG K (fun _ a b => a = b) w (Res.lift ((x.at M).map D.tru) M) _
      rw [e]
      intro w' b hm ex o eb
      subst eb
      subst hm
      refine ⟨w', x, rfl, ex, o, e, ?_⟩
      cases k with
      | true => exact h.mono ex
      | false => exact h.mono ex
theorem s_andT {a b : Expr} {rest : List Expr} {ia ib : Ex} (ha : PT X a (tIb X.K F ia)) (hb : PW X (.BoolOp .And (b :: rest) pos) (tIb X.K F ib)) : PW X (.BoolOp .And (a :: b :: rest) pos) (tIb X.K F (.and_ ia ib)) := by
  refine pw_imp (pw_and ha hb) fun σ H Q ⟨env, w, e, o, r, h⟩ => ⟨env, w, e, o, r, ?_⟩
  rw [Ex.ev] at h
  refine (tru_bind (f := fun x M1 => ib.ev F env M1) (g := fun x M1 => .ok x M1) h).imp fun k H1 ⟨w1, x, e1, x1, o1, t1, p1⟩ => ?_
  cases k with
  | true => exact ⟨env, w1, e1, o1, r.mono x1, p1⟩
  | false =>
    have p1 : PostG X.K (fun _ a b => a = b) w1 (Res.lift ((x.at w1.M).map D.tru) w1.M) Q := p1
    rw [t1] at p1
    exact e1 ▸ p1 w1 false rfl (Ext.refl w1) o1 rfl
theorem s_orT {a b : Expr} {rest : List Expr} {ia ib : Ex} (ha : PT X a (tIb X.K F ia)) (hb : PW X (.BoolOp .Or (b :: rest) pos) (tIb X.K F ib)) : PW X (.BoolOp .Or (a :: b :: rest) pos) (tIb X.K F (.or_ ia ib)) := by
  refine pw_imp (pw_or ha hb) fun σ H Q ⟨env, w, e, o, r, h⟩ => ⟨env, w, e, o, r, ?_⟩
  rw [Ex.ev] at h
  refine (tru_bind (f := fun x M1 => .ok x M1) (g := fun x M1 => ib.ev F env M1) h).imp fun k H1 ⟨w1, x, e1, x1, o1, t1, p1⟩ => ?_
  cases k with
  | false => exact ⟨env, w1, e1, o1, r.mono x1, p1⟩
  | true =>
    have p1 : PostG X.K (fun _ a b => a = b) w1 (Res.lift ((x.at w1.M).map D.tru) w1.M) Q := p1
    rw [t1] at p1
    exact e1 ▸ p1 w1 true rfl (Ext.refl w1) o1 rfl
theorem s_not {a : Expr} {ia : Ex} (ha : PE X a (tI X.K F ia)) : PE X (.UnaryOp .Not a pos) (tI X.K F (.not_ ia)) := by
  refine pe_imp (pe_notT ha) fun σ H Q ⟨env, w, e, o, r, h⟩ => ⟨env, w, e, o, r, ?_⟩
  rw [Ex.ev] at h
  have h2 := PostG.bind (rep := fun _ a b => a = b) h
  refine (PostG.bind (rep := RepV X.K) h2).imp fun x H1 ⟨w1, v, e1, x1, o1, r1, p1⟩ => ?_
  obtain ⟨b, hb, q⟩ := PostG.lift p1 o1
  obtain ⟨d, h1, rfl⟩ := Option.map_eq_some_iff.mp hb
  subst e1
  obtain ⟨w2, b2, e2, x2, o2, e3, p2⟩ := q w1 _ rfl (Ext.refl w1) o1 rfl
  subst e3
  exact ⟨_, (r1.at o1 h1).tru, e2 ▸ p2 w2 _ rfl (Ext.refl w2) o2 rv_bl⟩
theorem s_notT {a : Expr} {ia : Ex} (ha : PT X a (tIb X.K F ia)) : PT X (.UnaryOp .Not a pos) (tIb X.K F (.not_ ia)) := by
  refine pt_imp (pt_not ha) fun σ H Q ⟨env, w, e, o, r, h⟩ => ⟨env, w, e, o, r, ?_⟩
  rw [Ex.ev] at h
  cases hr : truR (ia.ev F env w.M) with
  | stuck => rw [hr] at h; exact h
  | ok b M =>
    rw [hr] at h
    intro w' b' hm ex o' eb
    subst eb
    exact h w' (!b) hm ex o' rfl
theorem s_ife {c a b : Expr} {ic ia ib : Ex} (hc : PT X c (tIb X.K F ic)) (ha : PE X a (tI X.K F ia)) (hb : PE X b (tI X.K F ib)) : PE X (.IfExp c a b pos) (tI X.K F (.ife ic ia ib)) := by
  refine pe_imp (pe_ifExp hc ha hb) fun σ H Q ⟨env, w, e, o, r, h⟩ => ⟨env, w, e, o, r, ?_⟩
  rw [Ex.ev] at h
  refine (PostG.bind (rep := fun _ a b => a = b) h).imp fun k H1 ⟨w1, k', e1, x1, o1, ek, p1⟩ => ?_
  subst ek
  cases k' with
  | true => exact ⟨env, w1, e1, o1, r.mono x1, p1⟩
  | false => exact ⟨env, w1, e1, o1, r.mono x1, p1⟩
end
end VI
set_option maxHeartbeats 1000000
namespace VI
open PySem PySem.Spec PyProof.Rows L2

def RepAs (K : PySem.W.Frag) (w : Wd) : List D → List V → Prop
  | [], xs => xs = []
  | d :: ds, xs => ∃ y ys, xs = y :: ys ∧ RepA K w d y ∧ RepAs K w ds ys
section
variable {K : PySem.W.Frag} {w w' : Wd}
theorem RepVs.ats (o : Ok K w) : ∀ {vs : List Val} {xs : List V} {ds : List D}, RepVs K w vs xs → VI.ats vs w.M = some ds → RepAs K w ds xs
  | [], xs, ds, h, q => by
    cases q
    exact h
  | v :: vs, xs, ds, ⟨y, ys, h1, h2, h3⟩, q => by
    unfold VI.ats at q
    obtain ⟨d, q1, q⟩ := Option.bind_eq_some_iff.mp q
    obtain ⟨es, q2, rfl⟩ := Option.map_eq_some_iff.mp q
    exact ⟨y, ys, h1, h2.at o q1, RepVs.ats o h3 q2⟩
theorem RepVs.datas : ∀ {vs : List Val} {xs : List V} {ds : List D}, RepVs K w vs xs → VI.datas vs = some ds → RepDs K w ds xs
  | [], xs, ds, h, q => by
    cases q
    rw [RepDs]
    exact h
  | .d v :: vs, xs, ds, ⟨y, ys, h1, h2, h3⟩, q => by
    unfold VI.datas at q
    obtain ⟨es, q2, rfl⟩ := Option.map_eq_some_iff.mp q
    rw [RepDs]
    exact ⟨y, ys, h1, h2, RepVs.datas h3 q2⟩
  | .ref _ :: vs, xs, ds, _, q => by cases q
  | .scr _ :: vs, xs, ds, _, q => by cases q
theorem RepVs.len : ∀ {vs : List Val} {xs : List V}, RepVs K w vs xs → xs.length = vs.length
  | [], xs, h => by
    have h : xs = [] := h
    subst h; rfl
  | v :: vs, xs, ⟨y, ys, h1, h2, h3⟩ => by
    subst h1
    rw [List.length_cons, List.length_cons, RepVs.len h3]
theorem allB_eq : ∀ {ds : List D} {bs : List Bool} {xs : List V}, allB ds = some bs → RepDs K w ds xs → xs = bs.map V.bl
  | [], bs, xs, h, r => by
    cases h
    rw [RepDs] at r
    exact r
  | .bl b :: ds, bs, xs, h, r => by
    unfold allB at h
    obtain ⟨cs, h2, rfl⟩ := Option.map_eq_some_iff.mp h
    rw [RepDs] at r
    obtain ⟨y, ys, rfl, r1, r2⟩ := r
    rw [RepD] at r1
    rw [r1, allB_eq h2 r2]
    rfl
  | .non :: _, _, _, h, _ => by cases h
  | .int _ :: _, _, _, h, _ => by cases h
  | .str _ :: _, _, _, h, _ => by cases h
  | .lst _ :: _, _, _, h, _ => by cases h
  | .tup _ :: _, _, _, h, _ => by cases h
theorem intsOf_eq : ∀ {ds : List D} {bs : List Int} {xs : List V}, intsOf ds = some bs → RepDs K w ds xs → xs = bs.map V.int
  | [], bs, xs, h, r => by
    cases h
    rw [RepDs] at r
    exact r
  | .int b :: ds, bs, xs, h, r => by
    unfold intsOf at h
    obtain ⟨cs, h2, rfl⟩ := Option.map_eq_some_iff.mp h
    rw [RepDs] at r
    obtain ⟨y, ys, rfl, r1, r2⟩ := r
    rw [RepD] at r1
    rw [r1, intsOf_eq h2 r2]
    rfl
  | .non :: _, _, _, h, _ => by cases h
  | .bl _ :: _, _, _, h, _ => by cases h
  | .str _ :: _, _, _, h, _ => by cases h
  | .lst _ :: _, _, _, h, _ => by cases h
  | .tup _ :: _, _, _, h, _ => by cases h
end

def BI.fn : BI → Value
  | .len => .builtin "len"
  | .abs => .builtin "abs"
  | .int => .type "int"
  | .max => .builtin "max"
  | .min => .builtin "min"
  | .divmod => .builtin "divmod"
  | .all => .builtin "all"
  | .list => .type "list"
  | .tuple => .type "tuple"
  | .sum => .builtin "sum"

section
variable {X : Cx} {F : Oracle} {pos : Pos}
def rBI (K : PySem.W.Frag) (b : BI) : List V → Hp → VK → Prop := fun xs H Q => ∃ w ds dz, w.H = H ∧ Ok K w ∧ RepAs K w ds xs ∧ biD b ds = some dz ∧
  ∀ w' z, w'.M = w.M → Ext w w' → Ok K w' → RepD K w' dz z → Q z w'.H
theorem repAs1 {K : PySem.W.Frag} {w : Wd} {d : D} {xs : List V} (h : RepAs K w [d] xs) : ∃ x, xs = [x] ∧ RepA K w d x := by
  obtain ⟨y, ys, h1, h2, h3⟩ := h
  have h3 : ys = [] := h3
  subst h3
  exact ⟨y, h1, h2⟩
theorem repAs2 {K : PySem.W.Frag} {w : Wd} {d e : D} {xs : List V} (h : RepAs K w [d, e] xs) : ∃ x y, xs = [x, y] ∧ RepA K w d x ∧ RepA K w e y := by
  obtain ⟨y, ys, h1, h2, h3⟩ := h
  obtain ⟨x, h4, h5⟩ := repAs1 h3
  subst h4
  exact ⟨y, x, h1, h2, h5⟩
theorem repA_bl {w : Wd} {K : PySem.W.Frag} {i : Bool} {x : V} (h : RepA K w (.bl i) x) : x = .bl i := by simpa only [RepA, RepD] using h
theorem call_BI {b : BI} (hc : X.calm = true) : CallR X b.fn (rBI X.K b) := by
  intro pins s σ H xs us Q I r h
  obtain ⟨w, ds, dz, e, o, ra, hb, q⟩ := h
  subst e
  have fin : ∀ {i : Int}, dz = .int i → Q (.int i) w.H := fun e => by subst e; exact q w _ rfl (Ext.refl w) o repD_int
  have finb : ∀ {i : Bool}, dz = .bl i → Q (.bl i) w.H := fun e => by subst e; exact q w _ rfl (Ext.refl w) o (by rw [RepD])
  unfold biD at hb
  split at hb
  · rename_i d
    obtain ⟨x, rfl, r1⟩ := repAs1 ra
    obtain ⟨n, hn, rfl⟩ := Option.map_eq_some_iff.mp hb
    cases d with
    | lst ds =>
      cases hn
      obtain ⟨a, as, rfl, ha, rr⟩ := r1
      exact call_len_seq pins s σ w.H _ us Q I r ⟨a, as, rfl, .inl ha, by rw [rr.len]; exact fin rfl⟩
    | tup ds =>
      cases hn
      obtain ⟨a, as, rfl, ha, rr⟩ := r1
      exact call_len_seq pins s σ w.H _ us Q I r ⟨a, as, rfl, .inr ha, by rw [rr.len]; exact fin rfl⟩
    | _ => cases hn
  · rename_i i
    obtain ⟨x, rfl, r1⟩ := repAs1 ra
    have e := repA_int r1
    subst e
    cases hb
    exact call_abs pins s σ w.H _ us Q I r ⟨i, rfl, fin rfl⟩
  · rename_i i
    obtain ⟨x, rfl, r1⟩ := repAs1 ra
    have e := repA_int r1
    subst e
    cases hb
    exact call_int1 pins s σ w.H _ us Q I r (.inl ⟨i, rfl, fin rfl⟩)
  · rename_i i
    obtain ⟨x, rfl, r1⟩ := repAs1 ra
    have e := repA_bl r1
    subst e
    cases hb
    exact call_int1 pins s σ w.H _ us Q I r (.inr ⟨i, rfl, fin rfl⟩)
  · rename_i i j
    obtain ⟨x, y, rfl, r1, r2⟩ := repAs2 ra
    have e := repA_int r1
    subst e
    have e := repA_int r2
    subst e
    cases hb
    exact call_max2 hc pins s σ w.H _ us Q I r ⟨i, j, rfl, fin rfl⟩
  · rename_i i j
    obtain ⟨x, y, rfl, r1, r2⟩ := repAs2 ra
    have e := repA_int r1
    subst e
    have e := repA_int r2
    subst e
    cases hb
    exact call_min2 hc pins s σ w.H _ us Q I r ⟨i, j, rfl, fin rfl⟩
  · rename_i i j
    obtain ⟨x, y, rfl, r1, r2⟩ := repAs2 ra
    have e := repA_int r1
    subst e
    have e := repA_int r2
    subst e
    split at hb
    · rename_i hz
      cases hb
      refine call_divmod pins s σ w.H _ us Q I r ⟨i, j, rfl, hz, fun p hp => ?_⟩
      refine q (w.new p _) _ rfl (ext_new o hp) (ok_new o hp) (rep_newT o hp ?_)
      simp only [RepDs, RepD]
      exact ⟨_, _, rfl, rfl, _, _, rfl, rfl, rfl⟩
    · cases hb
  · rename_i ds
    obtain ⟨x, rfl, r1⟩ := repAs1 ra
    obtain ⟨bs, hbs, rfl⟩ := Option.map_eq_some_iff.mp hb
    obtain ⟨a, as, rfl, ha, rr⟩ := r1
    have e := allB_eq hbs rr
    subst e
    exact cr_all hc pins s σ w.H _ us Q I r ⟨a, bs, rfl, ha, finb rfl⟩
  · rename_i ds
    obtain ⟨x, rfl, r1⟩ := repAs1 ra
    cases hb
    obtain ⟨a, as, rfl, ha, rr⟩ := r1
    exact call_list_of pins s σ w.H _ us Q I r ⟨a, as, rfl, .inl ha, fun p hp => q (w.new p _) _ rfl (ext_new o hp) (ok_new o hp) (rep_newL o hp rr)⟩
  · rename_i ds
    obtain ⟨x, rfl, r1⟩ := repAs1 ra
    cases hb
    obtain ⟨a, as, rfl, ha, rr⟩ := r1
    exact call_list_of pins s σ w.H _ us Q I r ⟨a, as, rfl, .inr ha, fun p hp => q (w.new p _) _ rfl (ext_new o hp) (ok_new o hp) (rep_newL o hp rr)⟩
  · rename_i ds
    obtain ⟨x, rfl, r1⟩ := repAs1 ra
    cases hb
    obtain ⟨a, as, rfl, ha, rr⟩ := r1
    exact call_tuple_of pins s σ w.H _ us Q I r ⟨a, as, rfl, .inl ⟨ha, fun p hp => q (w.new p _) _ rfl (ext_new o hp) (ok_new o hp) (rep_newT o hp rr)⟩⟩
  · rename_i ds
    obtain ⟨x, rfl, r1⟩ := repAs1 ra
    obtain ⟨ns, hns, rfl⟩ := Option.map_eq_some_iff.mp hb
    obtain ⟨a, as, rfl, ha, rr⟩ := r1
    have e := intsOf_eq hns rr
    subst e
    exact cr_sum hc pins s σ w.H _ us Q I r ⟨a, ns, rfl, ha, fin rfl⟩
  · cases hb

theorem s_bi {b : BI} {x : Str} {p : Pos} {e : Expr} {es : List Expr} {is : Exs} (hc : X.calm = true) (hg : Gl X x) (hm : X.mg x = none) (hv : bootBuiltins x = some b.fn) (ha : PA X (e :: es) (tIa X.K F is)) (hn : x ≠ "__name__") (hdb : (x == ("__debug__" : Str)) = false)
    (he : starEach (e :: es) X.env = (false, eval e X.env) :: starEach es X.env) (hpl : (backTo pos (starEach es X.env)).any (·.1) = false) : PE X (.Call (.Name x p) (e :: es) [] pos) (tI X.K F (.bi b is)) := by
  have key : PE X (.Call (.Name x p) (e :: es) [] pos) (tCB (rBI X.K b) (tIa X.K F is)) := by
    have hr := call_BI (X := X) (b := b) hc
    cases b
    case len => exact pe_callB hr hg hm hv ha hn hdb he hpl
    case abs => exact pe_callB hr hg hm hv ha hn hdb he hpl
    case int => exact pe_callTy hr hg hm hv ha hn hdb he hpl
    case max => exact pe_callB hr hg hm hv ha hn hdb he hpl
    case min => exact pe_callB hr hg hm hv ha hn hdb he hpl
    case divmod => exact pe_callB hr hg hm hv ha hn hdb he hpl
    case all => exact pe_callB hr hg hm hv ha hn hdb he hpl
    case list => exact pe_callTy hr hg hm hv ha hn hdb he hpl
    case tuple => exact pe_callTy hr hg hm hv ha hn hdb he hpl
    case sum => exact pe_callB hr hg hm hv ha hn hdb he hpl
  refine pe_imp key fun σ H Q ⟨env, w, e, o, r, h⟩ => ⟨env, w, e, o, r, ?_⟩
  rw [Ex.ev] at h
  refine (PostG.bind (rep := RepVs X.K) h).imp fun xs H1 ⟨w1, vs, e1, x1, o1, r1, p1⟩ => ?_
  obtain ⟨z, hz, q⟩ := PostG.lift p1 o1
  obtain ⟨ds, h1, hz⟩ := Option.bind_eq_some_iff.mp hz
  obtain ⟨dz, h2, rfl⟩ := Option.map_eq_some_iff.mp hz
  exact ⟨w1, ds, dz, e1, o1, r1.ats o1 h1, h2, q⟩

/-! displays -/
theorem s_tup {es : List Expr} {is : Exs} {k : Nat} (ha : PA X es (tIa X.K F is)) : PE X (.Tuple es k pos) (tI X.K F (.tup is)) := by
  refine pe_imp (pe_tup ha) fun σ H Q ⟨env, w, e, o, r, h⟩ => ⟨env, w, e, o, r, ?_⟩
  rw [Ex.ev] at h
  refine (PostG.bind (rep := RepVs X.K) h).imp fun xs H1 ⟨w1, vs, e1, x1, o1, r1, p1⟩ => ?_
  obtain ⟨z, hz, q⟩ := PostG.lift p1 o1
  obtain ⟨ds, h1, hz⟩ := Option.bind_eq_some_iff.mp hz
  split at hz
  · rename_i hl
    cases hz
    have rd := r1.datas h1
    subst e1
    exact ⟨by rw [rd.len]; exact lim_le hl, fun p hp => q (w1.new p _) _ rfl (ext_new o1 hp) (ok_new o1 hp) (rep_newT o1 hp rd)⟩
  · cases hz
theorem s_lst {es : List Expr} {is : Exs} (ha : PA X es (tIa X.K F is)) : PE X (.List es pos) (tI X.K F (.lst is)) := by
  refine pe_imp (pe_lst ha) fun σ H Q ⟨env, w, e, o, r, h⟩ => ⟨env, w, e, o, r, ?_⟩
  rw [Ex.ev] at h
  refine (PostG.bind (rep := RepVs X.K) h).imp fun xs H1 ⟨w1, vs, e1, x1, o1, r1, p1⟩ => ?_
  obtain ⟨z, hz, q⟩ := PostG.lift p1 o1
  obtain ⟨ds, h1, hz⟩ := Option.bind_eq_some_iff.mp hz
  split at hz
  · rename_i hl
    cases hz
    have rd := r1.datas h1
    subst e1
    exact ⟨by rw [rd.len]; exact lim_le hl, fun p hp => q (w1.new p _) _ rfl (ext_new o1 hp) (ok_new o1 hp) (rep_newL o1 hp rd)⟩
  · cases hz
theorem s_mk {es : List Expr} {is : Exs} (ha : PA X es (tIa X.K F is)) : PE X (.List es pos) (tI X.K F (.mk is)) := by
  refine pe_imp (pe_lst ha) fun σ H Q ⟨env, w, e, o, r, h⟩ => ⟨env, w, e, o, r, ?_⟩
  rw [Ex.ev] at h
  refine (PostG.bind (rep := RepVs X.K) h).imp fun xs H1 ⟨w1, vs, e1, x1, o1, r1, p1⟩ => ?_
  split at p1
  · rename_i ds h1
    split at p1
    · rename_i hl
      have rd := r1.datas h1
      subst e1
      refine ⟨by rw [rd.len]; exact lim_le hl, fun p hp => p1 (w1.push p (.lst xs) (.lst ds)) _ rfl (ext_push o1 hp) (ok_push o1 hp rd) ⟨p, rfl, ?_⟩⟩
      show (w1.R ++ [p])[w1.M.length]? = some p
      rw [← o1.len]
      simp
    · exact p1.elim
  · exact p1.elim

/-! subscripts -/
theorem s_ix {a b : Expr} {ia ib : Ex} (ha : PE X a (tI X.K F ia)) (hb : PE X b (tI X.K F ib)) (hs : PlainIx b) : PE X (.Subscript a b pos) (tI X.K F (.ix ia ib)) := by
  refine pe_imp (pe_ix ix_seq ha hb hs) fun σ H Q ⟨env, w, e, o, r, h⟩ => ⟨env, w, e, o, r, ?_⟩
  rw [Ex.ev] at h
  refine (PostG.bind (rep := RepV X.K) h).imp fun x H1 ⟨w1, v, e1, x1, o1, r1, p1⟩ => ?_
  refine ⟨env, w1, e1, o1, r.mono x1, (PostG.bind (rep := RepV X.K) p1).imp fun y H2 ⟨w2, u, e2, x2, o2, r2, p2⟩ => ?_⟩
  subst e2
  split at p2
  · rename_i dx i ey
    have ry : y = .int i := by simpa only [RepV, RepD] using r2
    obtain ⟨z, hz, q⟩ := PostG.lift p2 o2
    obtain ⟨dz, h2, rfl⟩ := Option.map_eq_some_iff.mp hz
    have ra := (r1.mono x2).at o2 ey
    cases dx with
    | lst ds =>
      obtain ⟨p, xs, rfl, hp, rr⟩ := ra
      simp only [ixD, atI] at h2
      obtain ⟨j, hj, hd⟩ := Option.bind_eq_some_iff.mp h2
      obtain ⟨v2, hv, rv⟩ := rr.get hd
      exact .inl ⟨p, xs, i, v2, rfl, ry, hp, by unfold atI; rw [rr.len, hj]; exact hv, q w2 v2 rfl (Ext.refl w2) o2 rv⟩
    | tup ds =>
      obtain ⟨p, xs, rfl, hp, rr⟩ := ra
      simp only [ixD, atI] at h2
      obtain ⟨j, hj, hd⟩ := Option.bind_eq_some_iff.mp h2
      obtain ⟨v2, hv, rv⟩ := rr.get hd
      exact .inr (.inl ⟨p, xs, i, v2, rfl, ry, hp, by unfold atI; rw [rr.len, hj]; exact hv, q w2 v2 rfl (Ext.refl w2) o2 rv⟩)
    | _ => cases h2
  · exact p2.elim

theorem RepDs.take {K : PySem.W.Frag} {w : Wd} : ∀ {ds : List D} {xs : List V} (n : Nat), RepDs K w ds xs → RepDs K w (ds.take n) (xs.take n)
  | ds, xs, 0, h => by rw [List.take_zero, List.take_zero, RepDs]
  | [], xs, n + 1, h => by
    rw [RepDs] at h
    subst h
    rw [List.take_nil, List.take_nil, RepDs]
  | d :: ds, xs, n + 1, h => by
    rw [RepDs] at h
    obtain ⟨y, ys, rfl, h1, h2⟩ := h
    rw [List.take_succ_cons, List.take_succ_cons, RepDs]
    exact ⟨y, _, rfl, h1, RepDs.take n h2⟩
theorem RepDs.drop {K : PySem.W.Frag} {w : Wd} : ∀ {ds : List D} {xs : List V} (n : Nat), RepDs K w ds xs → RepDs K w (ds.drop n) (xs.drop n)
  | ds, xs, 0, h => by rw [List.drop_zero, List.drop_zero]; exact h
  | [], xs, n + 1, h => by
    rw [RepDs] at h
    subst h
    rw [List.drop_nil, List.drop_nil, RepDs]
  | d :: ds, xs, n + 1, h => by
    rw [RepDs] at h
    obtain ⟨y, ys, rfl, h1, h2⟩ := h
    rw [List.drop_succ_cons, List.drop_succ_cons]
    exact RepDs.drop n h2
theorem RepDs.rev {K : PySem.W.Frag} {w : Wd} : ∀ {ds : List D} {xs : List V}, RepDs K w ds xs → RepDs K w ds.reverse xs.reverse
  | [], xs, h => by
    rw [RepDs] at h
    subst h
    rw [List.reverse_nil, List.reverse_nil, RepDs]
  | d :: ds, xs, h => by
    rw [RepDs] at h
    obtain ⟨y, ys, rfl, h1, h2⟩ := h
    rw [List.reverse_cons, List.reverse_cons]
    refine RepDs.app (RepDs.rev h2) ?_
    rw [RepDs]
    exact ⟨y, [], rfl, h1, by rw [RepDs]⟩
theorem cut_rep {K : PySem.W.Frag} {w : Wd} {ds : List D} {xs : List V} (lo hi : Option Int) (h : RepDs K w ds xs) : RepDs K w (cutL ds lo hi) (cutV xs lo hi) := by
  unfold cutL cutV
  rw [h.len]
  exact (h.drop _).take _
/-- one part of a slice: none or one -/
def tIo (K : PySem.W.Frag) (F : Oracle) (es : Exs) : TO := fun σ H Q => ∃ env w, w.H = H ∧ Ok K w ∧ EnvRep K w env σ ∧ PostG K (fun _ a o => a = o) w (partR (es.ev F env w.M)) Q
theorem po_nil : PO X none (tIo X.K F .nil) :=
  ⟨fun pins s σ H Q I ⟨env, w, e, o, r, h⟩ => by
    subst e
    rw [Exs.ev] at h
    exact po_none.run pins s σ w.H Q I (h w none rfl (Ext.refl w) o rfl)⟩
theorem po_one {e : Expr} {ie : Ex} (he : PE X e (tI X.K F ie)) : PO X (some e) (tIo X.K F (.cons ie .nil)) :=
  ⟨fun pins s σ H Q I ⟨env, w, e, o, r, h⟩ => by
    refine (po_some he).run pins s σ H Q I ⟨env, w, e, o, r, ?_⟩
    rw [partR, Exs.ev] at h
    cases hx : ie.ev F env w.M with
    | stuck => rw [hx] at h; exact h.elim
    | ok v M1 =>
      rw [hx, bind_ok, Exs.ev, bind_ok, bind_ok] at h
      intro w' x hm ex o' rx
      unfold part at h
      split at h
      · rename_i q; cases q
      · rename_i i q
        cases q
        rw [RepV, RepD] at rx
        exact ⟨i, rx, h w' _ hm ex o' rfl⟩
      · exact h.elim⟩
theorem s_sl {a : Expr} {ia : Ex} {lo hi : Option Expr} {il ih : Exs} {p2 : Pos} (ha : PE X a (tI X.K F ia)) (hl : PO X lo (tIo X.K F il)) (hh : PO X hi (tIo X.K F ih)) : PE X (.Subscript a (.Slice lo hi none p2) pos) (tI X.K F (.sl ia il ih)) := by
  refine pe_imp (pe_slice sl_list ha hl hh) fun σ H Q ⟨env, w, e, o, r, h⟩ => ⟨env, w, e, o, r, ?_⟩
  rw [Ex.ev] at h
  refine (PostG.bind (rep := RepV X.K) h).imp fun x H1 ⟨w1, v, e1, x1, o1, r1, p1⟩ => ?_
  refine ⟨env, w1, e1, o1, r.mono x1, (PostG.bind (rep := fun _ a o => a = o) p1).imp fun l H2 ⟨w2, l', e2, x2, o2, r2, p2⟩ => ?_⟩
  refine ⟨env, w2, e2, o2, (r.mono x1).mono x2, (PostG.bind (rep := fun _ a o => a = o) p2).imp fun u H3 ⟨w3, u', e3, x3, o3, r3, p3⟩ => ?_⟩
  subst r2
  subst r3
  subst e3
  obtain ⟨z, hz, q⟩ := PostG.lift p3 o3
  obtain ⟨dx, ex, hz⟩ := Option.bind_eq_some_iff.mp hz
  obtain ⟨dz, h2, rfl⟩ := Option.map_eq_some_iff.mp hz
  have ra := ((r1.mono x2).mono x3).at o3 ex
  cases dx with
  | lst ds =>
    cases h2
    obtain ⟨p, xs, rfl, hp, rr⟩ := ra
    exact ⟨p, xs, rfl, hp, fun p hp => q (w3.new p _) _ rfl (ext_new o3 hp) (ok_new o3 hp) (rep_newL o3 hp (cut_rep _ _ rr))⟩
  | _ => cases h2
theorem s_rev {a : Expr} {ia : Ex} {k : Nat} {p1 p2 p3 : Pos} (ha : PE X a (tI X.K F ia)) : PE X (.Subscript a (.Slice none none (some (.UnaryOp .USub (.Constant (.int 1) k p1) p2)) p3) pos) (tI X.K F (.rev ia)) := by
  refine pe_imp (pe_revL ha) fun σ H Q ⟨env, w, e, o, r, h⟩ => ⟨env, w, e, o, r, ?_⟩
  rw [Ex.ev] at h
  refine (PostG.bind (rep := RepV X.K) h).imp fun x H1 ⟨w1, v, e1, x1, o1, r1, p1⟩ => ?_
  subst e1
  obtain ⟨z, hz, q⟩ := PostG.lift p1 o1
  obtain ⟨dx, ex, hz⟩ := Option.bind_eq_some_iff.mp hz
  obtain ⟨dz, h2, rfl⟩ := Option.map_eq_some_iff.mp hz
  have ra := r1.at o1 ex
  cases dx with
  | lst ds =>
    cases h2
    obtain ⟨p, xs, rfl, hp, rr⟩ := ra
    exact ⟨p, xs, rfl, hp, fun p hp => q (w1.new p _) _ rfl (ext_new o1 hp) (ok_new o1 hp) (rep_newL o1 hp rr.rev)⟩
  | _ => cases h2
theorem s_lcnt {a b : Expr} {ia ib : Ex} {apos : Pos} (ha : PE X a (tI X.K F ia)) (hb : PE X b (tI X.K F ib)) (h1 : attributeBase a "count" X.env (eval a X.env) = eval a X.env)
    (h2 : (((((backTo pos (starEach [b] X.env)).all fun x => !x.1) && (backToKw pos (keywordEach [] X.env)).all fun x => x.1.isSome) && decide (([b].length + ([] : List Keyword).length + if ([] : List Keyword).isEmpty = true then 0 else 1) < 30)) = true))
    (h3 : (apos.endLine == pos.line) = true) (h4 : starEach [b] X.env = (false, eval b X.env) :: starEach [] X.env) (h5 : ((backTo pos (starEach [] X.env)).any fun x => x.1) = false) :
    PE X (.Call (.Attribute a "count" apos) [b] [] pos) (tI X.K F (.lcnt ia ib)) := by
  refine pe_imp (pe_bm PySem.F.plainAttrs_list PySem.F.slot_list_count PySem.F.type_list_count mt_lcount ha (s_cons hb s_nil h4) h1 h2 h3 h4 h5) fun σ H Q ⟨env, w, e, o, r, h⟩ => ⟨env, w, e, o, r, ?_⟩
  rw [Ex.ev] at h
  refine (PostG.bind (rep := RepV X.K) h).imp fun x H1 ⟨w1, v, e1, x1, o1, r1, p1⟩ => ?_
  subst e1
  split at p1
  · rename_i hl
    have ht : tyV X.K "list" x w1.H := by
      unfold isLst at hl
      split at hl
      · rename_i ds ed
        obtain ⟨p, xs, rfl, hp, rr⟩ := r1.at o1 ed
        exact .inl ⟨rfl, xs, hp⟩
      · cases hl
    refine ⟨ht, env, w1, rfl, o1, r.mono x1, ?_⟩
    rw [Exs.ev]
    cases hy : ib.ev F env w1.M with
    | stuck => rw [hy] at p1; exact p1.elim
    | ok u M2 =>
      rw [hy, bind_ok] at p1
      rw [bind_ok, Exs.ev, bind_ok]
      intro w' ys hm ex o' ry
      obtain ⟨y, ys', rfl, ry, rn⟩ := ry
      have rn : ys' = [] := rn
      subst rn
      subst hm
      obtain ⟨z, hz, q⟩ := PostG.lift (w := w') (PostG.mono ex p1) o'
      obtain ⟨dx, edx, hz⟩ := Option.bind_eq_some_iff.mp hz
      obtain ⟨dy, edy, hz⟩ := Option.bind_eq_some_iff.mp hz
      obtain ⟨dz, h2, rfl⟩ := Option.map_eq_some_iff.mp hz
      have ra := (r1.mono ex).at o' edx
      have rb := ry.at o' edy
      unfold cntD at h2
      split at h2
      · rename_i ds k hzz
        obtain ⟨ns, hns, rfl⟩ := Option.map_eq_some_iff.mp h2
        obtain ⟨p, xs, rfl, hp, rr⟩ := ra
        have e := repA_int rb
        subst e
        have e := intsOf_eq hns rr
        subst e
        exact ⟨p, ns, k, rfl, rfl, hp, q w' (V.int ((ns.count k : Nat) : Int)) rfl (Ext.refl w') o' (by rw [RepV, RepD])⟩
      · cases h2
  · exact p1.elim

/-! a list that is made anew goes into the store -/
def tN (K : PySem.W.Frag) (F : Oracle) (e : Ex) : TE := fun σ H Q => ∃ env w ds M', w.H = H ∧ Ok K w ∧ EnvRep K w env σ ∧ e.ev F env w.M = .ok (.d (.lst ds)) M' ∧
  ∀ w' p xs, w'.M = M' → Ext w w' → Ok K w' → w'.H p = none → RepDs K w' ds xs → Q (.ref p) (upd w'.H p (.lst xs))
theorem new_in {F : Oracle} {i : Ex} {X : Cx} {σ : L2.St} {H : Hp} {Q : VK} (h : tI X.K F (.new i) σ H Q) : tN X.K F i σ H Q := by
  obtain ⟨env, w, e, o, r, h⟩ := h
  rw [Ex.ev] at h
  cases hv : i.ev F env w.M with
  | stuck => rw [hv] at h; exact h.elim
  | ok v M1 =>
    rw [hv, bind_ok] at h
    split at h
    · rename_i ds
      refine ⟨env, w, ds, M1, e, o, r, hv, fun w' p xs hm ex o' hp rr => ?_⟩
      subst hm
      refine h (w'.push p (.lst xs) (.lst ds)) _ rfl (ex.trans (ext_push o' hp)) (ok_push o' hp rr) ⟨p, rfl, ?_⟩
      show (w'.R ++ [p])[w'.M.length]? = some p
      rw [← o'.len]
      simp
    · exact h.elim
theorem s_new {e : Expr} {i : Ex} (h : PE X e (tN X.K F i)) : PE X e (tI X.K F (.new i)) := pe_imp h fun _ _ _ h => new_in h
theorem mul_inv {dx dy : D} {ds : List D} (h : binD .Mult dx dy = some (.lst ds)) : ∃ xs k, dx = .lst xs ∧ dy = .int k ∧ (-(2 ^ 62) < k ∧ k < 2 ^ 62 ∧ xs.length * k.toNat ≤ LIM) ∧ ds = (List.replicate k.toNat xs).flatten := by
  cases dx <;> cases dy <;> first | (cases h; done) | skip
  · rename_i i j
    have h : (binI .Mult i j).map D.int = some (.lst ds) := h
    obtain ⟨k, _, hk⟩ := Option.map_eq_some_iff.mp h
    cases hk
  · rename_i xs k
    have h : (if -(2 ^ 62) < k ∧ k < 2 ^ 62 ∧ xs.length * k.toNat ≤ LIM then some (D.lst (List.replicate k.toNat xs).flatten) else none) = some (.lst ds) := h
    split at h
    · rename_i hk
      cases h
      exact ⟨xs, k, rfl, rfl, hk, rfl⟩
    · cases h
theorem list_inv {es : List D} {ds : List D} (h : biD .list es = some (.lst ds)) : ∃ d, es = [d] ∧ (d = .lst ds ∨ d = .tup ds) := by
  match es, h with
  | [.lst xs], h =>
    cases h
    exact ⟨_, rfl, .inl rfl⟩
  | [.tup xs], h =>
    cases h
    exact ⟨_, rfl, .inr rfl⟩
  | [], h => cases h
  | [.non], h => cases h
  | [.bl _], h => cases h
  | [.int _], h => cases h
  | [.str _], h => cases h
  | _ :: _ :: _, h => simp [biD] at h
theorem n_rep {a b : Expr} {ia ib : Ex} (ha : PE X a (tI X.K F ia)) (hb : PE X b (tI X.K F ib)) : PE X (.BinOp a .Mult b pos) (tN X.K F (.bin .Mult ia ib)) := by
  have key : OpR X (binaryOp .Mult) (fun x y H Q => ∃ w xs k, w.H = H ∧ Ok X.K w ∧ RepP X.K w (.lst xs) x ∧ y = .int k ∧ (-(2 ^ 62) < k ∧ k < 2 ^ 62 ∧ xs.length * k.toNat ≤ LIM) ∧
      ∀ p ys, w.H p = none → RepDs X.K w (List.replicate k.toNat xs).flatten ys → Q (.ref p) (upd w.H p (.lst ys))) := by
    intro pins s σ H x y v u Q I rx ry ⟨w, xs, k, e, o, r1, e2, hz, q⟩
    subst e
    subst e2
    obtain ⟨a, as, rfl, ha, ra⟩ := r1
    exact op_rep pins s σ w.H _ _ v u Q I rx ry ⟨a, k, as, rfl, rfl, ha, by omega, by omega, by rw [ra.len]; exact lim_le hz.2.2, fun p hp => q p _ hp (ra.rep k.toNat)⟩
  refine pe_imp (pe_op key ha hb) fun σ H Q ⟨env, w, ds, M', e, o, r, hv, q⟩ => ?_
  rw [Ex.ev] at hv
  refine ⟨env, w, e, o, r, ?_⟩
  cases hx : ia.ev F env w.M with
  | stuck => rw [hx] at hv; cases hv
  | ok v M1 =>
    rw [hx, bind_ok] at hv
    intro w1 x hm1 x1 o1 r1
    subst hm1
    refine ⟨env, w1, rfl, o1, r.mono x1, ?_⟩
    cases hy : ib.ev F env w1.M with
    | stuck => rw [hy] at hv; cases hv
    | ok u M2 =>
      rw [hy, bind_ok] at hv
      intro w2 y hm2 x2 o2 r2
      subst hm2
      cases hz : ((v.pl w2.M).bind fun x => (u.pl w2.M).bind fun y => (binD .Mult x y).map Val.d) with
      | none => rw [hz] at hv; cases hv
      | some z =>
        rw [hz] at hv
        cases hv
        obtain ⟨dx, h1, hz⟩ := Option.bind_eq_some_iff.mp hz
        obtain ⟨dy, h2, hz⟩ := Option.bind_eq_some_iff.mp hz
        obtain ⟨dz, h3, hz⟩ := Option.map_eq_some_iff.mp hz
        cases hz
        have p1 := (r1.mono x2).pl o2 h1
        have p2 := r2.pl o2 h2
        obtain ⟨xs, k, rfl, rfl, hk, rfl⟩ := mul_inv h3
        exact ⟨w2, xs, k, rfl, o2, p1, repP_int p2, hk, fun p ys hp rr => q w2 p ys rfl (x1.trans x2) o2 hp rr⟩
theorem n_list {x : Str} {p : Pos} {e : Expr} {ie : Ex} (hg : Gl X x) (hm : X.mg x = none) (hv : bootBuiltins x = some (.type "list")) (ha : PE X e (tI X.K F ie)) (hn : x ≠ "__name__") (hdb : (x == ("__debug__" : Str)) = false)
    (he : starEach [e] X.env = (false, eval e X.env) :: starEach [] X.env) (hpl : (backTo pos (starEach [] X.env)).any (·.1) = false) : PE X (.Call (.Name x p) [e] [] pos) (tN X.K F (.bi .list (.cons ie .nil))) := by
  have key : CallR X (.type "list") (fun xs H Q => ∃ w ds y, w.H = H ∧ Ok X.K w ∧ xs = [y] ∧ (RepA X.K w (.lst ds) y ∨ RepA X.K w (.tup ds) y) ∧ ∀ p ys, w.H p = none → RepDs X.K w ds ys → Q (.ref p) (upd w.H p (.lst ys))) := by
    intro pins s σ H xs us Q I r ⟨w, ds, y, e, o, e2, r1, q⟩
    subst e
    subst e2
    rcases r1 with r1 | r1
    · obtain ⟨a, as, rfl, ha, rr⟩ := r1
      exact call_list_of pins s σ w.H _ us Q I r ⟨a, as, rfl, .inl ha, fun p hp => q p _ hp rr⟩
    · obtain ⟨a, as, rfl, ha, rr⟩ := r1
      exact call_list_of pins s σ w.H _ us Q I r ⟨a, as, rfl, .inr ha, fun p hp => q p _ hp rr⟩
  refine pe_imp (pe_callTy key hg hm hv (s_cons ha s_nil he) hn hdb he hpl) fun σ H Q ⟨env, w, ds, M', e, o, r, hv, q⟩ => ⟨env, w, e, o, r, ?_⟩
  rw [Ex.ev] at hv
  cases hx : (Exs.cons ie .nil).ev F env w.M with
  | stuck => rw [hx] at hv; cases hv
  | ok vs M1 =>
    rw [hx, bind_ok] at hv
    intro w1 xs hm1 x1 o1 r1
    subst hm1
    cases hz : ((ats vs w1.M).bind fun xs => (biD .list xs).map Val.d) with
    | none => rw [hz] at hv; cases hv
    | some z =>
      rw [hz] at hv
      cases hv
      obtain ⟨es, h1, hz⟩ := Option.bind_eq_some_iff.mp hz
      obtain ⟨dz, h3, hz⟩ := Option.map_eq_some_iff.mp hz
      cases hz
      have ra := r1.ats o1 h1
      obtain ⟨d, rfl, hd⟩ := list_inv h3
      obtain ⟨y, rfl, r1⟩ := repAs1 ra
      rcases hd with rfl | rfl
      · exact ⟨w1, ds, y, rfl, o1, rfl, .inl r1, fun p ys hp rr => q w1 p ys rfl x1 o1 hp rr⟩
      · exact ⟨w1, ds, y, rfl, o1, rfl, .inr r1, fun p ys hp rr => q w1 p ys rfl x1 o1 hp rr⟩

/-! isinstance -/
theorem tyx_of {K : PySem.W.Frag} {w : Wd} : ∀ {d : D} {x : V}, RepA K w d x → ∃ T : String, TyX K w.H x (.type T) ∧ (T = match d with | .non => "NoneType" | .bl _ => "bool" | .int _ => "int" | .str _ => "str" | .lst _ => "list" | .tup _ => "tuple")
  | .non, x, h => by
    have e : x = .non := by simpa only [RepA, RepD] using h
    subst e
    exact ⟨_, .base .non, rfl⟩
  | .bl b, x, h => by
    have e : x = .bl b := by simpa only [RepA, RepD] using h
    subst e
    exact ⟨_, .base (.bl b), rfl⟩
  | .int b, x, h => by
    have e : x = .int b := by simpa only [RepA, RepD] using h
    subst e
    exact ⟨_, .base (.int b), rfl⟩
  | .str b, x, h => by
    have e : x = .str b ∧ okS b = true ∧ b.length ≤ sizeLine := by simpa only [RepA, RepD] using h
    obtain ⟨e, _, e2⟩ := e
    subst e
    exact ⟨_, .base (.str b), rfl⟩
  | .lst ds, x, ⟨a, xs, h1, h2, h3⟩ => by
    subst h1
    refine ⟨_, ?_, rfl⟩
    rcases h2 with (h | ⟨o, h⟩) | ⟨o, its, n, hk, hc, _⟩
    · exact .base (.lst h)
    · exact .base (.frz h)
    · exact .kList hk hc
  | .tup ds, x, ⟨a, xs, h1, h2, h3⟩ => by
    subst h1
    refine ⟨_, ?_, rfl⟩
    rcases h2 with (h | ⟨o, h⟩) | ⟨o, its, n, hk, hc, _⟩
    · exact .base (.tup h)
    · exact .fTuple h
    · exact .kTuple hk hc
theorem kit_isT {K : PySem.W.Frag} {t : Ty} {d : D} {T : String} (h : T = match d with | .non => "NoneType" | .bl _ => "bool" | .int _ => "int" | .str _ => "str" | .lst _ => "list" | .tup _ => "tuple") : PySem.W.kitOne K (.type T) (.type t.nm) = some (isT t d) := by
  refine kit_ty ?_
  subst h
  cases d <;> cases t <;> (simp only [Ty.nm, isT]; decide +kernel)
theorem kit_any {K : PySem.W.Frag} {d : D} {T : String} (h : T = match d with | .non => "NoneType" | .bl _ => "bool" | .int _ => "int" | .str _ => "str" | .lst _ => "list" | .tup _ => "tuple") : ∀ ts : List Ty, PySem.W.kitAny K (.type T) (ts.map fun t => .type t.nm) = some (ts.any fun t => isT t d)
  | [] => rfl
  | t :: ts => by
    rw [List.map_cons, List.any_cons]
    refine kitAny_cons (kit_isT h) (fun e => ?_) (fun e => ?_)
    · rw [e, Bool.false_or]
      exact kit_any h ts
    · rw [e, Bool.true_or]
theorem s_isi {a : Expr} {ia : Ex} {t : Ty} {x : Str} {p p2 : Pos} (hg : Gl X "isinstance") (hm : X.mg "isinstance" = none) (ht : Gl X x) (hm2 : X.mg x = none) (hv : bootBuiltins x = some (.type t.nm)) (hn : x ≠ "__name__") (hdb : (x == ("__debug__" : Str)) = false) (ha : PE X a (tI X.K F ia))
    (hs : ∀ es, starEach (a :: es) X.env = (false, eval a X.env) :: starEach es X.env) : PE X (.Call (.Name "isinstance" p) [a, .Name x p2] [] pos) (tI X.K F (.isi ia [t])) := by
  have h1 : PE X (.Name x p2) (tC (.ty t.nm)) := pe_bltn ht hm2 hv rfl hn hdb
  refine pe_imp (pe_callB call_isi hg hm (by decide +kernel) (pa_cons ha (pa_cons h1 pa_nil rfl) (hs _)) (by decide +kernel) (by decide +kernel) (hs _) rfl) fun σ H Q ⟨env, w, e, o, r, h⟩ => ⟨env, w, e, o, r, ?_⟩
  rw [Ex.ev] at h
  refine (PostG.bind (rep := RepV X.K) h).imp fun x H1 ⟨w1, v, e1, x1, o1, r1, p1⟩ => ?_
  obtain ⟨z, hz, q⟩ := PostG.lift p1 o1
  obtain ⟨d, h1, rfl⟩ := Option.map_eq_some_iff.mp hz
  obtain ⟨T, hT, hT2⟩ := tyx_of (r1.at o1 h1)
  subst e1
  refine ⟨x, .ty t.nm, .type T, .type t.nm, _, rfl, .ty t.nm, hT, kit_isT hT2, q w1 _ rfl (Ext.refl w1) o1 ?_⟩
  rw [List.any_cons, List.any_nil, Bool.or_false]
  exact rv_bl
theorem s_isi2 {a : Expr} {ia : Ex} {t t2 : Ty} {x y : Str} {p p2 p3 p4 : Pos} {k : Nat} (hg : Gl X "isinstance") (hm : X.mg "isinstance" = none) (ht : Gl X x) (hm2 : X.mg x = none) (hv : bootBuiltins x = some (.type t.nm)) (hn : x ≠ "__name__") (hdb : (x == ("__debug__" : Str)) = false)
    (ht2 : Gl X y) (hm3 : X.mg y = none) (hv2 : bootBuiltins y = some (.type t2.nm)) (hn2 : y ≠ "__name__") (hdb2 : (y == ("__debug__" : Str)) = false) (ha : PE X a (tI X.K F ia))
    (hs : ∀ es, starEach (a :: es) X.env = (false, eval a X.env) :: starEach es X.env) : PE X (.Call (.Name "isinstance" p) [a, .Tuple [.Name x p2, .Name y p3] k p4] [] pos) (tI X.K F (.isi ia [t, t2])) := by
  have h1 : PE X (.Name x p2) (tC (.ty t.nm)) := pe_bltn ht hm2 hv rfl hn hdb
  have h2 : PE X (.Name y p3) (tC (.ty t2.nm)) := pe_bltn ht2 hm3 hv2 rfl hn2 hdb2
  refine pe_imp (pe_callB call_isiT hg hm (by decide +kernel) (pa_cons ha (pa_cons (pe_tup (pa_cons h1 (pa_cons h2 pa_nil rfl) rfl)) pa_nil rfl) (hs _)) (by decide +kernel) (by decide +kernel) (hs _) rfl) fun σ H Q ⟨env, w, e, o, r, h⟩ => ⟨env, w, e, o, r, ?_⟩
  rw [Ex.ev] at h
  refine (PostG.bind (rep := RepV X.K) h).imp fun x H1 ⟨w1, v, e1, x1, o1, r1, p1⟩ => ?_
  obtain ⟨z, hz, q⟩ := PostG.lift p1 o1
  obtain ⟨d, h1, rfl⟩ := Option.map_eq_some_iff.mp hz
  subst e1
  refine ⟨by show 2 ≤ sizeLine; decide, fun tp hp => ?_⟩
  have o2 := ok_new o1 (u := .tup [.ty t.nm, .ty t2.nm]) hp
  have x2 := ext_new o1 (u := .tup [.ty t.nm, .ty t2.nm]) hp
  have r2 := (r1.mono x2).at o2 h1
  obtain ⟨T, hT, hT2⟩ := tyx_of r2
  exact ⟨x, tp, [.ty t.nm, .ty t2.nm], .type T, [.type t.nm, .type t2.nm], _, rfl, upd_same, .cons (.ty _) (.cons (.ty _) .nil), hT, kit_any hT2 [t, t2], q (w1.new tp _) _ rfl x2 o2 rv_bl⟩
end
end VI
set_option maxHeartbeats 1000000
namespace VI
open PySem PySem.Spec PyProof.Rows L2

mutual
def Tg.slots : Tg → List Nat
  | .slot i => [i]
  | .tup ts => ts.slots
def Tgs.slots : Tgs → List Nat
  | .nil => []
  | .cons t ts => t.slots ++ ts.slots
end
def Tgs.len : Tgs → Nat
  | .nil => 0
  | .cons _ ts => ts.len + 1

def RepI (K : PySem.W.Frag) (w : Wd) : Itm → V → Prop
  | .v x, y => RepV K w x y
  | .p xs, y => ∃ a ys, y = .ref a ∧ SqT K w.H a ys ∧ RepVs K w xs ys

def Keep (ss : List Nat) (σ σ' : L2.St) : Prop := ∀ is : List Nat, (∀ s ∈ ss, s ∈ is) → L2.wipe σ' is = L2.wipe σ is
theorem wipe_comm (σ : L2.St) (i : Nat) (x : Option V) : ∀ is : List Nat, i ∈ is → L2.wipe (σ.set i x) is = L2.wipe σ is := by
  have none_set : ∀ (is : List Nat) (σ : L2.St), i ∉ is → L2.wipe (σ.set i x) is = (L2.wipe σ is).set i x := by
    intro is
    induction is with
    | nil => intro σ _; rfl
    | cons j js ih =>
      intro σ h
      unfold L2.wipe
      rw [ih σ (fun z => h (List.mem_cons_of_mem _ z)), List.set_comm]
      intro e
      exact h (by rw [e]; exact List.mem_cons_self)
  intro is
  induction is with
  | nil => intro h; cases h
  | cons j js ih =>
    intro h
    unfold L2.wipe
    by_cases hj : i ∈ js
    · rw [ih hj]
    · have e : i = j := by
        rcases List.mem_cons.mp h with e | e
        · exact e
        · exact absurd e hj
      subst e
      rw [none_set js σ hj, List.set_set]

def gI (K : PySem.W.Frag) (tg : Tg) : TG := fun v σ H Q => ∃ env w it env', w.H = H ∧ Ok K w ∧ EnvRep K w env σ ∧ RepI K w it v ∧ tg.putI it env w.M = some env' ∧
  ∀ σ', EnvRep K w env' σ' → Keep tg.slots σ σ' → Q σ' H
def gIs (K : PySem.W.Frag) (ts : Tgs) : TGs := fun vs σ H Q => ∃ env w xs env', w.H = H ∧ Ok K w ∧ EnvRep K w env σ ∧ RepVs K w xs vs ∧ ts.put xs env w.M = some env' ∧
  ∀ σ', EnvRep K w env' σ' → Keep ts.slots σ σ' → Q σ' H

theorem put_len : ∀ {ts : Tgs} {xs : List Val} {env env' : Env} {M : Mem}, ts.put xs env M = some env' → xs.length = ts.len
  | .nil, [], _, _, _, _ => rfl
  | .nil, _ :: _, _, _, _, h => by simp [Tgs.put] at h
  | .cons _ _, [], _, _, _, h => by simp [Tgs.put] at h
  | .cons t ts, x :: xs, env, env', M, h => by
    rw [Tgs.put] at h
    obtain ⟨e1, _, h2⟩ := Option.bind_eq_some_iff.mp h
    rw [List.length_cons, put_len h2]
    rfl

section
variable {X : Cx} {F : Oracle} {pos : Pos}
theorem pg_imp {e : Expr} {t t' : TG} (h : PG X e t) (q : ∀ v σ H Q, t' v σ H Q → t v σ H Q) : PG X e t' := ⟨fun pins s σ H v u Q I r z => h.run pins s σ H v u Q I r (q v σ H Q z)⟩
theorem pgs_imp {e : List Expr} {t t' : TGs} (h : PGs X e t) (q : ∀ v σ H Q, t' v σ H Q → t v σ H Q) : PGs X e t' := ⟨fun pins s σ H v u Q I r z => h.run pins s σ H v u Q I r (q v σ H Q z)⟩
theorem g_slot {i : Nat} {x : Str} (hN : X.N.Nodup) (hi : X.N[i]? = some x) (hx : Loc X.env.scope x) (hf : X.fn x = true ∨ X.env.scope.names.lookup x = some .local) : PG X (.Name x pos) (gI X.K (.slot i)) := by
  refine pg_imp (pg_name hN hi hx hf) fun v σ H Q ⟨env, w, it, env', e, o, r, ri, hp, q⟩ => ?_
  cases it with
  | p xs => cases hp
  | v y =>
    cases hp
    exact q _ (r.setI i ri) fun is h => wipe_comm σ i (some v) is (h i (by simp [Tg.slots]))
theorem g_nil : PGs X [] (gIs X.K .nil) := by
  refine pgs_imp pgs_nil fun v σ H Q ⟨env, w, xs, env', e, o, r, ri, hp, q⟩ => ?_
  cases xs with
  | cons => cases hp
  | nil =>
    cases hp
    exact ⟨ri, q σ r fun _ _ => rfl⟩
theorem g_cons {e : Expr} {es : List Expr} {t : Tg} {ts : Tgs} (h1 : PG X e (gI X.K t)) (h2 : PGs X es (gIs X.K ts))
    (hs : (assignEach (e :: es) X.env).map (·.2) = assign e X.env :: (assignEach es X.env).map (·.2)) : PGs X (e :: es) (gIs X.K (.cons t ts)) := by
  refine pgs_imp (pgs_cons h1 h2 hs) fun v σ H Q ⟨env, w, xs, env', e, o, r, ri, hp, q⟩ => ?_
  cases xs with
  | nil => rw [Tgs.put] at hp <;> cases hp
  | cons x xs =>
    obtain ⟨y, ys, e2, r1, r2⟩ := ri
    rw [Tgs.put] at hp
    obtain ⟨env1, p1, p2⟩ := Option.bind_eq_some_iff.mp hp
    refine ⟨y, ys, e2, env, w, .v x, env1, e, o, r, r1, p1, fun σ' rs k1 => ?_⟩
    refine ⟨env1, w, xs, env', e, o, rs, r2, p2, fun σ2 rs2 k2 => q σ2 rs2 fun is h => ?_⟩
    rw [k2 is fun s hs => h s (by rw [Tgs.slots]; exact List.mem_append_right _ hs), k1 is fun s hs => h s (by rw [Tgs.slots]; exact List.mem_append_left _ hs)]
theorem g_tup {es : List Expr} {k : Nat} {ts : Tgs} (hc : X.calm = true) (h : PGs X es (gIs X.K ts)) (hn : (assignEach es X.env).length = ts.len) (hst : (assignEach es X.env).findIdx? (·.1) = none) : PG X (.Tuple es k pos) (gI X.K (.tup ts)) := by
  refine pg_imp (pg_tup hc h hn hst) fun v σ H Q ⟨env, w, it, env', e, o, r, ri, hp, q⟩ => ?_
  subst e
  cases it with
  | v y =>
    rw [Tg.putI, Tg.put] at hp
    split at hp
    · rename_i ds hd
      obtain ⟨a, xs, rfl, hq, rr⟩ := ri.at o hd
      refine ⟨a, xs, rfl, hq, ?_, env, w, _, env', rfl, o, r, rr.vs, hp, fun σ' rs kk => q σ' rs (by rw [Tg.slots]; exact kk)⟩
      rw [rr.len, ← put_len hp, List.length_map]
    · cases hp
  | p xs =>
    rw [Tg.putI] at hp
    obtain ⟨a, ys, rfl, hq, rr⟩ := ri
    refine ⟨a, ys, rfl, hq, ?_, env, w, xs, env', rfl, o, r, rr, hp, fun σ' rs kk => q σ' rs (by rw [Tg.slots]; exact kk)⟩
    rw [rr.len, put_len hp]
end

/-! what is walked -/
def ItOk (K : PySem.W.Frag) (w0 : Wd) (J : L2.It) (items : List Itm) : Prop := ∀ w, Ext0 w0 w → Ok K w → ∀ i : Nat,
  (∀ it, items[i]? = some it → J.go i w.H ∧ ∀ x H', J.yld i w.H x H' → ∃ w2, w2.H = H' ∧ w2.M = w.M ∧ Ext w w2 ∧ Ok K w2 ∧ RepI K w2 it x) ∧ (items[i]? = none → J.stop i w.H)
def PostI (K : PySem.W.Frag) (w : Wd) (r : Res (List Itm)) (R : L2.It → Hp → Prop) : Prop :=
  match r with
  | .stuck => False
  | .ok items M' => ∀ w' J, w'.M = M' → Ext w w' → Ok K w' → ItOk K w' J items → R J w'.H
def iI (K : PySem.W.Frag) (F : Oracle) (it : It) : TI := fun σ H R => ∃ env w, w.H = H ∧ Ok K w ∧ EnvRep K w env σ ∧ PostI K w (it.ev F env w.M) R

section
variable {K : PySem.W.Frag} {w : Wd}
theorem itok_list {a : Addr} {xs : List V} {ds : List D} (h : FzL w a xs) (r : RepDs K w ds xs) : ItOk K w (Itl K a) (ds.map fun x => .v (.d x)) := by
  intro w1 e o i
  have h1 := h.mono0 e
  have r1 := RepDs.mono0 e _ _ r
  refine ⟨fun it hi => ?_, fun hi => ?_⟩
  · rw [List.getElem?_map] at hi
    obtain ⟨d, hd, rfl⟩ := Option.map_eq_some_iff.mp hi
    obtain ⟨x, hx, rx⟩ := r1.get hd
    refine ⟨⟨xs, x, h1.sq, hx⟩, fun y H' ⟨e2, hy⟩ => ?_⟩
    have e3 : y = x := Option.some.inj ((hy xs h1.sq).symm.trans hx)
    subst e3
    exact ⟨w1, e2.symm, rfl, Ext.refl w1, o, rx⟩
  · refine ⟨xs, h1.sq, ?_⟩
    rw [r1.len]
    rw [List.getElem?_eq_none_iff, List.length_map] at hi
    exact hi
theorem itok_tup {a : Addr} {xs : List V} {ds : List D} (h : FzT K w a xs) (r : RepDs K w ds xs) : ItOk K w (Itt K a) (ds.map fun x => .v (.d x)) := by
  intro w1 e o i
  have h1 := h.mono0 e
  have r1 := RepDs.mono0 e _ _ r
  refine ⟨fun it hi => ?_, fun hi => ?_⟩
  · rw [List.getElem?_map] at hi
    obtain ⟨d, hd, rfl⟩ := Option.map_eq_some_iff.mp hi
    obtain ⟨x, hx, rx⟩ := r1.get hd
    refine ⟨⟨xs, x, h1.sq, hx⟩, fun y H' ⟨e2, hy⟩ => ?_⟩
    have e3 : y = x := Option.some.inj ((hy xs h1.sq).symm.trans hx)
    subst e3
    exact ⟨w1, e2.symm, rfl, Ext.refl w1, o, rx⟩
  · refine ⟨xs, h1.sq, ?_⟩
    rw [r1.len]
    rw [List.getElem?_eq_none_iff, List.length_map] at hi
    exact hi
theorem rng_get (lo : Int) (n i : Nat) : (rng lo n)[i]? = if i < n then some (Val.d (.int (lo + (i : Int)))) else none := by
  unfold rng
  rw [List.getElem?_map]
  by_cases h : i < n
  · rw [List.getElem?_range h, if_pos h]; rfl
  · rw [List.getElem?_eq_none (by simpa using h), if_neg h]; rfl
theorem itok_rng {lo : Int} {n : Nat} : ItOk K w (Itr lo n) ((rng lo n).map .v) := by
  intro w1 e o i
  rw [List.getElem?_map, rng_get]
  by_cases h : i < n
  · rw [if_pos h]
    refine ⟨fun it hi => ?_, fun hi => by cases hi⟩
    cases hi
    refine ⟨h, fun x H' ⟨e2, hx⟩ => ⟨w1, e2.symm, rfl, Ext.refl w1, o, ?_⟩⟩
    subst hx
    show RepD K w1 (.int _) _
    rw [RepD]
  · rw [if_neg h]
    exact ⟨fun it hi => (by cases hi), fun _ => Nat.le_of_not_lt h⟩
theorem itok_enum {a : Addr} {xs : List V} {ds : List D} (h : FzL w a xs) (r : RepDs K w ds xs) : ItOk K w (Ite K a) (ds.zipIdx.map fun p => .p [.d (.int p.2), .d p.1]) := by
  intro w1 e o i
  have h1 := h.mono0 e
  have r1 := RepDs.mono0 e _ _ r
  rw [List.getElem?_map, List.getElem?_zipIdx]
  refine ⟨fun it hi => ?_, fun hi => ?_⟩
  · obtain ⟨p, hp, rfl⟩ := Option.map_eq_some_iff.mp hi
    obtain ⟨d, hd, rfl⟩ := Option.map_eq_some_iff.mp hp
    obtain ⟨x, hx, rx⟩ := r1.get hd
    refine ⟨⟨xs, x, h1.sq, hx⟩, fun y H' ⟨T, x2, e2, hT, e3, hy⟩ => ?_⟩
    have e4 : x2 = x := Option.some.inj ((hy xs h1.sq).symm.trans hx)
    subst e4
    refine ⟨w1.new T _, e3.symm, rfl, ext_new o hT, ok_new o hT, T, _, e2, SqT.of upd_same, _, _, rfl, ?_, _, _, rfl, rx.mono (ext_new o hT), rfl⟩
    show RepD K (w1.new T (.tup [V.int (i : Int), x2])) (.int ((0 + i : Nat) : Int)) (V.int (i : Int))
    rw [RepD, Nat.zero_add]
  · refine ⟨xs, h1.sq, ?_⟩
    rw [r1.len]
    rw [Option.map_eq_none_iff, Option.map_eq_none_iff, List.getElem?_eq_none_iff] at hi
    exact hi
theorem itok_zip {a b : Addr} {xs ys : List V} {ds es : List D} (h : FzL w a xs) (r : RepDs K w ds xs) (h' : FzL w b ys) (r' : RepDs K w es ys) : ItOk K w (Itz K a b) ((ds.zip es).map fun p => .p [.d p.1, .d p.2]) := by
  intro w1 e o i
  have h1 := h.mono0 e
  have r1 := RepDs.mono0 e _ _ r
  have h1' := h'.mono0 e
  have r1' := RepDs.mono0 e _ _ r'
  rw [List.getElem?_map]
  refine ⟨fun it hi => ?_, fun hi => ?_⟩
  · obtain ⟨p, hp, rfl⟩ := Option.map_eq_some_iff.mp hi
    obtain ⟨hd, hd'⟩ := List.getElem?_zip_eq_some.mp hp
    obtain ⟨x, hx, rx⟩ := r1.get hd
    obtain ⟨y, hy, ry⟩ := r1'.get hd'
    refine ⟨⟨xs, ys, x, y, h1.sq, h1'.sq, hx, hy⟩, fun v H' ⟨T, x2, y2, e2, hT, e3, q1, q2⟩ => ?_⟩
    have e4 : x2 = x := Option.some.inj ((q1 xs h1.sq).symm.trans hx)
    have e5 : y2 = y := Option.some.inj ((q2 ys h1'.sq).symm.trans hy)
    subst e4
    subst e5
    exact ⟨w1.new T _, e3.symm, rfl, ext_new o hT, ok_new o hT, T, _, e2, SqT.of upd_same, _, _, rfl, rx.mono (ext_new o hT), _, _, rfl, ry.mono (ext_new o hT), rfl⟩
  · refine ⟨xs, ys, h1.sq, h1'.sq, ?_⟩
    rw [r1.len, r1'.len]
    rw [Option.map_eq_none_iff, List.getElem?_eq_none_iff, List.length_zip] at hi
    omega
theorem itok_zipT {a b : Addr} {xs ys : List V} {ds es : List D} (h : FzT K w a xs) (r : RepDs K w ds xs) (h' : FzT K w b ys) (r' : RepDs K w es ys) : ItOk K w (RZ.ItzT K a b) ((ds.zip es).map fun p => .p [.d p.1, .d p.2]) := by
  intro w1 e o i
  have h1 := h.mono0 e
  have r1 := RepDs.mono0 e _ _ r
  have h1' := h'.mono0 e
  have r1' := RepDs.mono0 e _ _ r'
  rw [List.getElem?_map]
  refine ⟨fun it hi => ?_, fun hi => ?_⟩
  · obtain ⟨p, hp, rfl⟩ := Option.map_eq_some_iff.mp hi
    obtain ⟨hd, hd'⟩ := List.getElem?_zip_eq_some.mp hp
    obtain ⟨x, hx, rx⟩ := r1.get hd
    obtain ⟨y, hy, ry⟩ := r1'.get hd'
    refine ⟨⟨xs, ys, x, y, h1.sq, h1'.sq, hx, hy⟩, fun v H' ⟨T, x2, y2, e2, hT, e3, q1, q2⟩ => ?_⟩
    have e4 : x2 = x := Option.some.inj ((q1 xs h1.sq).symm.trans hx)
    have e5 : y2 = y := Option.some.inj ((q2 ys h1'.sq).symm.trans hy)
    subst e4
    subst e5
    exact ⟨w1.new T _, e3.symm, rfl, ext_new o hT, ok_new o hT, T, _, e2, SqT.of upd_same, _, _, rfl, rx.mono (ext_new o hT), _, _, rfl, ry.mono (ext_new o hT), rfl⟩
  · refine ⟨xs, ys, h1.sq, h1'.sq, ?_⟩
    rw [r1.len, r1'.len]
    rw [Option.map_eq_none_iff, List.getElem?_eq_none_iff, List.length_zip] at hi
    omega
end
section
variable {X : Cx} {F : Oracle} {pos : Pos} {tg : Expr}
theorem pi_imp {e : Expr} {t t' : TI} (h : PI X tg e t) (q : ∀ σ H R, t' σ H R → t σ H R) : PI X tg e t' := ⟨fun pins s σ H R I z => h.run pins s σ H R I (q σ H R z)⟩
theorem pi_or {e : Expr} {t t' : TI} (h : PI X tg e t) (h' : PI X tg e t') : PI X tg e (fun σ H R => t σ H R ∨ t' σ H R) :=
  ⟨fun pins s σ H R I z => z.elim (h.run pins s σ H R I) (h'.run pins s σ H R I)⟩
theorem i_seq {e : Expr} {ie : Ex} (he : PE X e (tI X.K F ie)) : PI X tg e (iI X.K F (.seq ie)) := by
  refine pi_imp (pi_or (pi_list he) (pi_tup he)) fun σ H R ⟨env, w, e, o, r, h⟩ => ?_
  rw [It.ev] at h
  cases hx : ie.ev F env w.M with
  | stuck => rw [hx] at h; exact h.elim
  | ok v M1 =>
    rw [hx, bind_ok] at h
    split at h
    · rename_i ds
      refine .inl ⟨env, w, e, o, r, ?_⟩
      rw [hx]
      intro w' x hm ex ok rx
      rw [RepV, RepD] at rx
      obtain ⟨a, xs, rfl, h1, h2⟩ := rx
      exact ⟨a, rfl, ⟨xs, h1.sq⟩, h w' _ hm ex ok (itok_list h1 h2)⟩
    · rename_i ds
      refine .inr ⟨env, w, e, o, r, ?_⟩
      rw [hx]
      intro w' x hm ex ok rx
      rw [RepV, RepD] at rx
      obtain ⟨a, xs, rfl, h1, h2⟩ := rx
      exact ⟨a, rfl, ⟨xs, h1.sq⟩, h w' _ hm ex ok (itok_tup h1 h2)⟩
    · exact h.elim
theorem s_one_arg {e : Expr} {ie : Ex} (he : PE X e (tI X.K F ie)) (hs : starEach [e] X.env = (false, eval e X.env) :: starEach [] X.env) : PA X [e] (tIa X.K F (.cons ie .nil)) := s_cons he s_nil hs
theorem i_rng1 {a : Expr} {ia : Ex} {p : Pos} (hg : Gl X "range") (hm : X.mg "range" = none) (ha : PE X a (tI X.K F ia)) (hs : starEach [a] X.env = [(false, eval a X.env)]) : PI X tg (.Call (.Name "range" p) [a] [] pos) (iI X.K F (.rng1 ia)) := by
  refine pi_imp (pi_range1 hg hm (s_one_arg ha hs) hs) fun σ H R ⟨env, w, e, o, r, h⟩ => ⟨env, w, e, o, r, ?_⟩
  rw [It.ev] at h
  rw [Exs.ev]
  cases hx : ia.ev F env w.M with
  | stuck => rw [hx] at h; exact h.elim
  | ok v M1 =>
    rw [hx, bind_ok] at h
    rw [bind_ok, Exs.ev, bind_ok]
    split at h
    · rename_i j
      split at h
      · rename_i hj
        intro w' xs hm ex ok rx
        obtain ⟨y, ys, rfl, r1, r2⟩ := rx
        have r2 : ys = [] := r2
        subst r2
        rw [RepV, RepD] at r1
        subst r1
        unfold RNG at hj
        exact ⟨j, rfl, by omega, by omega, h w' _ hm ex ok itok_rng⟩
      · exact h.elim
    · exact h.elim
theorem i_rng2 {a b : Expr} {ia ib : Ex} {p : Pos} (hg : Gl X "range") (hm : X.mg "range" = none) (ha : PE X a (tI X.K F ia)) (hb : PE X b (tI X.K F ib)) (hs : starEach [a, b] X.env = [(false, eval a X.env), (false, eval b X.env)]) (hs2 : starEach [b] X.env = [(false, eval b X.env)]) :
    PI X tg (.Call (.Name "range" p) [a, b] [] pos) (iI X.K F (.rng2 ia ib)) := by
  refine pi_imp (pi_range2 hg hm (s_cons ha (s_one_arg hb hs2) (by rw [hs, hs2])) hs hs2) fun σ H R ⟨env, w, e, o, r, h⟩ => ⟨env, w, e, o, r, ?_⟩
  rw [It.ev] at h
  rw [Exs.ev]
  cases hx : ia.ev F env w.M with
  | stuck => rw [hx] at h; exact h.elim
  | ok v M1 =>
    rw [hx, bind_ok] at h
    rw [bind_ok, Exs.ev]
    cases hy : ib.ev F env M1 with
    | stuck => rw [hy] at h; exact h.elim
    | ok u M2 =>
      rw [hy, bind_ok] at h
      rw [bind_ok, Exs.ev, bind_ok, bind_ok]
      split at h
      · rename_i i j
        split at h
        · rename_i hj
          intro w' xs hm ex ok rx
          obtain ⟨y, ys, rfl, r1, y2, ys2, rfl, r2, r3⟩ := rx
          have r3 : ys2 = [] := r3
          subst r3
          rw [RepV, RepD] at r1
          subst r1
          rw [RepV, RepD] at r2
          subst r2
          unfold RNG at hj
          exact ⟨i, j, rfl, by omega, h w' _ hm ex ok itok_rng⟩
        · exact h.elim
      · exact h.elim
theorem i_enm {a : Expr} {ia : Ex} {p tpos : Pos} {elts : List Expr} {kk : Nat} (hg : Gl X "enumerate") (hm : X.mg "enumerate" = none) (ha : PE X a (tI X.K F ia)) (hs : starEach [a] X.env = [(false, eval a X.env)]) :
    PI X (.Tuple elts kk tpos) (.Call (.Name "enumerate" p) [a] [] pos) (iI X.K F (.enm ia)) := by
  refine pi_imp (pi_enum hg hm (s_one_arg ha hs) hs) fun σ H R ⟨env, w, e, o, r, h⟩ => ⟨env, w, e, o, r, ?_⟩
  rw [It.ev] at h
  rw [Exs.ev]
  cases hx : ia.ev F env w.M with
  | stuck => rw [hx] at h; exact h.elim
  | ok v M1 =>
    rw [hx, bind_ok] at h
    rw [bind_ok, Exs.ev, bind_ok]
    split at h
    · rename_i ds
      split at h
      · intro w' xs hm ex ok rx
        obtain ⟨y, ys, rfl, r1, r2⟩ := rx
        have r2 : ys = [] := r2
        subst r2
        rw [RepV, RepD] at r1
        obtain ⟨a, xs, rfl, h1, h2⟩ := r1
        exact ⟨a, xs, rfl, h1.sq, h w' _ hm ex ok (itok_enum h1 h2)⟩
      · exact h.elim
    · exact h.elim
theorem i_zip {a b : Expr} {ia ib : Ex} {p tpos : Pos} {elts : List Expr} {kk : Nat} (hg : Gl X "zip") (hm : X.mg "zip" = none) (ha : PE X a (tI X.K F ia)) (hb : PE X b (tI X.K F ib)) (hs : starEach [a, b] X.env = [(false, eval a X.env), (false, eval b X.env)]) (hs2 : starEach [b] X.env = [(false, eval b X.env)]) :
    PI X (.Tuple elts kk tpos) (.Call (.Name "zip" p) [a, b] [] pos) (iI X.K F (.zip ia ib)) := by
  refine pi_imp (RZ.pi_zipA hg hm (s_cons ha (s_one_arg hb hs2) (by rw [hs, hs2])) (by rw [hs, hs2]) (by rw [hs2]; rfl)) fun σ H R ⟨env, w, e, o, r, h⟩ => ⟨env, w, e, o, r, ?_⟩
  rw [It.ev] at h
  rw [Exs.ev]
  cases hx : ia.ev F env w.M with
  | stuck => rw [hx] at h; exact h.elim
  | ok v M1 =>
    rw [hx, bind_ok] at h
    rw [bind_ok, Exs.ev]
    cases hy : ib.ev F env M1 with
    | stuck => rw [hy] at h; exact h.elim
    | ok u M2 =>
      rw [hy, bind_ok] at h
      rw [bind_ok, Exs.ev, bind_ok, bind_ok]
      split at h
      · rename_i ds es
        intro w' xs hm ex ok rx
        obtain ⟨y, ys, rfl, r1, y2, ys2, rfl, r2, r3⟩ := rx
        have r3 : ys2 = [] := r3
        subst r3
        rw [RepV, RepD] at r1 r2
        obtain ⟨a, xs, rfl, h1, h2⟩ := r1
        obtain ⟨b, zs, rfl, h1', h2'⟩ := r2
        exact ⟨a, b, xs, zs, rfl, .inl ⟨h1.sq, h1'.sq, h w' _ hm ex ok (itok_zip h1 h2 h1' h2')⟩⟩
      · rename_i ds es
        intro w' xs hm ex ok rx
        obtain ⟨y, ys, rfl, r1, y2, ys2, rfl, r2, r3⟩ := rx
        have r3 : ys2 = [] := r3
        subst r3
        rw [RepV, RepD] at r1 r2
        obtain ⟨a, xs, rfl, h1, h2⟩ := r1
        obtain ⟨b, zs, rfl, h1', h2'⟩ := r2
        exact ⟨a, b, xs, zs, rfl, .inr ⟨h1.sq, h1'.sq, h w' _ hm ex ok (itok_zipT h1 h2 h1' h2')⟩⟩
      · exact h.elim
end
end VI
set_option maxHeartbeats 1000000
namespace VI
open PySem PySem.Spec PyProof.Rows L2

/-! a list that grows while a block runs: hidden from data -/
def und (w : Wd) : Wd := { w with Z := w.Z.tail }
def hid (w : Wd) (a : Addr) (xs : List V) : Wd := { w with H := upd w.H a (.lst xs), Z := a :: w.Z }
def put (w : Wd) (a : Addr) (xs : List V) : Wd := { w with H := upd w.H a (.lst xs) }
structure Hd (w1 : Wd) (a : Addr) (w : Wd) : Prop where
  z : w.Z = a :: w1.Z
  e : Ext w1 (und w)
section
variable {K : PySem.W.Frag} {w1 w w2 : Wd} {a : Addr}
theorem lv_und (z : w.Z = a :: w1.Z) {b : Addr} (h : ¬ Lv w b) : ¬ Lv (und w) b := fun l => h (l.elim .inl fun l => .inr (by
  have l : b ∈ w.Z.tail := l
  rw [z] at l ⊢
  exact List.mem_cons_of_mem _ l))
theorem lv_of_und (z : w.Z = a :: w1.Z) {b : Addr} (n : b ≠ a) (h : ¬ Lv (und w) b) : ¬ Lv w b := fun l => h (l.elim .inl fun l => .inr (by
  show b ∈ w.Z.tail
  rw [z] at l ⊢
  rcases List.mem_cons.mp l with e | l
  · exact absurd e n
  · exact l))
theorem Hd.ext0 (h : Hd w1 a w) (ha : w1.H a = none) : Ext0 w1 w :=
  ⟨fun b o e n => let ⟨h1, h2⟩ := h.e.fz b o e n; ⟨h1, lv_of_und h.z (ne_of_none e ha) h2⟩, h.e.kp⟩
theorem Hd.start (o : Ok K w1) (ha : w1.H a = none) (xs : List V) : Hd w1 a (hid w1 a xs) := ⟨rfl, ext_new o ha⟩
theorem ok_hid (o : Ok K w1) (ha : w1.H a = none) (xs : List V) : Ok K (hid w1 a xs) := by
  have o1 := ok_new o (u := .lst xs) ha
  have e0 : Ext0 (w1.new a (.lst xs)) (hid w1 a xs) → True := fun _ => trivial
  have hx : Hd w1 a (hid w1 a xs) := Hd.start o ha xs
  have nq : ¬ Lq (hid w1 a xs) a := fun l => o.notLive ha (.inl l)
  refine ⟨o.len, fun i b ob h1 h2 => ?_, o.inj, fun b hb => ?_⟩
  · refine RepO.mono0 (hx.ext0 ha) (fun u q => ?_) (o.ob i b ob h1 h2)
    show upd w1.H a _ b = _
    rw [upd_ne (ne_of_none q ha)]
    exact q
  · rcases List.mem_cons.mp hb with rfl | hb
    · exact ⟨⟨_, upd_same⟩, nq⟩
    · exact o1.zz b hb
theorem Hd.step (h : Hd w1 a w) (ha : w1.H a = none) (e : Ext w w2) : Hd w1 a w2 := by
  refine ⟨e.zs.trans h.z, ⟨fun b o eb n => ?_, fun i b eb => e.kp i b (h.e.kp i b eb), ?_, fun b hb => ?_⟩⟩
  · obtain ⟨h1, h2⟩ := (h.ext0 ha).fz b o eb n
    obtain ⟨h3, h4⟩ := e.fz b o h1 h2
    exact ⟨h3, lv_und (w1 := w1) (e.zs.trans h.z) h4⟩
  · show w2.Z.tail = _
    rw [e.zs]
    exact h.e.zs
  · have hb2 : b ∈ w.Z := by rw [h.z]; exact List.mem_cons_of_mem _ hb
    exact (e.zh b hb2).trans (h.e.zh b hb)
theorem Hd.keep (h : Hd w1 a w) (e : Ext w w2) : w2.H a = w.H a := e.zh a (by rw [h.z]; exact List.mem_cons_self)
theorem Hd.put (h : Hd w1 a w) (o1 : Ok K w1) (ha : w1.H a = none) (xs : List V) : Hd w1 a (put w a xs) := by
  refine ⟨h.z, ⟨fun b o eb n => ?_, h.e.kp, h.e.zs, fun b hb => ?_⟩⟩
  · obtain ⟨h1, h2⟩ := h.e.fz b o eb n
    refine ⟨?_, h2⟩
    show upd w.H a _ b = _
    rw [upd_ne (ne_of_none eb ha)]
    exact h1
  · show upd w.H a _ b = _
    obtain ⟨⟨v, z⟩, _⟩ := o1.zz b hb
    rw [upd_ne (ne_of_none z ha)]
    exact h.e.zh b hb
theorem ext0_put (hz : a ∈ w.Z) (xs : List V) : Ext0 w (put w a xs) := by
  refine ⟨fun b o e n => ⟨?_, n⟩, fun _ _ e => e⟩
  show upd w.H a _ b = _
  rw [upd_ne (fun z => n (.inr (by rw [z]; exact hz)))]
  exact e
theorem ok_put (o : Ok K w) (hz : a ∈ w.Z) (xs : List V) : Ok K (put w a xs) := by
  refine ⟨o.len, fun i b ob h1 h2 => ?_, o.inj, fun b hb => ⟨?_, (o.zz b hb).2⟩⟩
  · have go : ob ≠ .gone → RepO K (VI.put w a xs) b ob := fun n => by
      refine RepO.mono0 (ext0_put hz xs) (fun u q => ?_) (o.ob i b ob h1 h2)
      show upd w.H a _ b = _
      rw [upd_ne (fun z => (o.zz a hz).2 ⟨i, ob, by rw [← z]; exact h1, h2, n⟩)]
      exact q
    cases ob with
    | gone => trivial
    | lst es => exact go (by intro z; cases z)
  · show ∃ u, upd w.H a _ b = some u
    by_cases e : b = a
    · rw [e]; exact ⟨_, upd_same⟩
    · rw [upd_ne e]; exact (o.zz b hb).1
theorem ext0_und (z : w.Z = a :: w1.Z) : Ext0 w (und w) := ⟨fun b o e n => ⟨e, lv_und z n⟩, fun _ _ e => e⟩
theorem ok_und (o : Ok K w) (z : w.Z = a :: w1.Z) : Ok K (und w) := by
  refine ⟨o.len, fun i b ob h1 h2 => RepO.mono0 (ext0_und z) (fun u q => q) (o.ob i b ob h1 h2), o.inj, fun b hb => ?_⟩
  have hb : b ∈ w.Z.tail := hb
  have : b ∈ w.Z := by rw [z] at hb ⊢; exact List.mem_cons_of_mem _ hb
  exact o.zz b this
def era (w : Wd) (a : Addr) : Wd := { w with H := fun b => if b = a then none else w.H b, Z := w.Z.tail }
theorem ext0_era (z : w.Z = a :: w1.Z) : Ext0 w (era w a) := by
  refine ⟨fun b o e n => ⟨?_, lv_und z n⟩, fun _ _ e => e⟩
  show (if b = a then none else w.H b) = _
  rw [if_neg (fun q => n (.inr (by rw [q, z]; exact List.mem_cons_self)))]
  exact e
theorem Hd.era (h : Hd w1 a w) (o1 : Ok K w1) (ha : w1.H a = none) : Ext w1 (era w a) := by
  refine ⟨fun b o e n => ?_, h.e.kp, h.e.zs, fun b hb => ?_⟩
  · obtain ⟨h1, h2⟩ := h.e.fz b o e n
    refine ⟨?_, h2⟩
    show (if b = a then none else w.H b) = _
    rw [if_neg (ne_of_none e ha)]
    exact h1
  · obtain ⟨⟨v, z⟩, _⟩ := o1.zz b hb
    show (if b = a then none else w.H b) = _
    rw [if_neg (ne_of_none z ha)]
    exact h.e.zh b hb
theorem ok_era (o : Ok K w) (z : w.Z = a :: w1.Z) (hn : a ∉ w1.Z) : Ok K (VI.era w a) := by
  have hz : a ∈ w.Z := by rw [z]; exact List.mem_cons_self
  refine ⟨o.len, fun i b ob h1 h2 => ?_, o.inj, fun b hb => ?_⟩
  · have go : ob ≠ .gone → RepO K (VI.era w a) b ob := fun n => by
      refine RepO.mono0 (ext0_era z) (fun u q => ?_) (o.ob i b ob h1 h2)
      show (if b = a then none else w.H b) = _
      rw [if_neg (fun z => (o.zz a hz).2 ⟨i, ob, by rw [← z]; exact h1, h2, n⟩)]
      exact q
    cases ob with
    | gone => trivial
    | lst es => exact go (by intro z; cases z)
  · have hb : b ∈ w.Z.tail := hb
    have hb1 : b ∈ w1.Z := by rw [z] at hb; exact hb
    have hb2 : b ∈ w.Z := by rw [z]; exact List.mem_cons_of_mem _ hb1
    refine ⟨?_, (o.zz b hb2).2⟩
    show ∃ u, (if b = a then none else w.H b) = some u
    rw [if_neg (fun q => hn (by rw [← q]; exact hb1))]
    exact (o.zz b hb2).1
end
theorem wipe_idem (σ : L2.St) (is : List Nat) : L2.wipe (L2.wipe σ is) is = L2.wipe σ is := by
  have gen : ∀ (js : List Nat) (σ : L2.St), (∀ j ∈ js, j ∈ is) → L2.wipe (L2.wipe σ js) is = L2.wipe σ is := by
    intro js
    induction js with
    | nil => intro σ _; rfl
    | cons j js ih =>
      intro σ h
      show L2.wipe ((L2.wipe σ js).set j none) is = _
      rw [wipe_comm _ j none is (h j List.mem_cons_self)]
      exact ih σ fun k hk => h k (List.mem_cons_of_mem _ hk)
  exact gen is σ fun _ h => h

section
variable {X : Cx} {F : Oracle} {pos : Pos}
theorem pts_imp {e : List Expr} {t t' : TT} (h : PTs X e t) (q : ∀ σ H Q, t' σ H Q → t σ H Q) : PTs X e t' := ⟨fun pins s σ H Q I z => h.run pins s σ H Q I (q σ H Q z)⟩
theorem t_nil : PTs X [] (tIt X.K F .nil) := pts_imp pts_nil fun σ H Q ⟨env, w, e, o, r, h⟩ => by
  subst e
  exact h w true rfl (Ext.refl w) o rfl
theorem t_one {c : Expr} {ic : Ex} (h : PT X c (tIb X.K F ic)) : PTs X [c] (tIt X.K F (.cons ic .nil)) := pts_imp (pts_one h) fun σ H Q ⟨env, w, e, o, r, h⟩ => by
  rw [Exs.tst] at h
  refine ⟨env, w, e, o, r, (PostG.bind (rep := fun _ a b => a = b) h).imp fun b H1 ⟨w1, b', e1, x1, o1, eb, p1⟩ => ?_⟩
  subst eb
  subst e1
  cases b' with
  | true => exact p1 w1 true rfl (Ext.refl w1) o1 rfl
  | false => exact p1 w1 false rfl (Ext.refl w1) o1 rfl

theorem comp_in {it : It} {tg : Tg} {own : List Nat} {cs : Exs} {e : Ex} {σ : L2.St} {H : Hp} {Q : VK} (hown : ∀ s ∈ tg.slots, s ∈ own) (h : tI X.K F (.comp it tg own cs e) σ H Q) :
    tLc (iI X.K F it) (gI X.K tg) (tIt X.K F cs) (tI X.K F e) own σ H Q := by
  obtain ⟨env, w, eH, o, r, h⟩ := h
  rw [Ex.ev] at h
  refine ⟨env, w, eH, o, r, ?_⟩
  cases hi : it.ev F env w.M with
  | stuck => rw [hi] at h; exact h.elim
  | ok items M1 =>
    rw [hi, bind_ok] at h
    intro w1 J hm x1 o1 jk D hD
    subst hm
    have h1 := PostG.mono x1 h
    refine ⟨fun i m H' => ∃ (wx : Wd) (acc : List VI.D) (xs : List V), wx.H = H' ∧ Ok X.K wx ∧ Hd w1 D wx ∧ wx.H D = some (.lst xs) ∧ RepDs X.K wx acc xs ∧ m = items.length - i ∧ i ≤ items.length ∧
      PostG X.K (RepV X.K) w1 (lcGo tg own env (fun env M => cs.tst F env M) (fun env M => e.ev F env M) (items.drop i) acc wx.M) Q,
      ⟨items.length, hid w1 D [], [], [], rfl, ok_hid o1 hD [], Hd.start o1 hD [], upd_same, by rw [RepDs], rfl, Nat.zero_le _, h1⟩, ?_⟩
    rintro i m H' ⟨wx, acc, xs, rfl, ox, hd, hx, rx, rfl, hi2, hp⟩
    by_cases hlt : i < items.length
    · obtain ⟨itm, hit⟩ : ∃ itm, items[i]? = some itm := ⟨items[i], List.getElem?_eq_getElem hlt⟩
      have hdrop : items.drop i = itm :: items.drop (i + 1) := by
        rw [List.drop_eq_getElem_cons hlt]
        rw [List.getElem?_eq_getElem hlt] at hit
        rw [Option.some.inj hit]
      rw [hdrop, lcGo] at hp
      obtain ⟨hgo, hyld⟩ := (jk wx (hd.ext0 hD) ox i).1 itm hit
      refine .inr ⟨hgo, fun H' => ∃ (wx : Wd) (acc : List VI.D) (xs : List V), wx.H = H' ∧ Ok X.K wx ∧ Hd w1 D wx ∧ wx.H D = some (.lst xs) ∧ RepDs X.K wx acc xs ∧
        PostG X.K (RepV X.K) w1 (lcGo tg own env (fun env M => cs.tst F env M) (fun env M => e.ev F env M) (items.drop (i + 1)) acc wx.M) Q, fun H' ⟨wx, acc, xs, q1, q2, q3, q4, q5, q6⟩ =>
          ⟨items.length - (i + 1), by omega, wx, acc, xs, q1, q2, q3, q4, q5, rfl, hlt, q6⟩, fun x H' hy => ?_⟩
      obtain ⟨w2, e2, m2, x2, o2, ri⟩ := hyld x H' hy
      subst e2
      have hd2 := hd.step hD x2
      split at hp
      · exact hp.elim
      · rename_i env1 hput
        rw [← m2] at hput hp
        refine ⟨wipeE env own, w2, itm, env1, rfl, o2, EnvRep.wipe ((((r.mono x1).mono0 (hd.ext0 hD)).mono x2)) own, ri, hput, fun σ2 r2 keep => ⟨(keep own hown).trans (wipe_idem σ own), env1, w2, rfl, o2, r2, ?_⟩⟩
        cases ht : cs.tst F env1 w2.M with
        | stuck => rw [ht] at hp; exact hp.elim
        | ok b M3 =>
          rw [ht, bind_ok] at hp
          intro w3 b' hm3 x3 o3 eb
          subst eb
          subst hm3
          have hd3 := hd2.step hD x3
          cases b with
          | false =>
            refine ⟨w3, acc, xs, rfl, o3, hd3, ?_, (rx.mono x2).mono x3, hp⟩
            rw [hd2.keep x3, hd.keep x2]
            exact hx
          | true =>
            rw [if_pos rfl] at hp
            rw [if_pos rfl]
            refine ⟨env1, w3, rfl, o3, r2.mono x3, ?_⟩
            cases hel : e.ev F env1 w3.M with
            | stuck => rw [hel] at hp; exact hp.elim
            | ok v M4 =>
              rw [hel, bind_ok] at hp
              intro w4 x4 hm4 x34 o4 rv
              subst hm4
              have hd4 := hd3.step hD x34
              split at hp
              · rename_i y
                split at hp
                · rename_i hlen
                  have hx4 : w4.H D = some (.lst xs) := by
                    rw [hd3.keep x34, hd2.keep x3, hd.keep x2]
                    exact hx
                  have hz4 : D ∈ w4.Z := by rw [hd4.z]; exact List.mem_cons_self
                  have rx4 := ((rx.mono x2).mono x3).mono x34
                  refine ⟨xs, hx4, by rw [rx.len]; exact lim_lt hlen, put w4 D (xs ++ [x4]), acc ++ [y], xs ++ [x4], rfl, ok_put o4 hz4 _, hd4.put o1 hD _, upd_same, ?_, hp⟩
                  exact RepDs.mono0 (ext0_put hz4 _) _ _ (rx4.app (RepDs.one rv))
                · exact hp.elim
              · exact hp.elim
    · have e1 : i = items.length := by omega
      subst e1
      refine .inl ⟨(jk wx (hd.ext0 hD) ox _).2 (List.getElem?_eq_none (Nat.le_refl _)), ?_⟩
      rw [List.drop_length, lcGo] at hp
      refine hp (und wx) (.ref D) rfl hd.e (ok_und ox hd.z) ?_
      rw [RepV, RepD]
      refine ⟨D, xs, rfl, ⟨hx, fun l => ?_⟩, RepDs.mono0 (ext0_und hd.z) _ _ rx⟩
      rcases l with l | l
      · exact (ox.zz D (by rw [hd.z]; exact List.mem_cons_self)).2 l
      · have l : D ∈ w1.Z := by
          have : D ∈ wx.Z.tail := l
          rw [hd.z] at this
          exact this
        obtain ⟨⟨u, z⟩, _⟩ := o1.zz D l
        rw [hD] at z
        cases z
theorem comp_inN {it : It} {tg : Tg} {own : List Nat} {cs : Exs} {e : Ex} {σ : L2.St} {H : Hp} {Q : VK} (hown : ∀ s ∈ tg.slots, s ∈ own) (h : tN X.K F (.comp it tg own cs e) σ H Q) :
    tLc (iI X.K F it) (gI X.K tg) (tIt X.K F cs) (tI X.K F e) own σ H Q := by
  obtain ⟨env, w, ds, M', eH, o, r, h, q⟩ := h
  rw [Ex.ev] at h
  refine ⟨env, w, eH, o, r, ?_⟩
  cases hi : it.ev F env w.M with
  | stuck => rw [hi] at h; cases h
  | ok items M1 =>
    rw [hi, bind_ok] at h
    intro w1 J hm x1 o1 jk D hD
    subst hm
    have h1 := h
    refine ⟨fun i m H' => ∃ (wx : Wd) (acc : List VI.D) (xs : List V), wx.H = H' ∧ Ok X.K wx ∧ Hd w1 D wx ∧ wx.H D = some (.lst xs) ∧ RepDs X.K wx acc xs ∧ m = items.length - i ∧ i ≤ items.length ∧
      lcGo tg own env (fun env M => cs.tst F env M) (fun env M => e.ev F env M) (items.drop i) acc wx.M = .ok (.d (.lst ds)) M',
      ⟨items.length, hid w1 D [], [], [], rfl, ok_hid o1 hD [], Hd.start o1 hD [], upd_same, by rw [RepDs], rfl, Nat.zero_le _, h1⟩, ?_⟩
    rintro i m H' ⟨wx, acc, xs, rfl, ox, hd, hx, rx, rfl, hi2, hp⟩
    by_cases hlt : i < items.length
    · obtain ⟨itm, hit⟩ : ∃ itm, items[i]? = some itm := ⟨items[i], List.getElem?_eq_getElem hlt⟩
      have hdrop : items.drop i = itm :: items.drop (i + 1) := by
        rw [List.drop_eq_getElem_cons hlt]
        rw [List.getElem?_eq_getElem hlt] at hit
        rw [Option.some.inj hit]
      rw [hdrop, lcGo] at hp
      obtain ⟨hgo, hyld⟩ := (jk wx (hd.ext0 hD) ox i).1 itm hit
      refine .inr ⟨hgo, fun H' => ∃ (wx : Wd) (acc : List VI.D) (xs : List V), wx.H = H' ∧ Ok X.K wx ∧ Hd w1 D wx ∧ wx.H D = some (.lst xs) ∧ RepDs X.K wx acc xs ∧
        lcGo tg own env (fun env M => cs.tst F env M) (fun env M => e.ev F env M) (items.drop (i + 1)) acc wx.M = .ok (.d (.lst ds)) M', fun H' ⟨wx, acc, xs, q1, q2, q3, q4, q5, q6⟩ =>
          ⟨items.length - (i + 1), by omega, wx, acc, xs, q1, q2, q3, q4, q5, rfl, hlt, q6⟩, fun x H' hy => ?_⟩
      obtain ⟨w2, e2, m2, x2, o2, ri⟩ := hyld x H' hy
      subst e2
      have hd2 := hd.step hD x2
      split at hp
      · cases hp
      · rename_i env1 hput
        rw [← m2] at hput hp
        refine ⟨wipeE env own, w2, itm, env1, rfl, o2, EnvRep.wipe ((((r.mono x1).mono0 (hd.ext0 hD)).mono x2)) own, ri, hput, fun σ2 r2 keep => ⟨(keep own hown).trans (wipe_idem σ own), env1, w2, rfl, o2, r2, ?_⟩⟩
        cases ht : cs.tst F env1 w2.M with
        | stuck => rw [ht] at hp; cases hp
        | ok b M3 =>
          rw [ht, bind_ok] at hp
          intro w3 b' hm3 x3 o3 eb
          subst eb
          subst hm3
          have hd3 := hd2.step hD x3
          cases b with
          | false =>
            refine ⟨w3, acc, xs, rfl, o3, hd3, ?_, (rx.mono x2).mono x3, hp⟩
            rw [hd2.keep x3, hd.keep x2]
            exact hx
          | true =>
            rw [if_pos rfl] at hp
            rw [if_pos rfl]
            refine ⟨env1, w3, rfl, o3, r2.mono x3, ?_⟩
            cases hel : e.ev F env1 w3.M with
            | stuck => rw [hel] at hp; cases hp
            | ok v M4 =>
              rw [hel, bind_ok] at hp
              intro w4 x4 hm4 x34 o4 rv
              subst hm4
              have hd4 := hd3.step hD x34
              split at hp
              · rename_i y
                split at hp
                · rename_i hlen
                  have hx4 : w4.H D = some (.lst xs) := by
                    rw [hd3.keep x34, hd2.keep x3, hd.keep x2]
                    exact hx
                  have hz4 : D ∈ w4.Z := by rw [hd4.z]; exact List.mem_cons_self
                  have rx4 := ((rx.mono x2).mono x3).mono x34
                  refine ⟨xs, hx4, by rw [rx.len]; exact lim_lt hlen, put w4 D (xs ++ [x4]), acc ++ [y], xs ++ [x4], rfl, ok_put o4 hz4 _, hd4.put o1 hD _, upd_same, ?_, hp⟩
                  exact RepDs.mono0 (ext0_put hz4 _) _ _ (rx4.app (RepDs.one rv))
                · cases hp
              · cases hp
    · have e1 : i = items.length := by omega
      subst e1
      refine .inl ⟨(jk wx (hd.ext0 hD) ox _).2 (List.getElem?_eq_none (Nat.le_refl _)), ?_⟩
      rw [List.drop_length, lcGo] at hp
      cases hp
      have nz : D ∉ w1.Z := fun l => by
        obtain ⟨⟨u, z⟩, _⟩ := o1.zz D l
        rw [hD] at z
        cases z
      have z := q (VI.era wx D) D xs rfl (x1.trans (hd.era o1 hD)) (ok_era ox hd.z nz) (if_pos rfl) (RepDs.mono0 (ext0_era hd.z) _ _ rx)
      have hH : upd (VI.era wx D).H D (.lst xs) = wx.H := by
        funext b
        by_cases q : b = D
        · subst q
          rw [upd_same, hx]
        · rw [upd_ne q]
          exact if_neg q
      rw [hH] at z
      exact z
theorem s_comp {elt tgE iter : Expr} {ifs : List Expr} {scope : Scope} {own : List (Str × Nat)} {it : It} {tg : Tg} {cs : Exs} {e : Ex} (hc : X.calm = true) (hN : X.N.Nodup) (hi : PI X tgE iter (iI X.K F it)) (ok : BlkOk X.N X.env.scope scope own)
    (hg : ∀ (s : Shared) (H : Hp) (C : Addr) (cl : List (Str × Addr)) (fp : List Addr), PG (X.blk s H scope (compEnvC scope cl C X.env) fp) tgE (gI X.K tg)) (ht : ∀ (s : Shared) (H : Hp) (C : Addr) (cl : List (Str × Addr)) (fp : List Addr), PTs (X.blk s H scope (compEnvC scope cl C X.env) fp) ifs (tIt X.K F cs))
    (he : ∀ (s : Shared) (H : Hp) (C : Addr) (cl : List (Str × Addr)) (fp : List Addr), PE (X.blk s H scope (compEnvC scope cl C X.env) fp) elt (tI X.K F e)) (hs : ∀ x, foldedSetIterable iter X.env x = pure x)
    (hown : ∀ s ∈ tg.slots, s ∈ own.map (·.2)) : PE X (.ListComp elt [⟨tgE, iter, ifs, 0⟩] scope pos) (tI X.K F (.comp it tg (own.map (·.2)) cs e)) :=
  pe_imp (pe_lc hc hN hi ok hg ht he hs) fun _ _ _ h => comp_in hown h
theorem n_comp {elt tgE iter : Expr} {ifs : List Expr} {scope : Scope} {own : List (Str × Nat)} {it : It} {tg : Tg} {cs : Exs} {e : Ex} (hc : X.calm = true) (hN : X.N.Nodup) (hi : PI X tgE iter (iI X.K F it)) (ok : BlkOk X.N X.env.scope scope own)
    (hg : ∀ (s : Shared) (H : Hp) (C : Addr) (cl : List (Str × Addr)) (fp : List Addr), PG (X.blk s H scope (compEnvC scope cl C X.env) fp) tgE (gI X.K tg)) (ht : ∀ (s : Shared) (H : Hp) (C : Addr) (cl : List (Str × Addr)) (fp : List Addr), PTs (X.blk s H scope (compEnvC scope cl C X.env) fp) ifs (tIt X.K F cs))
    (he : ∀ (s : Shared) (H : Hp) (C : Addr) (cl : List (Str × Addr)) (fp : List Addr), PE (X.blk s H scope (compEnvC scope cl C X.env) fp) elt (tI X.K F e)) (hs : ∀ x, foldedSetIterable iter X.env x = pure x)
    (hown : ∀ s ∈ tg.slots, s ∈ own.map (·.2)) : PE X (.ListComp elt [⟨tgE, iter, ifs, 0⟩] scope pos) (tN X.K F (.comp it tg (own.map (·.2)) cs e)) :=
  pe_imp (pe_lc hc hN hi ok hg ht he hs) fun _ _ _ h => comp_inN hown h
end
end VI
set_option maxHeartbeats 1000000
namespace VI
open PySem PySem.Spec PyProof.Rows L2

/-! an object of the store is data from now on -/
def Wd.gone (w : Wd) (i : Nat) : Wd := { w with M := w.M.set i .gone }
section
variable {K : PySem.W.Frag} {w : Wd}
theorem lq_gone {i : Nat} {b : Addr} (h : Lq (w.gone i) b) : Lq w b := by
  obtain ⟨j, ob, h1, h2, h3⟩ := h
  have h2 : (w.M.set i Ob.gone)[j]? = some ob := h2
  rcases get_setI h2 with ⟨_, rfl, _⟩ | ⟨_, q⟩
  · exact absurd rfl h3
  · exact ⟨j, ob, h1, q, h3⟩
theorem lv_gone {i : Nat} {b : Addr} (h : Lv (w.gone i) b) : Lv w b := h.elim (fun h => .inl (lq_gone h)) .inr
theorem ext_gone (i : Nat) : Ext w (w.gone i) := ⟨fun _ _ e n => ⟨e, fun l => n (lv_gone l)⟩, fun _ _ e => e, rfl, fun _ _ => rfl⟩
theorem ok_gone (o : Ok K w) (i : Nat) : Ok K (w.gone i) := by
  refine ⟨by show w.R.length = (w.M.set i _).length; rw [List.length_set]; exact o.len, fun j b ob h1 h2 => ?_, fun j k b ob ob' h1 h2 h3 h4 n1 n2 => ?_, fun b hb => ⟨(o.zz b hb).1, fun l => (o.zz b hb).2 (lq_gone l)⟩⟩
  · have h2 : (w.M.set i Ob.gone)[j]? = some ob := h2
    rcases get_setI h2 with ⟨_, rfl, _⟩ | ⟨_, q⟩
    · trivial
    · exact RepO.mono (ext_gone i) (fun u q => q) (o.ob j b ob h1 q)
  · have h3 : (w.M.set i Ob.gone)[j]? = some ob := h3
    have h4 : (w.M.set i Ob.gone)[k]? = some ob' := h4
    rcases get_setI h3 with ⟨_, rfl, _⟩ | ⟨_, q3⟩
    · exact absurd rfl n1
    · rcases get_setI h4 with ⟨_, rfl, _⟩ | ⟨_, q4⟩
      · exact absurd rfl n2
      · exact o.inj j k b ob ob' h1 h2 q3 q4 n1 n2
theorem rep_gone (o : Ok K w) {i : Nat} {a : Addr} {ds : List D} (h1 : w.R[i]? = some a) (h2 : w.M[i]? = some (.lst ds)) : RepD K (w.gone i) (.lst ds) (.ref a) := by
  obtain ⟨xs, h3, h4⟩ := o.ob i a _ h1 h2
  rw [RepD]
  refine ⟨a, xs, rfl, ⟨h3, ?_⟩, h4.mono (ext_gone i)⟩
  have live : Lq w a := ⟨i, _, h1, h2, by intro z; cases z⟩
  rintro (⟨j, ob, q1, q2, q3⟩ | l)
  · have q2 : (w.M.set i Ob.gone)[j]? = some ob := q2
    rcases get_setI q2 with ⟨_, rfl, _⟩ | ⟨nj, q⟩
    · exact q3 rfl
    · exact nj (o.inj j i a _ _ q1 h1 q h2 q3 (by intro z; cases z))
  · exact (o.zz a l).2 live
end

section
variable {X : Cx} {F : Oracle} {pos : Pos}
theorem s_frz {e : Expr} {ie : Ex} (h : PE X e (tI X.K F ie)) : PE X e (tI X.K F (.frz ie)) := pe_imp h fun σ H Q ⟨env, w, eH, o, r, h⟩ => by
  refine ⟨env, w, eH, o, r, ?_⟩
  rw [Ex.ev] at h
  refine (PostG.bind (rep := RepV X.K) h).imp fun x H1 ⟨w1, v, e1, x1, o1, r1, p1⟩ => ?_
  subst e1
  split at p1
  · exact p1 w1 _ rfl (Ext.refl w1) o1 r1
  · rename_i i
    split at p1
    · rename_i ds hd
      obtain ⟨a, rfl, ha⟩ := r1
      exact p1 (w1.gone i) _ rfl (ext_gone i) (ok_gone o1 i) (rep_gone o1 ha hd)
    · exact p1.elim
  · exact p1.elim

theorem setAt_some {o i v : Val} {M M4 : Mem} (h : setAt o i v M = some M4) : ∃ r k y xs j, o = .ref r ∧ i = .d (.int k) ∧ v = .d y ∧ M[r]? = some (.lst xs) ∧ ixN xs.length k = some j ∧ M.set r (.lst (xs.set j y)) = M4 := by
  unfold setAt at h
  split at h
  · split at h
    · rename_i hxs
      obtain ⟨j, hj, hM⟩ := Option.map_eq_some_iff.mp h
      exact ⟨_, _, _, _, j, rfl, rfl, rfl, hxs, hj, hM⟩
    · cases h
  · cases h
/-! statements -/
def PostS (K : PySem.W.Frag) (w : Wd) (r : Res (Fl × Env)) (D : Ends) : Prop :=
  match r with
  | .stuck => False
  | .ok p M' => ∀ w' σ', w'.M = M' → Ext w w' → Ok K w' → EnvRep K w' p.2 σ' → match p.1 with
    | .nx => D.nx σ' w'.H
    | .rt v => ∀ x, RepV K w' v x → D.rt x w'.H
    | .bk => D.bk σ' w'.H
    | .ct => D.ct σ' w'.H
theorem PostS.mono {K : PySem.W.Frag} {w w1 : Wd} {r : Res (Fl × Env)} {D : Ends} (e : Ext w w1) (h : PostS K w r D) : PostS K w1 r D := by
  cases r with
  | stuck => exact h
  | ok a M' => exact fun w' x hm e2 o rx => h w' x hm (e.trans e2) o rx
theorem PostS.bind {K : PySem.W.Frag} {w : Wd} {α β : Type} {rep : Wd → α → β → Prop} {r : Res α} {f : α → Mem → Res (Fl × Env)} {D : Ends} (h : PostS K w (r.bind f) D) :
    PostG K rep w r fun x H => ∃ w1 a, w1.H = H ∧ Ext w w1 ∧ Ok K w1 ∧ rep w1 a x ∧ PostS K w1 (f a w1.M) D := by
  cases r with
  | stuck => exact h
  | ok a M' =>
    intro w' x hm e o rx
    subst hm
    exact ⟨w', a, rfl, e, o, rx, PostS.mono e h⟩
def tS (K : PySem.W.Frag) (F : Oracle) (st : St) : TS := fun D σ H => ∃ env w, w.H = H ∧ Ok K w ∧ EnvRep K w env σ ∧ PostS K w (st.ex F env w.M) D
def tSs (K : PySem.W.Frag) (F : Oracle) (st : Sts) : TS := fun D σ H => ∃ env w, w.H = H ∧ Ok K w ∧ EnvRep K w env σ ∧ PostS K w (st.ex F env w.M) D
theorem ps_imp {st : Stmt} {t t' : TS} (h : PS X st t) (q : ∀ D σ H, t' D σ H → t D σ H) : PS X st t' := ⟨fun pins s σ H D I z => h.run pins s σ H D I (q D σ H z)⟩
theorem pss_imp {st : List Stmt} {t t' : TS} (h : PSs X st t) (q : ∀ D σ H, t' D σ H → t D σ H) : PSs X st t' := ⟨fun pins s σ H D I z => h.run pins s σ H D I (q D σ H z)⟩

theorem b_nil : PSs X [] (tSs X.K F .nil) := pss_imp pss_nil fun D σ H ⟨env, w, e, o, r, h⟩ => by
  subst e
  rw [Sts.ex] at h
  exact h w σ rfl (Ext.refl w) o r
theorem b_cons {st : Stmt} {rest : List Stmt} {is : St} {iss : Sts} (h1 : PS X st (tS X.K F is)) (h2 : PSs X rest (tSs X.K F iss)) : PSs X (st :: rest) (tSs X.K F (.cons is iss)) := by
  refine pss_imp (pss_cons h1 h2) fun D σ H ⟨env, w, e, o, r, h⟩ => ⟨env, w, e, o, r, ?_⟩
  rw [Sts.ex] at h
  cases hs : is.ex F env w.M with
  | stuck => rw [hs] at h; exact h.elim
  | ok p M1 =>
    rw [hs, bind_ok] at h
    intro w' σ' hm ex o' r'
    subst hm
    obtain ⟨f, env1⟩ := p
    cases f with
    | nx => exact ⟨env1, w', rfl, o', r', PostS.mono ex h⟩
    | rt v => exact h w' σ' rfl ex o' r'
    | bk => exact h w' σ' rfl ex o' r'
    | ct => exact h w' σ' rfl ex o' r'
theorem b_pass : PS X (.Pass pos) (tS X.K F .pass) := ps_imp ps_pass fun D σ H ⟨env, w, e, o, r, h⟩ => by
  subst e
  rw [St.ex] at h
  exact h w σ rfl (Ext.refl w) o r
theorem b_brk : PS X (.Break pos) (tS X.K F .brk) := ps_imp ps_break fun D σ H ⟨env, w, e, o, r, h⟩ => by
  subst e
  rw [St.ex] at h
  exact h w σ rfl (Ext.refl w) o r
theorem b_cnt : PS X (.Continue pos) (tS X.K F .cnt) := ps_imp ps_continue fun D σ H ⟨env, w, e, o, r, h⟩ => by
  subst e
  rw [St.ex] at h
  exact h w σ rfl (Ext.refl w) o r
theorem b_retN : PS X (.Return none pos) (tS X.K F .retN) := ps_imp ps_retN fun D σ H ⟨env, w, e, o, r, h⟩ => by
  subst e
  rw [St.ex] at h
  exact h w σ rfl (Ext.refl w) o r .non (by rw [RepV, RepD])
theorem b_ret {e : Expr} {ie : Ex} (he : PE X e (tI X.K F ie)) : PS X (.Return (some e) pos) (tS X.K F (.ret ie)) := ps_imp (ps_ret he) fun D σ H ⟨env, w, e, o, r, h⟩ => by
  refine ⟨env, w, e, o, r, ?_⟩
  rw [St.ex] at h
  refine (PostS.bind (rep := RepV X.K) h).imp fun x H1 ⟨w1, v, e1, x1, o1, r1, p1⟩ => ?_
  exact e1 ▸ p1 w1 σ rfl (Ext.refl w1) o1 (r.mono x1) x r1
theorem b_expr {e : Expr} {ie : Ex} (he : PE X e (tI X.K F ie)) (hs : swapsWith e none pos.line X.env = pure false) : PS X (.Expr e pos) (tS X.K F (.expr ie)) := ps_imp (ps_expr he hs) fun D σ H ⟨env, w, e, o, r, h⟩ => by
  refine ⟨env, w, e, o, r, ?_⟩
  rw [St.ex] at h
  refine (PostS.bind (rep := RepV X.K) h).imp fun x H1 ⟨w1, v, e1, x1, o1, r1, p1⟩ => ?_
  exact e1 ▸ p1 w1 σ rfl (Ext.refl w1) o1 (r.mono x1)
theorem asg_in {i : Nat} {ie : Ex} {D : Ends} {σ : L2.St} {H : Hp} (h : tS X.K F (.asg i ie) D σ H) : tAsg (tI X.K F ie) (gName i) D σ H := by
  obtain ⟨env, w, e, o, r, h⟩ := h
  refine ⟨env, w, e, o, r, ?_⟩
  rw [St.ex] at h
  refine (PostS.bind (rep := RepV X.K) h).imp fun x H1 ⟨w1, v, e1, x1, o1, r1, p1⟩ => ?_
  exact e1 ▸ p1 w1 _ rfl (Ext.refl w1) o1 ((r.mono x1).setI i r1)
theorem b_asg {e : Expr} {ie : Ex} {i : Nat} {x : Str} {p : Pos} (hN : X.N.Nodup) (hi : X.N[i]? = some x) (hx : Loc X.env.scope x) (he : PE X e (tI X.K F ie)) (hs : swapsWith e (some (.Name x p)) pos.line X.env = pure false) (hf : X.fn x = true ∨ X.env.scope.names.lookup x = some .local) :
    PS X (.Assign [.Name x p] e pos) (tS X.K F (.asg i ie)) := ps_imp (ps_set hN hi hx he hs hf) fun D σ H h => asg_in h
theorem b_asgC {elt tgE iter : Expr} {ifs : List Expr} {scope : Scope} {own : List (Str × Nat)} {it : It} {tg : Tg} {cs : Exs} {e : Ex} {i : Nat} {y : Str} {py spos : Pos} (hc : X.calm = true) (hN : X.N.Nodup) (hy : X.N[i]? = some y) (hyl : X.env.scope.names.lookup y = some .local)
    (hsw : swapsWith (.ListComp elt [⟨tgE, iter, ifs, 0⟩] scope pos) (some (.Name y py)) spos.line X.env = pure true) (hi : PI X tgE iter (iI X.K F it)) (ok : BlkOk X.N X.env.scope scope own)
    (hg : ∀ (s : Shared) (H : Hp) (C : Addr) (cl : List (Str × Addr)) (fp : List Addr), PG (X.blk s H scope (compEnvC scope cl C X.env) fp) tgE (gI X.K tg)) (ht : ∀ (s : Shared) (H : Hp) (C : Addr) (cl : List (Str × Addr)) (fp : List Addr), PTs (X.blk s H scope (compEnvC scope cl C X.env) fp) ifs (tIt X.K F cs))
    (he : ∀ (s : Shared) (H : Hp) (C : Addr) (cl : List (Str × Addr)) (fp : List Addr), PE (X.blk s H scope (compEnvC scope cl C X.env) fp) elt (tI X.K F e)) (hs : ∀ x, foldedSetIterable iter X.env x = pure x)
    (hown : ∀ s ∈ tg.slots, s ∈ own.map (·.2)) : PS X (.Assign [.Name y py] (.ListComp elt [⟨tgE, iter, ifs, 0⟩] scope pos) spos) (tS X.K F (.asg i (.comp it tg (own.map (·.2)) cs e))) :=
  ps_imp (ps_setLc hc hN hy hyl hsw hi ok hg ht he hs) fun D σ H h => comp_in (Q := fun x H1 => gName i x σ H1 D.nx) hown (asg_in h)
theorem b_asgCN {elt tgE iter : Expr} {ifs : List Expr} {scope : Scope} {own : List (Str × Nat)} {it : It} {tg : Tg} {cs : Exs} {e : Ex} {i : Nat} {y : Str} {py spos : Pos} (hc : X.calm = true) (hN : X.N.Nodup) (hy : X.N[i]? = some y) (hyl : X.env.scope.names.lookup y = some .local)
    (hsw : swapsWith (.ListComp elt [⟨tgE, iter, ifs, 0⟩] scope pos) (some (.Name y py)) spos.line X.env = pure true) (hi : PI X tgE iter (iI X.K F it)) (ok : BlkOk X.N X.env.scope scope own)
    (hg : ∀ (s : Shared) (H : Hp) (C : Addr) (cl : List (Str × Addr)) (fp : List Addr), PG (X.blk s H scope (compEnvC scope cl C X.env) fp) tgE (gI X.K tg)) (ht : ∀ (s : Shared) (H : Hp) (C : Addr) (cl : List (Str × Addr)) (fp : List Addr), PTs (X.blk s H scope (compEnvC scope cl C X.env) fp) ifs (tIt X.K F cs))
    (he : ∀ (s : Shared) (H : Hp) (C : Addr) (cl : List (Str × Addr)) (fp : List Addr), PE (X.blk s H scope (compEnvC scope cl C X.env) fp) elt (tI X.K F e)) (hs : ∀ x, foldedSetIterable iter X.env x = pure x)
    (hown : ∀ s ∈ tg.slots, s ∈ own.map (·.2)) : PS X (.Assign [.Name y py] (.ListComp elt [⟨tgE, iter, ifs, 0⟩] scope pos) spos) (tS X.K F (.asg i (.new (.comp it tg (own.map (·.2)) cs e)))) :=
  ps_imp (ps_setLc hc hN hy hyl hsw hi ok hg ht he hs) fun D σ H h => comp_inN (Q := fun x H1 => gName i x σ H1 D.nx) hown (new_in (asg_in h))
theorem b_unp {es : List Expr} {k : Nat} {p : Pos} {ts : Tgs} {e : Expr} {ie : Ex} (he : PE X e (tI X.K F ie)) (hg : PG X (.Tuple es k p) (gI X.K (.tup ts))) (hs : swapsWithSole [.Tuple es k p] e pos.line X.env = pure false) (hw : swappedStores [.Tuple es k p] e X.env = pure none) :
    PS X (.Assign [.Tuple es k p] e pos) (tS X.K F (.unp ts ie)) := ps_imp (ps_asg he hg hs hw rfl) fun D σ H ⟨env, w, e, o, r, h⟩ => by
  refine ⟨env, w, e, o, r, ?_⟩
  rw [St.ex] at h
  refine (PostS.bind (rep := RepV X.K) h).imp fun x H1 ⟨w1, v, e1, x1, o1, r1, p1⟩ => ?_
  split at p1
  · rename_i env1 hp
    refine ⟨env, w1, .v v, env1, e1, o1, r.mono x1, r1, hp, fun σ' r' _ => ?_⟩
    exact e1 ▸ p1 w1 _ rfl (Ext.refl w1) o1 r'
  · exact p1.elim
theorem b_par {i j : Nat} {x y : Str} {a b : Expr} {is : Exs} {px py pt : Pos} {kt k2 : Nat} {pt2 : Pos} (hc : X.calm = true) (hN : X.N.Nodup) (hi : X.N[i]? = some x) (hj : X.N[j]? = some y) (hij : i ≠ j)
    (hx : X.env.scope.names.lookup x = some .local) (hy : X.env.scope.names.lookup y = some .local) (ha : PA X [a, b] (tIa X.K F is))
    (hw : swappedStores [.Tuple [.Name x px, .Name y py] kt pt] (.Tuple [a, b] k2 pt2) X.env = pure (some [x, y])) :
    PS X (.Assign [.Tuple [.Name x px, .Name y py] kt pt] (.Tuple [a, b] k2 pt2) pos) (tS X.K F (.par i j is)) :=
  ps_imp (ps_par hc hN hi hj hij hx hy ha hw) fun D σ H ⟨env, w, e, o, r, h⟩ => by
  refine ⟨env, w, e, o, r, ?_⟩
  rw [St.ex] at h
  refine (PostS.bind (rep := RepVs X.K) h).imp fun xs H1 ⟨w1, vs, e1, x1, o1, r1, p1⟩ => ?_
  split at p1
  · rename_i v u
    obtain ⟨y1, ys, rfl, q1, y2, ys2, rfl, q2, q3⟩ := r1
    have q3 : ys2 = [] := q3
    subst q3
    exact ⟨y1, y2, rfl, e1 ▸ p1 w1 _ rfl (Ext.refl w1) o1 (((r.mono x1).setI i q1).setI j q2)⟩
  · exact p1.elim
theorem b_set {oE iE e : Expr} {io ii ie : Ex} {p : Pos} (ho : PE X oE (tI X.K F io)) (hi : PE X iE (tI X.K F ii)) (he : PE X e (tI X.K F ie)) (hs : swapsWithSole [.Subscript oE iE p] e pos.line X.env = pure false)
    (hw : swappedStores [.Subscript oE iE p] e X.env = pure none)
    (ha : ∀ v, assign (.Subscript oE iE p) X.env v = (do
      let ov ← holding [v] (eval oE X.env)
      let iv ← holding [v, ov] (eval iE X.env)
      standAt p
      holding [v, ov, iv] (setItem ov iv v)
      release [v, ov, iv] [])) : PS X (.Assign [.Subscript oE iE p] e pos) (tS X.K F (.set io ii ie)) :=
  ps_imp (ps_asg he (pg_sub ho hi set_list ha) hs hw rfl) fun D σ H ⟨env, w, e, o, r, h⟩ => by
  refine ⟨env, w, e, o, r, ?_⟩
  rw [St.ex] at h
  refine (PostS.bind (rep := RepV X.K) h).imp fun x H1 ⟨w1, v, e1, x1, o1, r1, p1⟩ => ?_
  refine ⟨env, w1, e1, o1, r.mono x1, (PostS.bind (rep := RepV X.K) p1).imp fun y H2 ⟨w2, u, e2, x2, o2, r2, p2⟩ => ?_⟩
  refine ⟨env, w2, e2, o2, (r.mono x1).mono x2, (PostS.bind (rep := RepV X.K) p2).imp fun z H3 ⟨w3, k, e3, x3, o3, r3, p3⟩ => ?_⟩
  subst e3
  have r1 := (r1.mono x2).mono x3
  have r2 := r2.mono x3
  split at p3
  · rename_i M4 hM
    obtain ⟨rr, kk, yy, xs, j, rfl, rfl, rfl, hxs, hj, hM⟩ := setAt_some hM
    obtain ⟨a, rfl, ha⟩ := r2
    obtain ⟨ys, h4, h5⟩ := o3.ob rr a _ ha hxs
    rw [RepV, RepD] at r3
    subst r3
    have n : Ob.lst xs ≠ .gone := by intro z; cases z
    refine ⟨a, ys, kk, j, rfl, rfl, h4, by rw [h5.len]; exact hj, ?_⟩
    exact p3 (w3.mut rr a _ _) σ hM (ext_mut o3 ha hxs n) (ok_mut o3 ha hxs n (h5.setI j r1)) ((((r.mono x1).mono x2).mono x3).mono (ext_mut o3 ha hxs n))
  · exact p3.elim
/-! targets one after another -/
def PostE (K : PySem.W.Frag) (w : Wd) (r : Res Env) (Q : L2.St → Hp → Prop) : Prop :=
  match r with
  | .stuck => False
  | .ok env M' => ∀ w' σ', w'.M = M' → Ext w w' → Ok K w' → EnvRep K w' env σ' → Q σ' w'.H
theorem PostE.mono {K : PySem.W.Frag} {w w1 : Wd} {r : Res Env} {Q : L2.St → Hp → Prop} (e : Ext w w1) (h : PostE K w r Q) : PostE K w1 r Q := by
  cases r with
  | stuck => exact h
  | ok a M' => exact fun w' x hm e2 o rx => h w' x hm (e.trans e2) o rx
theorem PostE.bind {K : PySem.W.Frag} {w : Wd} {α β : Type} {rep : Wd → α → β → Prop} {r : Res α} {f : α → Mem → Res Env} {Q : L2.St → Hp → Prop} (h : PostE K w (r.bind f) Q) :
    PostG K rep w r fun x H => ∃ w1 a, w1.H = H ∧ Ext w w1 ∧ Ok K w1 ∧ rep w1 a x ∧ PostE K w1 (f a w1.M) Q := by
  cases r with
  | stuck => exact h
  | ok a M' =>
    intro w' x hm e o rx
    subst hm
    exact ⟨w', a, rfl, e, o, rx, PostE.mono e h⟩
def gL (K : PySem.W.Frag) (F : Oracle) (ts : Lts) : TGs := fun vs σ H Q => ∃ env w xs, w.H = H ∧ Ok K w ∧ EnvRep K w env σ ∧ RepVs K w xs vs ∧ PostE K w (ts.put F xs env w.M) Q
theorem lt_nil : PGs X [] (gL X.K F .nil) := by
  refine pgs_imp pgs_nil fun v σ H Q ⟨env, w, xs, e, o, r, ri, hp⟩ => ?_
  subst e
  cases xs with
  | cons => exact hp.elim
  | nil => exact ⟨ri, hp w σ rfl (Ext.refl w) o r⟩
theorem lt_slot {i : Nat} {x : Str} {p : Pos} {es : List Expr} {ts : Lts} (hN : X.N.Nodup) (hi : X.N[i]? = some x) (hx : L2.Loc X.env.scope x) (hf : X.fn x = true ∨ X.env.scope.names.lookup x = some .local) (h2 : PGs X es (gL X.K F ts))
    (hs : (assignEach (.Name x p :: es) X.env).map (·.2) = assign (.Name x p) X.env :: (assignEach es X.env).map (·.2)) : PGs X (.Name x p :: es) (gL X.K F (.slot i ts)) := by
  refine pgs_imp (pgs_cons (pg_name hN hi hx hf) h2 hs) fun v σ H Q ⟨env, w, xs, e, o, r, ri, hp⟩ => ?_
  cases xs with
  | nil => exact hp.elim
  | cons x xs =>
    obtain ⟨y, ys, e2, r1, r2⟩ := ri
    exact ⟨y, ys, e2, _, w, xs, e, o, r.setI i r1, r2, hp⟩
theorem lt_sub {oE iE : Expr} {io ii : Ex} {p : Pos} {es : List Expr} {ts : Lts} (ho : PE X oE (tI X.K F io)) (hi : PE X iE (tI X.K F ii)) (h2 : PGs X es (gL X.K F ts))
    (ha : ∀ v, assign (.Subscript oE iE p) X.env v = (do
      let ov ← holding [v] (eval oE X.env)
      let iv ← holding [v, ov] (eval iE X.env)
      standAt p
      holding [v, ov, iv] (setItem ov iv v)
      release [v, ov, iv] []))
    (hs : (assignEach (.Subscript oE iE p :: es) X.env).map (·.2) = assign (.Subscript oE iE p) X.env :: (assignEach es X.env).map (·.2)) : PGs X (.Subscript oE iE p :: es) (gL X.K F (.sub io ii ts)) := by
  refine pgs_imp (pgs_cons (pg_sub ho hi set_list ha) h2 hs) fun v σ H Q ⟨env, w, xs, e, o, r, ri, hp⟩ => ?_
  cases xs with
  | nil => exact hp.elim
  | cons x xs =>
    obtain ⟨y, ys, e2, r1, r2⟩ := ri
    refine ⟨y, ys, e2, env, w, e, o, r, ?_⟩
    rw [Lts.put] at hp
    refine (PostE.bind (rep := RepV X.K) hp).imp fun z H2 ⟨w2, u, e2, x2, o2, q2, p2⟩ => ?_
    refine ⟨env, w2, e2, o2, r.mono x2, (PostE.bind (rep := RepV X.K) p2).imp fun z2 H3 ⟨w3, kk, e3, x3, o3, q3, p3⟩ => ?_⟩
    subst e3
    split at p3
    · rename_i M4 hM
      obtain ⟨rr, k', yy, xs', j, rfl, rfl, rfl, hxs, hj, hM⟩ := setAt_some hM
      obtain ⟨a, rfl, ha'⟩ := q2.mono x3
      obtain ⟨ys', h4, h5⟩ := o3.ob rr a _ ha' hxs
      rw [RepV, RepD] at q3
      subst q3
      have n : Ob.lst xs' ≠ .gone := by intro z; cases z
      have r1' := (r1.mono x2).mono x3
      have em := ext_mut o3 (u := .lst (ys'.set j y)) (ob := .lst (xs'.set j yy)) ha' hxs n
      refine ⟨a, ys', k', j, rfl, rfl, h4, by rw [h5.len]; exact hj, env, w3.mut rr a _ _, xs, rfl, ok_mut o3 ha' hxs n (h5.setI j r1'), ((r.mono x2).mono x3).mono em, ((r2.mono x2).mono x3).mono em, ?_⟩
      rw [← hM] at p3
      exact PostE.mono em p3
    · exact p3.elim
theorem b_unm {es : List Expr} {k : Nat} {p : Pos} {ts : Lts} {e : Expr} {ie : Ex} (hc : X.calm = true) (he : PE X e (tI X.K F ie)) (hg : PGs X es (gL X.K F ts)) (hn : (assignEach es X.env).length = ts.len) (hst : (assignEach es X.env).findIdx? (·.1) = none)
    (hs : swapsWithSole [.Tuple es k p] e pos.line X.env = pure false) (hw : swappedStores [.Tuple es k p] e X.env = pure none) :
    PS X (.Assign [.Tuple es k p] e pos) (tS X.K F (.unm ts ie)) := ps_imp (ps_asg he (pg_tup hc hg hn hst) hs hw rfl) fun D σ H ⟨env, w, e, o, r, h⟩ => by
  refine ⟨env, w, e, o, r, ?_⟩
  rw [St.ex] at h
  refine (PostS.bind (rep := RepV X.K) h).imp fun x H1 ⟨w1, v, e1, x1, o1, r1, p1⟩ => ?_
  subst e1
  split at p1
  · rename_i xs hx
    obtain ⟨a, ys, rfl, hq, rr⟩ := r1.at o1 hx
    refine ⟨a, ys, rfl, hq, ?_, env, w1, _, rfl, o1, r.mono x1, rr.vs, ?_⟩
    · have plen : ∀ {ts : Lts} {xs : List Val} {env : Env} {M : Mem}, ts.put F xs env M ≠ .stuck → xs.length = ts.len := by
        intro ts
        induction ts with
        | nil => intro xs env M h; cases xs with
          | nil => rfl
          | cons => exact absurd rfl h
        | slot i ts ih => intro xs env M h; cases xs with
          | nil => exact absurd rfl h
          | cons x xs => rw [List.length_cons, ih (by rw [Lts.put] at h; exact h)]; rfl
        | sub o i ts ih => intro xs env M h; cases xs with
          | nil => exact absurd rfl h
          | cons x xs =>
            rw [Lts.put] at h
            cases h1 : o.ev F env M with
            | stuck => rw [h1] at h; exact absurd rfl h
            | ok r M1 =>
              rw [h1, bind_ok] at h
              cases h2 : i.ev F env M1 with
              | stuck => rw [h2] at h; exact absurd rfl h
              | ok k M2 =>
                rw [h2, bind_ok] at h
                split at h
                · rw [List.length_cons, ih h]; rfl
                · exact absurd rfl h
      rw [rr.len]
      have := plen (ts := ts) (xs := xs.map .d) (env := env) (M := w1.M) (by intro z; rw [z] at p1; exact p1)
      rw [← this, List.length_map]
    · cases hp : ts.put F (xs.map .d) env w1.M with
      | stuck => rw [hp] at p1; exact p1.elim
      | ok env1 M2 =>
        rw [hp, bind_ok] at p1
        exact fun w' σ' hm ex o' r' => p1 w' σ' hm ex o' r'
  · exact p1.elim
theorem b_if {c : Expr} {a b : List Stmt} {ic : Ex} {ia ib : Sts} (hc : PT X c (tIb X.K F ic)) (ha : PSs X a (tSs X.K F ia)) (hb : PSs X b (tSs X.K F ib)) : PS X (.If c a b pos) (tS X.K F (.ifs ic ia ib)) :=
  ps_imp (ps_if hc ha hb) fun D σ H ⟨env, w, e, o, r, h⟩ => by
  refine ⟨env, w, e, o, r, ?_⟩
  rw [St.ex] at h
  refine (PostS.bind (rep := fun _ a b => a = b) h).imp fun k H1 ⟨w1, k', e1, x1, o1, ek, p1⟩ => ?_
  subst ek
  cases k' with
  | true => exact ⟨env, w1, e1, o1, r.mono x1, p1⟩
  | false => exact ⟨env, w1, e1, o1, r.mono x1, p1⟩
theorem b_for {tgE iter : Expr} {body : List Stmt} {it : It} {tg : Tg} {ib : Sts} (hp : PassesOwn (model X.prog X.w) X.A X.env X.xe) (hc : X.calm = true) (hi : PI X tgE iter (iI X.K F it)) (hg : PG X tgE (gI X.K tg)) (hb : PSs X body (tSs X.K F ib))
    (hs : ∀ x, foldedSetIterable iter X.env x = pure x) : PS X (.For tgE iter body [] pos) (tS X.K F (.for_ it tg ib)) :=
  ps_imp (ps_for hp hc hi hg hb hs) fun D σ H ⟨env, w, e, o, r, h⟩ => by
  refine ⟨env, w, e, o, r, ?_⟩
  rw [St.ex] at h
  cases hi : it.ev F env w.M with
  | stuck => rw [hi] at h; exact h.elim
  | ok items M1 =>
    rw [hi, bind_ok] at h
    intro w1 J hm x1 o1 jk
    subst hm
    refine ⟨fun i m σ H' => ∃ (wx : Wd) (env : Env), wx.H = H' ∧ Ok X.K wx ∧ Ext w1 wx ∧ EnvRep X.K wx env σ ∧ m = items.length - i ∧ i ≤ items.length ∧ PostS X.K wx (forGo tg (fun env M => ib.ex F env M) (items.drop i) env wx.M) D,
      ⟨items.length, w1, env, rfl, o1, Ext.refl w1, r.mono x1, rfl, Nat.zero_le _, PostS.mono x1 h⟩, ?_⟩
    rintro i m σ H' ⟨wx, env, rfl, ox, ex, rx, rfl, hi2, hp⟩
    by_cases hlt : i < items.length
    · obtain ⟨itm, hit⟩ : ∃ itm, items[i]? = some itm := ⟨items[i], List.getElem?_eq_getElem hlt⟩
      have hdrop : items.drop i = itm :: items.drop (i + 1) := by
        rw [List.drop_eq_getElem_cons hlt]
        rw [List.getElem?_eq_getElem hlt] at hit
        rw [Option.some.inj hit]
      rw [hdrop, forGo] at hp
      obtain ⟨hgo, hyld⟩ := (jk wx ex.to0 ox i).1 itm hit
      refine .inr ⟨hgo, fun σ' H' => ∃ (wx : Wd) (env : Env), wx.H = H' ∧ Ok X.K wx ∧ Ext w1 wx ∧ EnvRep X.K wx env σ' ∧ PostS X.K wx (forGo tg (fun env M => ib.ex F env M) (items.drop (i + 1)) env wx.M) D,
        fun σ' H' ⟨wx, env, q1, q2, q3, q4, q5⟩ => ⟨items.length - (i + 1), by omega, wx, env, q1, q2, q3, q4, rfl, hlt, q5⟩, fun x H' hy => ?_⟩
      obtain ⟨w2, e2, m2, x2, o2, ri⟩ := hyld x H' hy
      subst e2
      split at hp
      · exact hp.elim
      · rename_i env1 hput
        rw [← m2] at hput hp
        refine ⟨env, w2, itm, env1, rfl, o2, rx.mono x2, ri, hput, fun σ2 r2 _ => ⟨env1, w2, rfl, o2, r2, ?_⟩⟩
        have hp := PostS.mono x2 hp
        cases hb : ib.ex F env1 w2.M with
        | stuck => rw [hb] at hp; exact hp.elim
        | ok p M3 =>
          rw [hb, bind_ok] at hp
          intro w3 σ3 hm3 x3 o3 r3
          subst hm3
          obtain ⟨f, env3⟩ := p
          cases f with
          | nx => exact ⟨w3, env3, rfl, o3, (ex.trans x2).trans x3, r3, PostS.mono x3 hp⟩
          | ct => exact ⟨w3, env3, rfl, o3, (ex.trans x2).trans x3, r3, PostS.mono x3 hp⟩
          | bk => exact hp w3 σ3 rfl x3 o3 r3
          | rt v => exact hp w3 σ3 rfl x3 o3 r3
    · have e1 : i = items.length := by omega
      subst e1
      refine .inl ⟨(jk wx ex.to0 ox _).2 (List.getElem?_eq_none (Nat.le_refl _)), ?_⟩
      rw [List.drop_length, forGo] at hp
      exact hp wx σ rfl (Ext.refl wx) ox rx
theorem b_while {c : Expr} {body : List Stmt} {ic : Ex} {ib : Sts} (hp : PassesOwn (model X.prog X.w) X.A X.env X.xe) (hc : PT X c (tIb X.K F ic)) (hb : PSs X body (tSs X.K F ib)) : PS X (.While c body [] pos) (tS X.K F (.while_ ic ib)) :=
  ps_imp (ps_while hp hc hb) fun D σ H ⟨env, w, e, o, r, h⟩ => by
  rw [St.ex] at h
  refine ⟨fun m σ H' => ∃ (wx : Wd) (env : Env), wx.H = H' ∧ Ok X.K wx ∧ EnvRep X.K wx env σ ∧ PostS X.K wx (whileGo (fun env M => truR (ic.ev F env M)) (fun env M => ib.ex F env M) m env wx.M) D, ⟨1000000, w, env, e, o, r, h⟩, ?_⟩
  rintro m σ H' ⟨wx, env, rfl, ox, rx, hp⟩
  cases m with
  | zero => rw [whileGo] at hp; exact hp.elim
  | succ m =>
    rw [whileGo] at hp
    refine ⟨env, wx, rfl, ox, rx, (PostS.bind (rep := fun _ a b => a = b) hp).imp fun k H1 ⟨w1, k', e1, x1, o1, ek, p1⟩ => ?_⟩
    subst ek
    subst e1
    cases k' with
    | false =>
      rw [if_neg Bool.false_ne_true] at p1 ⊢
      exact p1 w1 σ rfl (Ext.refl w1) o1 (rx.mono x1)
    | true =>
      rw [if_pos rfl] at p1 ⊢
      refine ⟨fun σ' H' => ∃ (wx : Wd) (env : Env), wx.H = H' ∧ Ok X.K wx ∧ EnvRep X.K wx env σ' ∧ PostS X.K wx (whileGo (fun env M => truR (ic.ev F env M)) (fun env M => ib.ex F env M) m env wx.M) D, fun σ' H' z => ⟨m, Nat.lt_succ_self m, z⟩, env, w1, rfl, o1, rx.mono x1, ?_⟩
      cases hb : ib.ex F env w1.M with
      | stuck => rw [hb] at p1; exact p1.elim
      | ok p M3 =>
        rw [hb, bind_ok] at p1
        intro w3 σ3 hm3 x3 o3 r3
        subst hm3
        obtain ⟨f, env3⟩ := p
        cases f with
        | nx => exact ⟨w3, env3, rfl, o3, r3, PostS.mono x3 p1⟩
        | ct => exact ⟨w3, env3, rfl, o3, r3, PostS.mono x3 p1⟩
        | bk => exact p1 w3 σ3 rfl x3 o3 r3
        | rt v => exact p1 w3 σ3 rfl x3 o3 r3
/-! augmented assignment -/
def tipA (op : Operator) : TIp := fun x y H Q => ∃ i j c, x = .int i ∧ y = .int j ∧ augI op i j = some c ∧ Q (.int c) H
theorem pip_A (op : Operator) (h : op = .Add ∨ op = .Sub) : PIp X op (tipA op) := by
  rcases h with rfl | rfl
  · intro pins s σ H x y xv yv Q I r1 r2 ⟨i, j, c, h1, h2, h3, q⟩
    cases h3
    exact ip_add pins s σ H x y xv yv Q I r1 r2 ⟨i, j, h1, h2, q⟩
  · intro pins s σ H x y xv yv Q I r1 r2 ⟨i, j, c, h1, h2, h3, q⟩
    cases h3
    exact ip_sub pins s σ H x y xv yv Q I r1 r2 ⟨i, j, h1, h2, q⟩
theorem b_aug {e : Expr} {ie : Ex} {i : Nat} {x : Str} {op : Operator} {p : Pos} (hN : X.N.Nodup) (hi : X.N[i]? = some x) (hx : L2.Loc X.env.scope x) (he : PE X e (tI X.K F ie)) (ho : op = .Add ∨ op = .Sub) (hf : X.fn x = true ∨ X.env.scope.names.lookup x = some .local) :
    PS X (.AugAssign (.Name x p) op e pos) (tS X.K F (.aug i op ie)) := ps_imp (ps_aug hN hi hx he (pip_A op ho) hf) fun D σ H ⟨env, w, e, o, r, h⟩ => by
  rw [St.ex] at h
  cases hv : ie.ev F env w.M with
  | stuck => rw [hv] at h; exact h.elim
  | ok v M1 =>
    rw [hv, bind_ok] at h
    split at h
    · rename_i a b ha
      split at h
      · rename_i c hc
        obtain ⟨x, hx, rx⟩ := r.get i _ ha
        rw [RepV, RepD] at rx
        subst rx
        refine ⟨_, hx, env, w, e, o, r, ?_⟩
        rw [hv]
        intro w' y hm ex o' ry
        rw [RepV, RepD] at ry
        subst ry
        refine ⟨a, b, c, rfl, rfl, hc, ?_⟩
        exact h w' _ hm ex o' ((r.mono ex).setI i (by rw [RepV, RepD]))
      · exact h.elim
    · exact h.elim
theorem getI_some {o i : Val} {M : Mem} {a : Int} (h : getI o i M = some a) : ∃ xs k, o.at M = some (.lst xs) ∧ i = .d (.int k) ∧ 0 ≤ k ∧ atI xs k = some (.int a) := by
  unfold getI at h
  split at h
  · rename_i xs k e
    split at h
    · rename_i b hb
      cases h
      split at hb
      · rename_i hk
        exact ⟨xs, k, e, rfl, hk, hb⟩
      · cases hb
    · cases h
  · cases h
def rGetP (K : PySem.W.Frag) : V → V → Hp → VK → Prop := fun x y H Q => ∃ p xs i v, x = .ref p ∧ y = .int i ∧ SqL K H p xs ∧ 0 ≤ i ∧ atI xs i = some v ∧ Q v H
theorem pget_L : PGet X (rGetP X.K) := fun pins s σ H o i ov iv Q I r1 r2 ⟨p, xs, k, v, h1, h2, h3, h4, h5, q⟩ => by
  subst h1
  subst h2
  have r1 : ov = Value.ref p := r1
  subst r1
  obtain ⟨t, rfl⟩ := r2
  obtain ⟨its, rv, pl, hz⟩ := Inv.list I h3
  unfold atI at h5
  obtain ⟨j, hj, hd⟩ := Option.bind_eq_some_iff.mp h5
  obtain ⟨u, hu, ru⟩ := Vals.get rv hd
  unfold ixN at hj
  rw [if_pos h4] at hj
  have hlt : k < (xs.length : Int) := by
    by_cases q : k < (xs.length : Int)
    · exact q
    · rw [if_neg q] at hj; cases hj
  rw [if_pos hlt] at hj
  cases hj
  refine PyProof.Rows.getItem_listL (l := its) ?_ h4 ?_ hu ⟨v, H, I, ru, q⟩
  · obtain ⟨ob, n, q1, q2, _, q3⟩ := pl
    exact ⟨ob, q1, q2, n, q3⟩
  · have : sizeLine < 2 ^ 63 := by decide
    omega
theorem b_augS {oE iE e : Expr} {io ii ie : Ex} {op : Operator} {p : Pos} (ho : PE X oE (tI X.K F io)) (hi : PE X iE (tI X.K F ii)) (he : PE X e (tI X.K F ie)) (hop : op = .Add ∨ op = .Sub)
    (ha : ∀ ov iv new : Value, augStore iE ov iv new = (do
      holding [new, ov, iv] (setItem ov iv new)
      release [new, ov, iv] []
      pure Flow.next)) : PS X (.AugAssign (.Subscript oE iE p) op e pos) (tS X.K F (.augS io ii op ie)) :=
  ps_imp (ps_augS ho hi pget_L he (pip_A op hop) set_list ha) fun D σ H ⟨env, w, e, o, r, h⟩ => by
  refine ⟨env, w, e, o, r, ?_⟩
  rw [St.ex] at h
  refine (PostS.bind (rep := RepV X.K) h).imp fun x H1 ⟨w1, v, e1, x1, o1, r1, p1⟩ => ?_
  refine ⟨env, w1, e1, o1, r.mono x1, (PostS.bind (rep := RepV X.K) p1).imp fun y H2 ⟨w2, k, e2, x2, o2, r2, p2⟩ => ?_⟩
  subst e2
  split at p2
  · rename_i a hg
    obtain ⟨xs, kk, hxs, rfl, hk0, hat⟩ := getI_some hg
    obtain ⟨q, ys, rfl, hq, rr⟩ := (r1.mono x2).at o2 hxs
    rw [RepV, RepD] at r2
    subst r2
    unfold atI at hat
    obtain ⟨j, hj, hd⟩ := Option.bind_eq_some_iff.mp hat
    obtain ⟨z, hz, rz⟩ := rr.get hd
    rw [RepD] at rz
    subst rz
    refine ⟨q, ys, kk, _, rfl, rfl, hq, hk0, by unfold atI; rw [rr.len, hj]; exact hz, ?_⟩
    refine ⟨env, w2, rfl, o2, (r.mono x1).mono x2, (PostS.bind (rep := RepV X.K) p2).imp fun u H3 ⟨w3, v3, e3, x3, o3, r3, p3⟩ => ?_⟩
    subst e3
    split at p3
    · rename_i b
      rw [RepV, RepD] at r3
      subst r3
      split at p3
      · rename_i M4 hM
        obtain ⟨c, hc, hM⟩ := Option.bind_eq_some_iff.mp hM
        refine ⟨a, b, c, rfl, rfl, hc, ?_⟩
        obtain ⟨rr', kk', yy, xs', j', rfl, hk, hy, hxs', hj', hM⟩ := setAt_some hM
        cases hk
        cases hy
        obtain ⟨a', ha1, ha2⟩ := (r1.mono x2).mono x3
        cases ha1
        obtain ⟨ys', h4, h5⟩ := o3.ob rr' _ _ ha2 hxs'
        have n : Ob.lst xs' ≠ .gone := by intro z; cases z
        refine ⟨_, ys', kk, j', rfl, rfl, h4, by rw [h5.len]; exact hj', ?_⟩
        exact p3 (w3.mut rr' _ _ _) σ hM (ext_mut o3 ha2 hxs' n) (ok_mut o3 ha2 hxs' n (h5.setI j' (by rw [RepD]))) ((((r.mono x1).mono x2).mono x3).mono (ext_mut o3 ha2 hxs' n))
      · exact p3.elim
    · exact p3.elim
  · exact p2.elim
end
end VI
set_option maxHeartbeats 1000000
namespace VI
open PySem PySem.Spec PyProof.Rows L2

/-! calls -/
def spI (K : PySem.W.Frag) (f : List Val → Mem → Res Val) : Sp := fun xs H Q _ => ∃ w vs, w.H = H ∧ Ok K w ∧ RepVs K w vs xs ∧ PostG K (RepV K) w (f vs w.M) Q
/-- the def x of the text stands behind the oracle -/
def Kn (P : Program) (w : World) (K : PySem.W.Frag) (mg : Str → Option Value) (base : Heap) (k : Nat) (F : Oracle) (x : Str) : Prop :=
  ∃ (fa : Addr) (fd : FuncData) (ps : List Str), mg x = some (.ref fa) ∧ PySem.W.keepIn K (.ref fa) = true ∧ Binds K fd ps [] ∧ FnOk P w K mg base CX0 k fa fd ps (spI K (F x))

/-- what a context must be, by what is written -/
structure Sx where
  sc : Scope
  N : List Str
  fn : Str → Bool
  noms : List Str
  fns : List Str
structure Gd (S : Sx) (k : Nat) (F : Oracle) (X : Cx) : Prop where
  calm : X.calm = true
  N : X.N = S.N
  nd : X.N.Nodup
  sc : X.env.scope = S.sc
  fn : ∀ x, S.fn x = true → X.fn x = true
  room : Room k X.A
  xe : X.xe = fun _ _ => False
  noms : ∀ x ∈ S.noms, X.mg x = none
  fns : ∀ x ∈ S.fns, Kn X.prog X.w X.K X.mg X.base k F x
  fk : X.env.scope.kind = .function
section
variable {S : Sx} {k : Nat} {F : Oracle} {X : Cx}
theorem Gd.hu (g : Gd S k F X) : X.A.units + 64 < cLine := by
  have := g.room.un
  omega
end

section
variable {X : Cx} {F : Oracle} {pos : Pos}
theorem s_call {k : Nat} {x : Str} {p : Pos} {e : Expr} {es : List Expr} {is : Exs} (hk : Kn X.prog X.w X.K X.mg X.base k F x) (hr : Room k X.A) (hg : Gl X x) (hdb : (x == ("__debug__" : Str)) = false) (ha : PA X (e :: es) (tIa X.K F is))
    (he : starEach (e :: es) X.env = (false, eval e X.env) :: starEach es X.env) (hpl : (backTo pos (starEach es X.env)).any (·.1) = false) : PE X (.Call (.Name x p) (e :: es) [] pos) (tI X.K F (.call x is)) := by
  obtain ⟨fa, fd, ps, h1, h2, h3, h4⟩ := hk
  refine pe_imp (pe_call h4 hr hg h1 h2 h3 .nil pass0 ha hdb he hpl) fun σ H Q ⟨env, w, eH, o, r, h⟩ => ⟨env, w, eH, o, r, ?_⟩
  rw [Ex.ev] at h
  refine (PostG.bind (rep := RepVs X.K) h).imp fun xs H1 ⟨w1, vs, e1, x1, o1, r1, p1⟩ => ?_
  rw [List.append_nil]
  exact ⟨w1, vs, e1, o1, r1, p1⟩
theorem s_call0 {k : Nat} {x : Str} {p : Pos} (hk : Kn X.prog X.w X.K X.mg X.base k F x) (hr : Room k X.A) (hg : Gl X x) (hdb : (x == ("__debug__" : Str)) = false) : PE X (.Call (.Name x p) [] [] pos) (tI X.K F (.call x .nil)) := by
  obtain ⟨fa, fd, ps, h1, h2, h3, h4⟩ := hk
  refine pe_imp (pe_call0 h4 hr hg h1 h2 h3 .nil pass0 hdb) fun σ H Q ⟨env, w, eH, o, r, h⟩ => ?_
  rw [Ex.ev, Exs.ev, bind_ok] at h
  exact ⟨w, [], eH, o, rfl, h⟩
theorem s_ifeT {c a b : Expr} {ic ia ib : Ex} (hc : PT X c (tIb X.K F ic)) (ha : PT X a (tIb X.K F ia)) (hb : PT X b (tIb X.K F ib)) : PT X (.IfExp c a b pos) (tIb X.K F (.ife ic ia ib)) := by
  refine ⟨fun pins s σ H Q I ⟨env, w, e, o, r, h⟩ => ?_⟩
  have hh : PostG X.K (fun _ a b => a = b) w (truR (ic.ev F env w.M)) fun k H1 => ∃ w1, w1.H = H1 ∧ Ext w w1 ∧ Ok X.K w1 ∧ PostG X.K (fun _ a b => a = b) w1 (truR (if k = true then ia.ev F env w1.M else ib.ev F env w1.M)) Q := by
    rw [Ex.ev] at h
    cases ht : truR (ic.ev F env w.M) with
    | stuck => rw [ht] at h; exact h
    | ok b M =>
      rw [ht, bind_ok] at h
      intro w' b' hm ex o' eb
      subst eb
      subst hm
      exact ⟨w', rfl, ex, o', h.mono ex⟩
  have h1 := hc.run pins s σ H _ I ⟨env, w, e, o, r, hh⟩
  show wpAny _ _ (do if ← isTrue c X.env (eval c X.env) then isTrue a X.env (eval a X.env) else isTrue b X.env (eval b X.env)) _ _ _
  refine wpAny_bind (thn h1 fun d s1 ⟨H1, I1, w1, e1, x1, o1, p1⟩ => ?_)
  cases d with
  | true => exact ha.run pins s1 σ H1 Q I1 ⟨env, w1, e1, o1, r.mono x1, p1⟩
  | false => exact hb.run pins s1 σ H1 Q I1 ⟨env, w1, e1, o1, r.mono x1, p1⟩
end

/-! the look: is a program the copy of a text? -/
def Sx.lk (S : Sx) (x : Str) : Option NameKind := S.sc.names.lookup x
def Sx.vis (S : Sx) (x : Str) : Bool := match S.lk x with
  | some .local => true
  | some .cell => true
  | some .free => true
  | _ => false
def Sx.loc (S : Sx) (x : Str) : Bool := match S.lk x with
  | some .local => true
  | some .cell => S.fn x
  | _ => false
def Sx.gl (S : Sx) (x : Str) : Bool := match S.lk x with
  | some .globalImplicit => true
  | _ => false
def nmOk (x : Str) : Bool := !(x == ("__debug__" : Str)) && !(x == ("__classdict__" : Str)) && decide (x ≠ ("__name__" : Str))
/-- a built-in name -/
def Sx.bn (S : Sx) (x y : Str) : Bool := decide (x = y) && S.gl x && S.noms.contains x && nmOk x
def BI.nm : BI → Str
  | .len => "len"
  | .abs => "abs"
  | .int => "int"
  | .max => "max"
  | .min => "min"
  | .divmod => "divmod"
  | .all => "all"
  | .list => "list"
  | .tuple => "tuple"
  | .sum => "sum"
theorem BI.boot (b : BI) : bootBuiltins b.nm = some b.fn := by cases b <;> decide +kernel
theorem Ty.boot (t : Ty) : bootBuiltins (Str.ofString t.nm) = some (.type t.nm) := by cases t <;> decide +kernel
def noStar : Expr → Bool
  | .Starred _ _ => false
  | _ => true
def plainIx : Expr → Bool
  | .Slice _ _ _ _ => false
  | .Tuple _ _ _ => false
  | .Name _ _ => true
  | .Constant (.int _) _ _ => true
  | .BinOp _ _ _ _ => true
  | .UnaryOp _ _ _ => true
  | .Subscript _ _ _ => true
  | .Call _ _ _ _ => true
  | .Attribute _ _ _ => true
  | .IfExp _ _ _ _ => true
  | _ => false
def Sx.blk (S : Sx) (scope : Scope) : Sx := { S with sc := relS scope S.sc, fn := fun x => scope.names.lookup x == some .cell }
def Sx.own (S : Sx) (own : List Nat) : List (Str × Nat) := own.map fun i => (S.N.getD i "", i)
def Tgs.list : Tgs → List Tg
  | .nil => []
  | .cons t ts => t :: ts.list

mutual
def chkG (S : Sx) : Tg → Expr → Bool
  | .slot i, .Name x _ => decide (S.N[i]? = some x) && S.loc x
  | .tup ts, .Tuple es _ _ => chkGs S ts es
  | _, _ => false
def chkGs (S : Sx) : Tgs → List Expr → Bool
  | .nil, [] => true
  | .cons t ts, e :: es => noStar e && chkG S t e && chkGs S ts es
  | _, _ => false
end

def fresh : Ex → Bool
  | .bin .Mult _ _ => true
  | .bi .list (.cons _ .nil) => true
  | .comp _ _ _ _ _ => true
  | _ => false
def isSlice : Expr → Bool
  | .Slice _ _ none _ => true
  | _ => false
def sLo : Expr → Option Expr
  | .Slice l _ _ _ => l
  | _ => none
def sHi : Expr → Option Expr
  | .Slice _ h _ _ => h
  | _ => none
def isRev : Expr → Bool
  | .Slice none none (some (.UnaryOp .USub (.Constant (.int 1) _ _) _)) _ => true
  | _ => false
def fObj : Expr → Expr
  | .Attribute o _ _ => o
  | e => e
def arg1 : List Expr → Expr
  | [y] => y
  | _ => .Constant .none 0 ⟨0, 0, 0, 0⟩
def cntShape (f : Expr) (xs : List Expr) (ks : List Keyword) (p : Pos) : Bool :=
  match f, xs, ks with
  | .Attribute (.Name _ _) nm ap, [y], [] => decide (nm = "count") && (ap.endLine == p.line) && noStar y
  | _, _, _ => false

mutual
def chkE (S : Sx) : Ex → Expr → Bool
  | .slot i, .Name x _ => decide (S.N[i]? = some x) && S.vis x && nmOk x
  | .cst (.int i), .Constant (.int j) _ _ => decide (i = j)
  | .cst (.bl i), .Constant (.bool j) _ _ => decide (i = j)
  | .cst .non, .Constant .none _ _ => true
  | .cst (.str i), .Constant (.str j) _ _ => decide (i = j) && okS i && decide (i.length ≤ 1000)
  | .bin op a b, .BinOp x op2 y _ => decide (op = op2) && chkE S a x && chkE S b y
  | .neg a, .UnaryOp .USub x _ => chkE S a x
  | .cmp op a b, .Compare x [op2] [y] _ => decide (op = op2) && !(behindInMarks op2 y) && chkE S a x && chkE S b y
  | .cmp2 op op2 a b c, .Compare x [op3, op4] [y, z] _ => decide (op = op3) && decide (op2 = op4) && !(lastMarks [op3, op4] [y, z]) && chkE S a x && chkE S b y && chkE S c z
  | .and_ a b, .BoolOp .And [x, y] _ => chkE S a x && chkE S b y
  | .and_ a b, .BoolOp .And (x :: y :: z :: r) p => chkE S a x && chkE S b (.BoolOp .And (y :: z :: r) p)
  | .or_ a b, .BoolOp .Or [x, y] _ => chkE S a x && chkE S b y
  | .or_ a b, .BoolOp .Or (x :: y :: z :: r) p => chkE S a x && chkE S b (.BoolOp .Or (y :: z :: r) p)
  | .not_ a, .UnaryOp .Not x _ => chkE S a x
  | .ife c a b, .IfExp z x y _ => chkE S c z && chkE S a x && chkE S b y
  | .tup es, .Tuple xs _ _ => chkEs S es xs
  | .lst es, .List xs _ => chkEs S es xs
  | .mk es, .List xs _ => chkEs S es xs
  | .ix a b, .Subscript x y _ => plainIx y && chkE S a x && chkE S b y
  | .call f es, .Call (.Name x _) xs [] _ => decide (f = x) && S.fns.contains x && S.gl x && nmOk x && chkEs S es xs
  | .bi b es, .Call (.Name x _) (e :: xs) [] _ => S.bn x b.nm && chkEs S es (e :: xs)
  | .isi a [t], .Call (.Name x _) [y, .Name z _] [] _ => S.bn x "isinstance" && S.bn z (Str.ofString t.nm) && noStar y && chkE S a y
  | .isi a [t, t2], .Call (.Name x _) [y, .Tuple [.Name z _, .Name z2 _] _ _] [] _ => S.bn x "isinstance" && S.bn z (Str.ofString t.nm) && S.bn z2 (Str.ofString t2.nm) && noStar y && chkE S a y
  | .comp it tg own cs e, .ListComp elt [⟨tgE, iter, ifs, as⟩] scope _ =>
      decide (as = 0) && blkC S.N S.sc scope (S.own own) && (tg.slots.all fun s => own.contains s) && chkI S it iter tgE && chkG (S.blk scope) tg tgE && chkC (S.blk scope) cs ifs && chkE (S.blk scope) e elt
  | .frz e, .Name x p => chkE S e (.Name x p)
  | .sl a lo hi, .Subscript x y _ => isSlice y && chkE S a x && chkO S lo (sLo y) && chkO S hi (sHi y)
  | .rev a, .Subscript x y _ => isRev y && chkE S a x
  | .new e, x => fresh e && chkE S e x
  | .lcnt a b, .Call f xs ks p => cntShape f xs ks p && chkE S a (fObj f) && chkE S b (arg1 xs)
  | .frz e, .Call f xs ks p => chkE S e (.Call f xs ks p)
  | _, _ => false
def chkEs (S : Sx) : Exs → List Expr → Bool
  | .nil, [] => true
  | .cons e es, x :: xs => noStar x && chkE S e x && chkEs S es xs
  | _, _ => false
def chkC (S : Sx) : Exs → List Expr → Bool
  | .nil, [] => true
  | .cons e .nil, [x] => chkE S e x
  | _, _ => false
def chkO (S : Sx) : Exs → Option Expr → Bool
  | .nil, none => true
  | .cons e .nil, some x => chkE S e x
  | _, _ => false
/-- what is walked, and the target -/
def chkI (S : Sx) : It → Expr → Expr → Bool
  | .seq e, .Name x p, _ => chkE S e (.Name x p)
  | .seq e, .Call f xs ks p, _ => chkE S e (.Call f xs ks p)
  | .seq e, .List xs p, _ => chkE S e (.List xs p)
  | .seq e, .Tuple xs k p, _ => chkE S e (.Tuple xs k p)
  | .seq e, .Subscript x y p, _ => chkE S e (.Subscript x y p)
  | .seq e, .ListComp x y z p, _ => chkE S e (.ListComp x y z p)
  | .seq e, .BinOp x y z p, _ => chkE S e (.BinOp x y z p)
  | .seq e, .IfExp x y z p, _ => chkE S e (.IfExp x y z p)
  | .rng1 e, .Call (.Name x _) [y] [] _, _ => S.bn x "range" && noStar y && chkE S e y
  | .rng2 e e2, .Call (.Name x _) [y, z] [] _, _ => S.bn x "range" && noStar y && noStar z && chkE S e y && chkE S e2 z
  | .enm e, .Call (.Name x _) [y] [] _, .Tuple _ _ _ => S.bn x "enumerate" && noStar y && chkE S e y
  | .zip e e2, .Call (.Name x _) [y, z] [] _, .Tuple _ _ _ => S.bn x "zip" && noStar y && noStar z && chkE S e y && chkE S e2 z
  | _, _, _ => false
end
end VI
set_option maxHeartbeats 4000000
namespace VI
open PySem PySem.Spec PyProof.Rows L2
abbrev GoodE (i : Ex) (e : Expr) (X : Cx) (F : Oracle) : Prop := PE X e (tI X.K F i) ∧ PT X e (tIb X.K F i) ∧ (∀ op vs p, e = .BoolOp op vs p → PW X e (tIb X.K F i))
section
variable {S : Sx} {k : Nat} {F : Oracle} {X : Cx}
theorem vis_of (g : Gd S k F X) {x : Str} (h : S.vis x = true) : Vis X.env.scope x := by
  unfold Sx.vis Sx.lk at h
  rw [Vis, g.sc]
  split at h
  · rename_i e; exact .inl e
  · rename_i e; exact .inr (.inl e)
  · rename_i e; exact .inr (.inr e)
  · cases h
theorem loc_of (g : Gd S k F X) {x : Str} (h : S.loc x = true) : L2.Loc X.env.scope x ∧ (X.fn x = true ∨ X.env.scope.names.lookup x = some .local) := by
  unfold Sx.loc Sx.lk at h
  rw [L2.Loc, g.sc]
  split at h
  · rename_i e; exact ⟨.inl e, .inr e⟩
  · rename_i e; exact ⟨.inr e, .inl (g.fn x h)⟩
  · cases h
theorem gl_of (g : Gd S k F X) {x : Str} (h : S.gl x = true) : Gl X x := by
  unfold Sx.gl Sx.lk at h
  show X.env.scope.names.lookup x = _
  rw [g.sc]
  split at h
  · rename_i e; exact e
  · cases h
theorem nm_of {x : Str} (h : nmOk x = true) : (x == ("__debug__" : Str)) = false ∧ (x == ("__classdict__" : Str)) = false ∧ x ≠ "__name__" := by
  unfold nmOk at h
  simp only [Bool.and_eq_true, Bool.not_eq_true', decide_eq_true_eq] at h
  exact ⟨h.1.1, h.1.2, h.2⟩
theorem bn_of (g : Gd S k F X) {x y : Str} (h : S.bn x y = true) : x = y ∧ Gl X x ∧ X.mg x = none ∧ (x == ("__debug__" : Str)) = false ∧ x ≠ "__name__" := by
  unfold Sx.bn at h
  simp only [Bool.and_eq_true, decide_eq_true_eq, List.contains_iff_mem] at h
  obtain ⟨⟨⟨h1, h2⟩, h3⟩, h4⟩ := h
  exact ⟨h1, gl_of g h2, g.noms x h3, (nm_of h4).1, (nm_of h4).2.2⟩
theorem star_of {e : Expr} (h : noStar e = true) (es : List Expr) (env : PySem.Env) : starEach (e :: es) env = (false, eval e env) :: starEach es env := by
  cases e <;> first | rfl | (simp only [noStar, Bool.false_eq_true] at h)
theorem astar_of {e : Expr} (h : noStar e = true) (es : List Expr) (env : PySem.Env) : assignEach (e :: es) env = (false, assign e env) :: assignEach es env := by
  cases e <;> first | rfl | (simp only [noStar, Bool.false_eq_true] at h)
theorem plain_of {e : Expr} (h : plainIx e = true) : PlainIx e := by
  intro o i
  cases e with
  | Constant c j p => cases c <;> first | rfl | (simp only [plainIx, Bool.false_eq_true] at h)
  | _ => first | rfl | (simp only [plainIx, Bool.false_eq_true] at h)
theorem Gd.blk (g : Gd S k F X) {s : Shared} {H : Hp} {scope : Scope} {cl : List (Str × Addr)} {C : Addr} {fp : List Addr} (hk : scope.kind = .function) : Gd (S.blk scope) k F (X.blk s H scope (compEnvC scope cl C X.env) fp) := by
  refine ⟨g.calm, g.N, g.nd, ?_, fun x h => h, g.room, rfl, g.noms, g.fns, ?_⟩
  · show relS scope X.env.scope = _
    rw [g.sc]
    rfl
  · exact hk
theorem good_of {e : Expr} {i : Ex} (h : PE X e (tI X.K F i)) (he : ∀ whole, isTrue e X.env whole = (do let v ← whole; standAt e.pos; holding [v] (truthy v))) (hb : ∀ op vs p, e ≠ .BoolOp op vs p) : GoodE i e X F :=
  ⟨h, s_tru h he, fun op vs p q => absurd q (hb op vs p)⟩
end

theorem stars_of {S : Sx} : ∀ {is : Exs} {es : List Expr} {p : Pos} {env : PySem.Env}, chkEs S is es = true → (backTo p (starEach es env)).any (·.1) = false := by
  have key : ∀ (es : List Expr) (env : PySem.Env), (∀ e ∈ es, noStar e = true) → (starEach es env).all (fun q => !q.1) = true := by
    intro es env
    induction es with
    | nil => intro _; rfl
    | cons e es ih =>
      intro h
      rw [star_of (h e List.mem_cons_self) es env, List.all_cons, ih fun x hx => h x (List.mem_cons_of_mem _ hx)]
      rfl
  have key2 : ∀ (is : Exs) (es : List Expr), chkEs S is es = true → ∀ e ∈ es, noStar e = true := by
    intro is es
    induction es generalizing is with
    | nil => intro _ e he; cases he
    | cons x es ih =>
      intro h e he
      cases is with
      | nil => simp only [chkEs, Bool.false_eq_true, reduceCtorEq] at h
      | cons i is =>
        simp only [chkEs, Bool.and_eq_true] at h
        rcases List.mem_cons.mp he with rfl | he
        · exact h.1.1
        · exact ih is h.2 e he
  intro is es p env h
  have h1 := key es env (key2 is es h)
  have h2 : ∀ l : List (Bool × Sem Value), l.all (fun q => !q.1) = true → (backTo p l).any (·.1) = false := by
    intro l hl
    rw [List.any_eq_false]
    intro q hq
    obtain ⟨⟨b, t⟩, h1, rfl⟩ := List.mem_map.mp hq
    have := List.all_eq_true.mp hl _ h1
    simpa using this
  exact h2 _ h1
mutual
theorem okG : ∀ (t : Tg) (S : Sx) (e : Expr), chkG S t e = true → ∀ {k : Nat} {F : Oracle} {X : Cx}, Gd S k F X → PG X e (gI X.K t)
  | .slot i, S, e, h, k, F, X, g => by
    cases e <;> simp only [chkG, Bool.false_eq_true, reduceCtorEq] at h
    simp only [Bool.and_eq_true, decide_eq_true_eq] at h
    obtain ⟨h1, h2⟩ := loc_of g h.2
    exact g_slot g.nd (by rw [g.N]; exact h.1) h1 h2
  | .tup ts, S, e, h, k, F, X, g => by
    cases e <;> simp only [chkG, Bool.false_eq_true, reduceCtorEq] at h
    obtain ⟨h1, h2, h3⟩ := okGs ts S _ h g
    exact g_tup g.calm h1 h2 h3
theorem okGs : ∀ (ts : Tgs) (S : Sx) (es : List Expr), chkGs S ts es = true → ∀ {k : Nat} {F : Oracle} {X : Cx}, Gd S k F X → PGs X es (gIs X.K ts) ∧ (assignEach es X.env).length = ts.len ∧ (assignEach es X.env).findIdx? (·.1) = none
  | .nil, S, es, h, k, F, X, g => by
    cases es <;> simp only [chkGs, Bool.false_eq_true, reduceCtorEq] at h
    exact ⟨g_nil, rfl, rfl⟩
  | .cons t ts, S, es, h, k, F, X, g => by
    cases es <;> simp only [chkGs, Bool.false_eq_true, reduceCtorEq] at h
    rename_i e es
    simp only [Bool.and_eq_true] at h
    obtain ⟨h1, h2, h3⟩ := okGs ts S es h.2 g
    have ha := astar_of h.1.1 es X.env
    refine ⟨g_cons (okG t S e h.1.2 g) h1 (by rw [ha]; rfl), by rw [ha, List.length_cons, h2]; rfl, ?_⟩
    rw [ha, List.findIdx?_cons, h3]
    rfl
end

theorem inv_neg {S : Sx} {a : Ex} {e : Expr} (h : chkE S (.neg a) e = true) : ∃ x p, e = .UnaryOp .USub x p ∧ chkE S a x = true := by
  cases e
  case UnaryOp op x p =>
    cases op <;> simp only [chkE, Bool.false_eq_true, reduceCtorEq] at h
    exact ⟨_, _, rfl, h⟩
  all_goals simp only [chkE, Bool.false_eq_true, reduceCtorEq] at h
theorem inv_not {S : Sx} {a : Ex} {e : Expr} (h : chkE S (.not_ a) e = true) : ∃ x p, e = .UnaryOp .Not x p ∧ chkE S a x = true := by
  cases e
  case UnaryOp op x p =>
    cases op <;> simp only [chkE, Bool.false_eq_true, reduceCtorEq] at h
    exact ⟨_, _, rfl, h⟩
  all_goals simp only [chkE, Bool.false_eq_true, reduceCtorEq] at h
theorem inv_cst {S : Sx} {d : D} {e : Expr} (h : chkE S (.cst d) e = true) : (d = .non ∧ ∃ k p, e = .Constant .none k p) ∨ (∃ b k p, d = .bl b ∧ e = .Constant (.bool b) k p) ∨ (∃ b k p, d = .int b ∧ e = .Constant (.int b) k p) ∨ (∃ b k p, d = .str b ∧ e = .Constant (.str b) k p ∧ okS b = true ∧ b.length ≤ 1000) := by
  cases e
  case Constant c k p =>
    cases d <;> cases c <;> simp only [chkE, Bool.false_eq_true, reduceCtorEq] at h
    · exact .inl ⟨rfl, _, _, rfl⟩
    · simp only [decide_eq_true_eq] at h
      subst h
      exact .inr (.inl ⟨_, _, _, rfl, rfl⟩)
    · simp only [decide_eq_true_eq] at h
      subst h
      exact .inr (.inr (.inl ⟨_, _, _, rfl, rfl⟩))
    · simp only [Bool.and_eq_true, decide_eq_true_eq] at h
      obtain ⟨⟨h1, h2⟩, h3⟩ := h
      subst h1
      exact .inr (.inr (.inr ⟨_, _, _, rfl, rfl, h2, h3⟩))
  all_goals cases d <;> simp only [chkE, Bool.false_eq_true, reduceCtorEq] at h
theorem inv_cmp {S : Sx} {op : CmpOp} {a b : Ex} {e : Expr} (h : chkE S (.cmp op a b) e = true) : ∃ x y p, e = .Compare x [op] [y] p ∧ behindInMarks op y = false ∧ chkE S a x = true ∧ chkE S b y = true := by
  cases e
  case Compare x ops cs p =>
    rcases ops with _ | ⟨o1, _ | ⟨o2, os⟩⟩ <;> rcases cs with _ | ⟨c1, _ | ⟨c2, cs⟩⟩ <;> simp only [chkE, Bool.false_eq_true, reduceCtorEq] at h
    simp only [Bool.and_eq_true, decide_eq_true_eq, Bool.not_eq_true'] at h
    obtain ⟨⟨⟨h1, h2⟩, h3⟩, h4⟩ := h
    subst h1
    exact ⟨_, _, _, rfl, h2, h3, h4⟩
  all_goals simp only [chkE, Bool.false_eq_true, reduceCtorEq] at h
theorem inv_cmp2 {S : Sx} {op op2 : CmpOp} {a b c : Ex} {e : Expr} (h : chkE S (.cmp2 op op2 a b c) e = true) : ∃ x y z p, e = .Compare x [op, op2] [y, z] p ∧ lastMarks [op, op2] [y, z] = false ∧ chkE S a x = true ∧ chkE S b y = true ∧ chkE S c z = true := by
  cases e
  case Compare x ops cs p =>
    rcases ops with _ | ⟨o1, _ | ⟨o2, _ | ⟨o3, os⟩⟩⟩ <;> rcases cs with _ | ⟨c1, _ | ⟨c2, _ | ⟨c3, cs⟩⟩⟩ <;> simp only [chkE, Bool.false_eq_true, reduceCtorEq] at h
    simp only [Bool.and_eq_true, decide_eq_true_eq, Bool.not_eq_true'] at h
    obtain ⟨⟨⟨⟨⟨h1, h2⟩, h3⟩, h4⟩, h5⟩, h6⟩ := h
    subst h1
    subst h2
    exact ⟨_, _, _, _, rfl, h3, h4, h5, h6⟩
  all_goals simp only [chkE, Bool.false_eq_true, reduceCtorEq] at h
theorem inv_and {S : Sx} {a b : Ex} {e : Expr} (h : chkE S (.and_ a b) e = true) : (∃ x y p, e = .BoolOp .And [x, y] p ∧ chkE S a x = true ∧ chkE S b y = true) ∨ (∃ x y z r p, e = .BoolOp .And (x :: y :: z :: r) p ∧ chkE S a x = true ∧ chkE S b (.BoolOp .And (y :: z :: r) p) = true) := by
  cases e
  case BoolOp op vs p =>
    cases op <;> rcases vs with _ | ⟨x, _ | ⟨y, _ | ⟨z, r⟩⟩⟩ <;> simp only [chkE, Bool.false_eq_true, reduceCtorEq] at h
    · simp only [Bool.and_eq_true] at h
      exact .inl ⟨_, _, _, rfl, h⟩
    · simp only [Bool.and_eq_true] at h
      exact .inr ⟨_, _, _, _, _, rfl, h⟩
  all_goals simp only [chkE, Bool.false_eq_true, reduceCtorEq] at h
theorem inv_or {S : Sx} {a b : Ex} {e : Expr} (h : chkE S (.or_ a b) e = true) : (∃ x y p, e = .BoolOp .Or [x, y] p ∧ chkE S a x = true ∧ chkE S b y = true) ∨ (∃ x y z r p, e = .BoolOp .Or (x :: y :: z :: r) p ∧ chkE S a x = true ∧ chkE S b (.BoolOp .Or (y :: z :: r) p) = true) := by
  cases e
  case BoolOp op vs p =>
    cases op <;> rcases vs with _ | ⟨x, _ | ⟨y, _ | ⟨z, r⟩⟩⟩ <;> simp only [chkE, Bool.false_eq_true, reduceCtorEq] at h
    · simp only [Bool.and_eq_true] at h
      exact .inl ⟨_, _, _, rfl, h⟩
    · simp only [Bool.and_eq_true] at h
      exact .inr ⟨_, _, _, _, _, rfl, h⟩
  all_goals simp only [chkE, Bool.false_eq_true, reduceCtorEq] at h
theorem inv_call {S : Sx} {f : Str} {es : Exs} {e : Expr} (h : chkE S (.call f es) e = true) : ∃ x px xs p, e = .Call (.Name x px) xs [] p ∧ f = x ∧ S.fns.contains x = true ∧ S.gl x = true ∧ nmOk x = true ∧ chkEs S es xs = true := by
  cases e
  case Call fe xs ks p =>
    cases fe
    case Name x px =>
      cases ks <;> simp only [chkE, Bool.false_eq_true, reduceCtorEq] at h
      simp only [Bool.and_eq_true, decide_eq_true_eq] at h
      obtain ⟨⟨⟨⟨h1, h2⟩, h3⟩, h4⟩, h5⟩ := h
      exact ⟨_, _, _, _, rfl, h1, h2, h3, h4, h5⟩
    all_goals simp only [chkE, Bool.false_eq_true, reduceCtorEq] at h
  all_goals simp only [chkE, Bool.false_eq_true, reduceCtorEq] at h
theorem inv_bi {S : Sx} {b : BI} {es : Exs} {e : Expr} (h : chkE S (.bi b es) e = true) : ∃ x px y xs p, e = .Call (.Name x px) (y :: xs) [] p ∧ S.bn x b.nm = true ∧ chkEs S es (y :: xs) = true := by
  cases e
  case Call fe xs ks p =>
    cases fe
    case Name x px =>
      cases ks <;> cases xs <;> simp only [chkE, Bool.false_eq_true, reduceCtorEq] at h
      simp only [Bool.and_eq_true] at h
      exact ⟨_, _, _, _, _, rfl, h⟩
    all_goals simp only [chkE, Bool.false_eq_true, reduceCtorEq] at h
  all_goals simp only [chkE, Bool.false_eq_true, reduceCtorEq] at h
theorem inv_isi1 {S : Sx} {a : Ex} {t : Ty} {e : Expr} (h : chkE S (.isi a [t]) e = true) : ∃ x px y z pz p, e = .Call (.Name x px) [y, .Name z pz] [] p ∧ S.bn x "isinstance" = true ∧ S.bn z (Str.ofString t.nm) = true ∧ noStar y = true ∧ chkE S a y = true := by
  cases e
  case Call fe xs ks p =>
    cases fe
    case Name x px =>
      rcases xs with _ | ⟨y, _ | ⟨z, _ | ⟨z2, xs⟩⟩⟩
      case cons.cons.nil =>
        cases z
        case Name z pz =>
          cases ks <;> simp only [chkE, Bool.false_eq_true, reduceCtorEq] at h
          simp only [Bool.and_eq_true] at h
          obtain ⟨⟨⟨h1, h2⟩, h3⟩, h4⟩ := h
          exact ⟨_, _, _, _, _, _, rfl, h1, h2, h3, h4⟩
        all_goals simp only [chkE, Bool.false_eq_true, reduceCtorEq] at h
      all_goals simp only [chkE, Bool.false_eq_true, reduceCtorEq] at h
    all_goals simp only [chkE, Bool.false_eq_true, reduceCtorEq] at h
  all_goals simp only [chkE, Bool.false_eq_true, reduceCtorEq] at h
theorem inv_isi2 {S : Sx} {a : Ex} {t t2 : Ty} {e : Expr} (h : chkE S (.isi a [t, t2]) e = true) : ∃ x px y z pz z2 pz2 k pt p, e = .Call (.Name x px) [y, .Tuple [.Name z pz, .Name z2 pz2] k pt] [] p ∧ S.bn x "isinstance" = true ∧ S.bn z (Str.ofString t.nm) = true ∧ S.bn z2 (Str.ofString t2.nm) = true ∧ noStar y = true ∧ chkE S a y = true := by
  cases e
  case Call fe xs ks p =>
    cases fe
    case Name x px =>
      rcases xs with _ | ⟨y, _ | ⟨z, _ | ⟨z2, xs⟩⟩⟩
      case cons.cons.nil =>
        cases z
        case Tuple zs zk zp =>
          rcases zs with _ | ⟨z1, _ | ⟨z2, _ | ⟨z3, zs⟩⟩⟩
          case cons.cons.nil =>
            cases z1
            case Name z pz =>
              cases z2
              case Name z2 pz2 =>
                cases ks <;> simp only [chkE, Bool.false_eq_true, reduceCtorEq] at h
                simp only [Bool.and_eq_true] at h
                obtain ⟨⟨⟨⟨h1, h2⟩, h5⟩, h3⟩, h4⟩ := h
                exact ⟨_, _, _, _, _, _, _, _, _, _, rfl, h1, h2, h5, h3, h4⟩
              all_goals simp only [chkE, Bool.false_eq_true, reduceCtorEq] at h
            all_goals simp only [chkE, Bool.false_eq_true, reduceCtorEq] at h
          all_goals simp only [chkE, Bool.false_eq_true, reduceCtorEq] at h
        all_goals simp only [chkE, Bool.false_eq_true, reduceCtorEq] at h
      all_goals simp only [chkE, Bool.false_eq_true, reduceCtorEq] at h
    all_goals simp only [chkE, Bool.false_eq_true, reduceCtorEq] at h
  all_goals simp only [chkE, Bool.false_eq_true, reduceCtorEq] at h
theorem inv_comp {S : Sx} {it : It} {tg : Tg} {own : List Nat} {cs : Exs} {i : Ex} {e : Expr} (h : chkE S (.comp it tg own cs i) e = true) : ∃ elt tgE iter ifs scope p, e = .ListComp elt [⟨tgE, iter, ifs, 0⟩] scope p ∧ blkC S.N S.sc scope (S.own own) = true ∧ (tg.slots.all fun s => own.contains s) = true ∧ chkI S it iter tgE = true ∧ chkG (S.blk scope) tg tgE = true ∧ chkC (S.blk scope) cs ifs = true ∧ chkE (S.blk scope) i elt = true := by
  cases e
  case ListComp elt gens scope p =>
    rcases gens with _ | ⟨⟨tgE, iter, ifs, as⟩, _ | ⟨g2, gens⟩⟩ <;> simp only [chkE, Bool.false_eq_true, reduceCtorEq] at h
    simp only [Bool.and_eq_true, decide_eq_true_eq] at h
    obtain ⟨⟨⟨⟨⟨⟨h0, h1⟩, h2⟩, h3⟩, h4⟩, h5⟩, h6⟩ := h
    subst h0
    exact ⟨_, _, _, _, _, _, rfl, h1, h2, h3, h4, h5, h6⟩
  all_goals simp only [chkE, Bool.false_eq_true, reduceCtorEq] at h
theorem inv_rng1 {S : Sx} {i : Ex} {e tg : Expr} (h : chkI S (.rng1 i) e tg = true) : ∃ x px y p, e = .Call (.Name x px) [y] [] p ∧ S.bn x "range" = true ∧ noStar y = true ∧ chkE S i y = true := by
  cases e
  case Call fe xs ks p =>
    cases fe
    case Name x px =>
      rcases xs with _ | ⟨y, _ | ⟨z, xs⟩⟩ <;> cases ks <;> simp only [chkI, Bool.false_eq_true, reduceCtorEq] at h
      simp only [Bool.and_eq_true] at h
      exact ⟨_, _, _, _, rfl, h.1.1, h.1.2, h.2⟩
    all_goals simp only [chkI, Bool.false_eq_true, reduceCtorEq] at h
  all_goals simp only [chkI, Bool.false_eq_true, reduceCtorEq] at h
theorem inv_rng2 {S : Sx} {i j : Ex} {e tg : Expr} (h : chkI S (.rng2 i j) e tg = true) : ∃ x px y z p, e = .Call (.Name x px) [y, z] [] p ∧ S.bn x "range" = true ∧ noStar y = true ∧ noStar z = true ∧ chkE S i y = true ∧ chkE S j z = true := by
  cases e
  case Call fe xs ks p =>
    cases fe
    case Name x px =>
      rcases xs with _ | ⟨y, _ | ⟨z, _ | ⟨z2, xs⟩⟩⟩ <;> cases ks <;> simp only [chkI, Bool.false_eq_true, reduceCtorEq] at h
      simp only [Bool.and_eq_true] at h
      exact ⟨_, _, _, _, _, rfl, h.1.1.1.1, h.1.1.1.2, h.1.1.2, h.1.2, h.2⟩
    all_goals simp only [chkI, Bool.false_eq_true, reduceCtorEq] at h
  all_goals simp only [chkI, Bool.false_eq_true, reduceCtorEq] at h
theorem inv_enm {S : Sx} {i : Ex} {e tg : Expr} (h : chkI S (.enm i) e tg = true) : ∃ x px y p es k pt, e = .Call (.Name x px) [y] [] p ∧ tg = .Tuple es k pt ∧ S.bn x "enumerate" = true ∧ noStar y = true ∧ chkE S i y = true := by
  cases e
  case Call fe xs ks p =>
    cases fe
    case Name x px =>
      rcases xs with _ | ⟨y, _ | ⟨z, xs⟩⟩ <;> cases ks <;> cases tg <;> simp only [chkI, Bool.false_eq_true, reduceCtorEq] at h
      simp only [Bool.and_eq_true] at h
      exact ⟨_, _, _, _, _, _, _, rfl, rfl, h.1.1, h.1.2, h.2⟩
    all_goals simp only [chkI, Bool.false_eq_true, reduceCtorEq] at h
  all_goals simp only [chkI, Bool.false_eq_true, reduceCtorEq] at h

theorem inv_zip {S : Sx} {i j : Ex} {e tg : Expr} (h : chkI S (.zip i j) e tg = true) : ∃ x px y z p es k pt, e = .Call (.Name x px) [y, z] [] p ∧ tg = .Tuple es k pt ∧ S.bn x "zip" = true ∧ noStar y = true ∧ noStar z = true ∧ chkE S i y = true ∧ chkE S j z = true := by
  cases e
  case Call fe xs ks p =>
    cases fe
    case Name x px =>
      rcases xs with _ | ⟨y, _ | ⟨z, _ | ⟨z2, xs⟩⟩⟩ <;> cases ks <;> cases tg <;> simp only [chkI, Bool.false_eq_true, reduceCtorEq] at h
      simp only [Bool.and_eq_true] at h
      exact ⟨_, _, _, _, _, _, _, _, rfl, rfl, h.1.1.1.1, h.1.1.1.2, h.1.1.2, h.1.2, h.2⟩
    all_goals simp only [chkI, Bool.false_eq_true, reduceCtorEq] at h
  all_goals simp only [chkI, Bool.false_eq_true, reduceCtorEq] at h
theorem inv_fresh {i : Ex} (h : fresh i = true) : (∃ a b, i = .bin .Mult a b) ∨ (∃ a, i = .bi .list (.cons a .nil)) ∨ (∃ it tg own cs e, i = .comp it tg own cs e) := by
  unfold fresh at h
  split at h
  · exact .inl ⟨_, _, rfl⟩
  · exact .inr (.inl ⟨_, rfl⟩)
  · exact .inr (.inr ⟨_, _, _, _, _, rfl⟩)
  · cases h
theorem list_boot : bootBuiltins "list" = some (.type "list") := BI.boot .list
theorem inv_slice {y : Expr} (h : isSlice y = true) : ∃ l u p, y = .Slice l u none p ∧ sLo y = l ∧ sHi y = u := by
  unfold isSlice at h
  split at h
  · exact ⟨_, _, _, rfl, rfl, rfl⟩
  · cases h
theorem inv_rev {y : Expr} (h : isRev y = true) : ∃ k p1 p2 p3, y = .Slice none none (some (.UnaryOp .USub (.Constant (.int 1) k p1) p2)) p3 := by
  unfold isRev at h
  split at h
  · exact ⟨_, _, _, _, rfl⟩
  · cases h
theorem inv_cnt {f : Expr} {xs : List Expr} {ks : List Keyword} {p : Pos} (h : cntShape f xs ks p = true) : ∃ n pn ap y, f = .Attribute (.Name n pn) "count" ap ∧ xs = [y] ∧ ks = [] ∧ (ap.endLine == p.line) = true ∧ noStar y = true := by
  unfold cntShape at h
  split at h
  · simp only [Bool.and_eq_true, decide_eq_true_eq] at h
    obtain ⟨⟨h1, h2⟩, h3⟩ := h
    subst h1
    exact ⟨_, _, _, _, rfl, rfl, rfl, h2, h3⟩
  · cases h

mutual
theorem okE : ∀ (i : Ex) (S : Sx) (e : Expr), chkE S i e = true → ∀ {k : Nat} {F : Oracle} {X : Cx}, Gd S k F X → GoodE i e X F
  | .slot i, S, e, h, k, F, X, g => by
    cases e <;> simp only [chkE, Bool.false_eq_true, reduceCtorEq] at h
    simp only [Bool.and_eq_true, decide_eq_true_eq] at h
    obtain ⟨⟨h1, h2⟩, h3⟩ := h
    exact good_of (s_slot (by rw [g.N]; exact h1) (vis_of g h2) (nm_of h3).1 (nm_of h3).2.1) (fun _ => rfl) (fun _ _ _ q => by cases q)
  | .cst d, S, e, h, k, F, X, g => by
    rcases inv_cst h with ⟨rfl, _, _, rfl⟩ | ⟨_, _, _, rfl, rfl⟩ | ⟨_, _, _, rfl, rfl⟩ | ⟨_, _, _, rfl, rfl, h2, h3⟩
    · exact good_of (s_cst pe_non fun w => by rw [RepD]) (fun _ => rfl) (fun _ _ _ q => by cases q)
    · exact good_of (s_cst pe_bl fun w => by rw [RepD]) (fun _ => rfl) (fun _ _ _ q => by cases q)
    · exact good_of (s_cst pe_int fun w => by rw [RepD]) (fun _ => rfl) (fun _ _ _ q => by cases q)
    · exact good_of (s_cst pe_str fun w => by rw [RepD]; exact ⟨rfl, h2, Nat.le_trans h3 (by decide)⟩) (fun _ => rfl) (fun _ _ _ q => by cases q)
  | .bin op a b, S, e, h, k, F, X, g => by
    cases e <;> simp only [chkE, Bool.false_eq_true, reduceCtorEq] at h
    simp only [Bool.and_eq_true, decide_eq_true_eq] at h
    obtain ⟨⟨h1, h2⟩, h3⟩ := h
    subst h1
    exact good_of (s_bin (okE a S _ h2 g).1 (okE b S _ h3 g).1) (fun _ => rfl) (fun _ _ _ q => by cases q)
  | .neg a, S, e, h, k, F, X, g => by
    obtain ⟨x, p, rfl, h⟩ := inv_neg h
    exact good_of (s_neg (okE a S _ h g).1) (fun _ => rfl) (fun _ _ _ q => by cases q)
  | .cmp op a b, S, e, h, k, F, X, g => by
    obtain ⟨x, y, p, rfl, h2, h3, h4⟩ := inv_cmp h
    exact ⟨s_cmp g.hu h2 (okE a S _ h3 g).1 (okE b S _ h4 g).1, s_cmpT g.hu h2 (okE a S _ h3 g).1 (okE b S _ h4 g).1, fun _ _ _ q => by cases q⟩
  | .cmp2 op op2 a b c, S, e, h, k, F, X, g => by
    obtain ⟨x, y, z, p, rfl, h3, h4, h5, h6⟩ := inv_cmp2 h
    exact ⟨s_cmp2 g.hu h3 (okE a S _ h4 g).1 (okE b S _ h5 g).1 (okE c S _ h6 g).1, s_cmp2T g.hu h3 (okE a S _ h4 g).1 (okE b S _ h5 g).1 (okE c S _ h6 g).1, fun _ _ _ q => by cases q⟩
  | .and_ a b, S, e, h, k, F, X, g => by
    rcases inv_and h with ⟨x, y, p, rfl, h1, h2⟩ | ⟨x, y, z, r, p, rfl, h1, h2⟩
    · obtain ⟨a1, a2, _⟩ := okE a S x h1 g
      obtain ⟨b1, b2, _⟩ := okE b S y h2 g
      have w := s_andT (pos := p) a2 (s_oneT (op := .And) b2)
      exact ⟨s_and a1 (s_one b1), w.pt, fun _ _ _ q => w⟩
    · obtain ⟨a1, a2, _⟩ := okE a S x h1 g
      obtain ⟨b1, b2, b3⟩ := okE b S _ h2 g
      have w := s_andT (pos := p) a2 (b3 _ _ _ rfl)
      exact ⟨s_and a1 b1, w.pt, fun _ _ _ _ => w⟩
  | .or_ a b, S, e, h, k, F, X, g => by
    rcases inv_or h with ⟨x, y, p, rfl, h1, h2⟩ | ⟨x, y, z, r, p, rfl, h1, h2⟩
    · obtain ⟨a1, a2, _⟩ := okE a S x h1 g
      obtain ⟨b1, b2, _⟩ := okE b S y h2 g
      have w := s_orT (pos := p) a2 (s_oneT (op := .Or) b2)
      exact ⟨s_or a1 (s_one b1), w.pt, fun _ _ _ q => w⟩
    · obtain ⟨a1, a2, _⟩ := okE a S x h1 g
      obtain ⟨b1, b2, b3⟩ := okE b S _ h2 g
      have w := s_orT (pos := p) a2 (b3 _ _ _ rfl)
      exact ⟨s_or a1 b1, w.pt, fun _ _ _ _ => w⟩
  | .not_ a, S, e, h, k, F, X, g => by
    obtain ⟨x, p, rfl, h⟩ := inv_not h
    obtain ⟨a1, a2, _⟩ := okE a S x h g
    exact ⟨s_not a1, s_notT a2, fun _ _ _ q => by cases q⟩
  | .ife c a b, S, e, h, k, F, X, g => by
    cases e <;> simp only [chkE, Bool.false_eq_true, reduceCtorEq] at h
    simp only [Bool.and_eq_true] at h
    obtain ⟨c1, c2, _⟩ := okE c S _ h.1.1 g
    obtain ⟨a1, a2, _⟩ := okE a S _ h.1.2 g
    obtain ⟨b1, b2, _⟩ := okE b S _ h.2 g
    exact ⟨s_ife c2 a1 b1, s_ifeT c2 a2 b2, fun _ _ _ q => by cases q⟩
  | .tup es, S, e, h, k, F, X, g => by
    cases e <;> simp only [chkE, Bool.false_eq_true, reduceCtorEq] at h
    exact good_of (s_tup (okEs es S _ h g)) (fun _ => rfl) (fun _ _ _ q => by cases q)
  | .lst es, S, e, h, k, F, X, g => by
    cases e <;> simp only [chkE, Bool.false_eq_true, reduceCtorEq] at h
    exact good_of (s_lst (okEs es S _ h g)) (fun _ => rfl) (fun _ _ _ q => by cases q)
  | .mk es, S, e, h, k, F, X, g => by
    cases e <;> simp only [chkE, Bool.false_eq_true, reduceCtorEq] at h
    exact good_of (s_mk (okEs es S _ h g)) (fun _ => rfl) (fun _ _ _ q => by cases q)
  | .ix a b, S, e, h, k, F, X, g => by
    cases e <;> simp only [chkE, Bool.false_eq_true, reduceCtorEq] at h
    simp only [Bool.and_eq_true] at h
    exact good_of (s_ix (okE a S _ h.1.2 g).1 (okE b S _ h.2 g).1 (plain_of h.1.1)) (fun _ => rfl) (fun _ _ _ q => by cases q)
  | .call f es, S, e, h, k, F, X, g => by
    obtain ⟨x, px, xs, p, rfl, h1, h2, h3, h4, h5⟩ := inv_call h
    subst h1
    have hk := g.fns f (List.contains_iff_mem.mp h2)
    have hpa := okEs es S xs h5 g
    have hpl := stars_of (p := p) (env := X.env) h5
    cases es with
    | nil =>
      cases xs with
      | nil => exact good_of (s_call0 hk g.room (gl_of g h3) (nm_of h4).1) (fun _ => rfl) (fun _ _ _ q => by cases q)
      | cons => simp only [chkEs, Bool.false_eq_true, reduceCtorEq] at h5
    | cons i is =>
      cases xs with
      | nil => simp only [chkEs, Bool.false_eq_true, reduceCtorEq] at h5
      | cons e es =>
        simp only [chkEs, Bool.and_eq_true] at h5
        have hse := star_of h5.1.1 es X.env
        rw [hse] at hpl
        exact good_of (s_call hk g.room (gl_of g h3) (nm_of h4).1 hpa hse hpl) (fun _ => rfl) (fun _ _ _ q => by cases q)
  | .bi b es, S, e, h, k, F, X, g => by
    obtain ⟨x, px, y, xs, p, rfl, h1, h2⟩ := inv_bi h
    obtain ⟨q1, q2, q3, q4, q5⟩ := bn_of g h1
    have hpa := okEs es S _ h2 g
    have hpl := stars_of (p := p) (env := X.env) h2
    cases es with
    | nil => simp only [chkEs, Bool.false_eq_true, reduceCtorEq] at h2
    | cons i is =>
      simp only [chkEs, Bool.and_eq_true] at h2
      have hse := star_of h2.1.1 xs X.env
      rw [hse] at hpl
      exact good_of (s_bi g.calm q2 q3 (by rw [q1]; exact b.boot) hpa q5 q4 hse hpl) (fun _ => rfl) (fun _ _ _ q => by cases q)
  | .isi a [], S, e, h, k, F, X, g => by
    cases e <;> simp only [chkE, Bool.false_eq_true, reduceCtorEq] at h
  | .isi a [t], S, e, h, k, F, X, g => by
    obtain ⟨x, px, y, z, pz, p, rfl, h1, h2, h3, h4⟩ := inv_isi1 h
    obtain ⟨q1, q2, q3, q4, q5⟩ := bn_of g h1
    obtain ⟨r1, r2, r3, r4, r5⟩ := bn_of g h2
    subst q1
    exact good_of (s_isi q2 q3 r2 r3 (by rw [r1]; exact t.boot) r5 r4 (okE a S y h4 g).1 fun es => star_of h3 es X.env) (fun _ => rfl) (fun _ _ _ q => by cases q)
  | .isi a [t, t2], S, e, h, k, F, X, g => by
    obtain ⟨x, px, y, z, pz, z2, pz2, kk, pt, p, rfl, h1, h2, h5, h3, h4⟩ := inv_isi2 h
    obtain ⟨q1, q2, q3, q4, q5⟩ := bn_of g h1
    obtain ⟨r1, r2, r3, r4, r5⟩ := bn_of g h2
    obtain ⟨u1, u2, u3, u4, u5⟩ := bn_of g h5
    subst q1
    exact good_of (s_isi2 q2 q3 r2 r3 (by rw [r1]; exact t.boot) r5 r4 u2 u3 (by rw [u1]; exact t2.boot) u5 u4 (okE a S y h4 g).1 fun es => star_of h3 es X.env) (fun _ => rfl) (fun _ _ _ q => by cases q)
  | .isi a (t :: t2 :: t3 :: ts), S, e, h, k, F, X, g => by
    cases e <;> simp only [chkE, Bool.false_eq_true, reduceCtorEq] at h
  | .comp it tg own cs e, S, x, h, k, F, X, g => by
    obtain ⟨elt, tgE, iter, ifs, scope, p, rfl, h1, h2, h3, h4, h5, h6⟩ := inv_comp h
    have hb : blkC X.N X.env.scope scope (S.own own) = true := by rw [g.N, g.sc]; exact h1
    have ok := blkOk_by hb
    obtain ⟨i1, i2⟩ := okI it S iter tgE h3 g
    have hown : (S.own own).map (·.2) = own := by
      unfold Sx.own
      rw [List.map_map]
      exact List.map_id' own
    have key := s_comp (pos := p) (own := S.own own) (cs := cs) (e := e) g.calm g.nd i1 ok (fun s H C cl fp => okG tg (S.blk scope) tgE h4 (g.blk ok.kind)) (fun s H C cl fp => okC cs (S.blk scope) ifs h5 (g.blk ok.kind)) (fun s H C cl fp => (okE e (S.blk scope) elt h6 (g.blk ok.kind)).1) i2
      (fun s hs => by rw [hown]; exact List.contains_iff_mem.mp (List.all_eq_true.mp h2 s hs))
    rw [hown] at key
    exact good_of key (fun _ => rfl) (fun _ _ _ q => by cases q)
  | .frz e, S, x, h, k, F, X, g => by
    cases x <;> simp only [chkE, Bool.false_eq_true, reduceCtorEq] at h
    all_goals exact good_of (s_frz (okE e S _ h g).1) (fun _ => rfl) (fun _ _ _ q => by cases q)
  | .sl a lo hi, S, e, h, k, F, X, g => by
    cases e <;> simp only [chkE, Bool.false_eq_true, reduceCtorEq] at h
    simp only [Bool.and_eq_true] at h
    obtain ⟨⟨⟨h1, h2⟩, h3⟩, h4⟩ := h
    obtain ⟨l, u, p, rfl, e1, e2⟩ := inv_slice h1
    rw [e1] at h3
    rw [e2] at h4
    exact good_of (s_sl (okE a S _ h2 g).1 (okO lo S _ h3 g) (okO hi S _ h4 g)) (fun _ => rfl) (fun _ _ _ q => by cases q)
  | .rev a, S, e, h, k, F, X, g => by
    cases e <;> simp only [chkE, Bool.false_eq_true, reduceCtorEq] at h
    simp only [Bool.and_eq_true] at h
    obtain ⟨h1, h2⟩ := h
    obtain ⟨kk, p1, p2, p3, rfl⟩ := inv_rev h1
    exact good_of (s_rev (okE a S _ h2 g).1) (fun _ => rfl) (fun _ _ _ q => by cases q)
  | .new i, S, e, h, k, F, X, g => by
    simp only [chkE, Bool.and_eq_true] at h
    obtain ⟨hf, h⟩ := h
    rcases inv_fresh hf with ⟨a, b, rfl⟩ | ⟨a, rfl⟩ | ⟨it, tg, own, cs, e1, rfl⟩
    · cases e <;> simp only [chkE, Bool.false_eq_true, reduceCtorEq] at h
      simp only [Bool.and_eq_true, decide_eq_true_eq] at h
      obtain ⟨⟨h1, h2⟩, h3⟩ := h
      subst h1
      exact good_of (s_new (n_rep (okE a S _ h2 g).1 (okE b S _ h3 g).1)) (fun _ => rfl) (fun _ _ _ q => by cases q)
    · obtain ⟨x, px, y, xs, p, rfl, h1, h2⟩ := inv_bi h
      obtain ⟨q1, q2, q3, q4, q5⟩ := bn_of g h1
      simp only [chkEs, Bool.and_eq_true] at h2
      obtain ⟨⟨h2, h3⟩, h4⟩ := h2
      cases xs with
      | nil =>
        have hse := star_of h2 [] X.env
        exact good_of (s_new (n_list q2 q3 (by rw [q1]; exact list_boot) (okE a S y h3 g).1 q5 q4 hse rfl)) (fun _ => rfl) (fun _ _ _ q => by cases q)
      | cons z zs => simp only [chkEs, Bool.false_eq_true, reduceCtorEq] at h4
    · obtain ⟨elt, tgE, iter, ifs, scope, p, rfl, h1, h2, h3, h4, h5, h6⟩ := inv_comp h
      have hb : blkC X.N X.env.scope scope (S.own own) = true := by rw [g.N, g.sc]; exact h1
      have ok := blkOk_by hb
      obtain ⟨i1, i2⟩ := okI it S iter tgE h3 g
      have hown : (S.own own).map (·.2) = own := by
        unfold Sx.own
        rw [List.map_map]
        exact List.map_id' own
      have key := n_comp (pos := p) (own := S.own own) (cs := cs) (e := e1) g.calm g.nd i1 ok (fun s H C cl fp => okG tg (S.blk scope) tgE h4 (g.blk ok.kind)) (fun s H C cl fp => okC cs (S.blk scope) ifs h5 (g.blk ok.kind)) (fun s H C cl fp => (okE e1 (S.blk scope) elt h6 (g.blk ok.kind)).1) i2
        (fun s hs => by rw [hown]; exact List.contains_iff_mem.mp (List.all_eq_true.mp h2 s hs))
      rw [hown] at key
      exact good_of (s_new key) (fun _ => rfl) (fun _ _ _ q => by cases q)
  | .lcnt a b, S, e, h, k, F, X, g => by
    cases e <;> simp only [chkE, Bool.false_eq_true, reduceCtorEq] at h
    simp only [Bool.and_eq_true] at h
    obtain ⟨⟨h1, h2⟩, h3⟩ := h
    obtain ⟨n, pn, ap, y, rfl, rfl, rfl, h4, h5⟩ := inv_cnt h1
    have e1 := star_of h5 [] X.env
    exact good_of (s_lcnt (okE a S _ h2 g).1 (okE b S _ h3 g).1 rfl (by rw [e1]; rfl) h4 e1 rfl) (fun _ => rfl) (fun _ _ _ q => by cases q)
termination_by i => sizeOf i
theorem okEs : ∀ (is : Exs) (S : Sx) (es : List Expr), chkEs S is es = true → ∀ {k : Nat} {F : Oracle} {X : Cx}, Gd S k F X → PA X es (tIa X.K F is)
  | .nil, S, es, h, k, F, X, g => by
    cases es <;> simp only [chkEs, Bool.false_eq_true, reduceCtorEq] at h
    exact s_nil
  | .cons i is, S, es, h, k, F, X, g => by
    cases es <;> simp only [chkEs, Bool.false_eq_true, reduceCtorEq] at h
    rename_i e es
    simp only [Bool.and_eq_true] at h
    exact s_cons (okE i S e h.1.2 g).1 (okEs is S es h.2 g) (star_of h.1.1 es X.env)
termination_by is => sizeOf is
theorem okC : ∀ (is : Exs) (S : Sx) (es : List Expr), chkC S is es = true → ∀ {k : Nat} {F : Oracle} {X : Cx}, Gd S k F X → PTs X es (tIt X.K F is)
  | .nil, S, es, h, k, F, X, g => by
    cases es <;> simp only [chkC, Bool.false_eq_true, reduceCtorEq] at h
    exact t_nil
  | .cons i .nil, S, es, h, k, F, X, g => by
    rcases es with _ | ⟨e, _ | ⟨e2, es⟩⟩ <;> simp only [chkC, Bool.false_eq_true, reduceCtorEq] at h
    exact t_one (okE i S e h g).2.1
  | .cons i (.cons j is), S, es, h, k, F, X, g => by
    simp only [chkC, Bool.false_eq_true, reduceCtorEq] at h
termination_by is => sizeOf is
theorem okO : ∀ (is : Exs) (S : Sx) (e : Option Expr), chkO S is e = true → ∀ {k : Nat} {F : Oracle} {X : Cx}, Gd S k F X → PO X e (tIo X.K F is)
  | .nil, S, e, h, k, F, X, g => by
    cases e with
    | none => exact po_nil
    | some e => simp only [chkO, Bool.false_eq_true, reduceCtorEq] at h
  | .cons i .nil, S, e, h, k, F, X, g => by
    cases e with
    | none => simp only [chkO, Bool.false_eq_true, reduceCtorEq] at h
    | some e =>
      simp only [chkO] at h
      exact po_one (okE i S e h g).1
  | .cons i (.cons j is), S, e, h, k, F, X, g => by
    cases e <;> simp only [chkO, Bool.false_eq_true, reduceCtorEq] at h
termination_by is => sizeOf is
theorem okI : ∀ (it : It) (S : Sx) (e tg : Expr), chkI S it e tg = true → ∀ {k : Nat} {F : Oracle} {X : Cx}, Gd S k F X → PI X tg e (iI X.K F it) ∧ ∀ x, foldedSetIterable e X.env x = pure x
  | .seq i, S, e, tg, h, k, F, X, g => by
    cases e <;> simp only [chkI, Bool.false_eq_true, reduceCtorEq] at h
    all_goals exact ⟨i_seq (okE i S _ h g).1, fun _ => rfl⟩
  | .rng1 i, S, e, tg, h, k, F, X, g => by
    obtain ⟨x, px, y, p, rfl, h1, h2, h3⟩ := inv_rng1 h
    obtain ⟨q1, q2, q3, q4, q5⟩ := bn_of g h1
    subst q1
    exact ⟨i_rng1 q2 q3 (okE i S y h3 g).1 (star_of h2 [] X.env), fun _ => rfl⟩
  | .rng2 i j, S, e, tg, h, k, F, X, g => by
    obtain ⟨x, px, y, z, p, rfl, h1, h2, h4, h3, h5⟩ := inv_rng2 h
    obtain ⟨q1, q2, q3, q4, q5⟩ := bn_of g h1
    subst q1
    have e2 := star_of h4 [] X.env
    exact ⟨i_rng2 q2 q3 (okE i S y h3 g).1 (okE j S z h5 g).1 (by rw [star_of h2 [z] X.env, e2]; rfl) e2, fun _ => rfl⟩
  | .enm i, S, e, tg, h, k, F, X, g => by
    obtain ⟨x, px, y, p, es, kk, pt, rfl, rfl, h1, h2, h3⟩ := inv_enm h
    obtain ⟨q1, q2, q3, q4, q5⟩ := bn_of g h1
    subst q1
    exact ⟨i_enm q2 q3 (okE i S y h3 g).1 (star_of h2 [] X.env), fun _ => rfl⟩
  | .zip i j, S, e, tg, h, k, F, X, g => by
    obtain ⟨x, px, y, z, p, es, kk, pt, rfl, rfl, h1, h2, h4, h3, h5⟩ := inv_zip h
    obtain ⟨q1, q2, q3, q4, q5⟩ := bn_of g h1
    subst q1
    have e2 := star_of h4 [] X.env
    exact ⟨i_zip q2 q3 (okE i S y h3 g).1 (okE j S z h5 g).1 (by rw [star_of h2 [z] X.env, e2]; rfl) e2, fun _ => rfl⟩
termination_by it => sizeOf it
end
end VI
set_option maxHeartbeats 4000000
namespace VI
open PySem PySem.Spec PyProof.Rows L2

def noComp : Expr → Bool
  | .ListComp _ _ _ _ => false
  | .SetComp _ _ _ _ => false
  | .DictComp _ _ _ _ _ => false
  | _ => true
def noTup : Expr → Bool
  | .Tuple _ _ _ => false
  | _ => true
/-- is a comprehension stored within its own block? -/
def Sx.swap (S : Sx) (x : Str) (line : Nat) (scope : Scope) (p : Pos) : Bool :=
  S.lk x == some .local && line == p.line && !scope.names.any fun (n, k) => n == x && (k == .local || k == .cell)
def Sx.locals (S : Sx) (ts : List Expr) : List Str :=
  let line := (ts.head?.map (·.pos.line)).getD 0
  ts.filterMap fun
    | .Name id p => if S.lk id == some .local && p.line == line then some id else none
    | _ => none
def chkAsg (S : Sx) (n : Nat) (i : Ex) : List Expr → Expr → Bool
  | [.Name x _], .ListComp elt gens scope p => decide (S.N[n]? = some x) && S.loc x && chkE S i (.ListComp elt gens scope p)
  | [.Name x _], e => noComp e && decide (S.N[n]? = some x) && S.loc x && chkE S i e
  | _, _ => false
def chkUnp (S : Sx) (ts : Tgs) (i : Ex) : List Expr → Expr → Bool
  | [.Tuple es _ _], .Tuple vs k p => decide ((S.locals es).length ≠ es.length) && chkGs S ts es && chkE S i (.Tuple vs k p)
  | [.Tuple es _ _], e => noTup e && chkGs S ts es && chkE S i e
  | _, _ => false
def chkLts (S : Sx) : Lts → List Expr → Bool
  | .nil, [] => true
  | .slot i ts, .Name x _ :: es => decide (S.N[i]? = some x) && S.loc x && chkLts S ts es
  | .sub o i ts, .Subscript a b _ :: es => plainIx b && chkE S o a && chkE S i b && chkLts S ts es
  | _, _ => false
def chkUnm (S : Sx) (ts : Lts) (i : Ex) : List Expr → Expr → Bool
  | [.Tuple es _ _], .Tuple vs k p => decide ((S.locals es).length ≠ es.length) && chkLts S ts es && chkE S i (.Tuple vs k p)
  | [.Tuple es _ _], e => noTup e && chkLts S ts es && chkE S i e
  | _, _ => false
def chkPar (S : Sx) (n m : Nat) (is : Exs) : List Expr → Expr → Bool
  | [.Tuple [.Name x p, .Name y p2] _ _], .Tuple [a, b] _ _ =>
      decide (S.N[n]? = some x) && decide (S.N[m]? = some y) && decide (n ≠ m) && decide (S.locals [.Name x p, .Name y p2] = [x, y]) && decide (S.lk x = some .local) && decide (S.lk y = some .local) && decide ([x, y].eraseDups = [x, y])
        && !([a, b].all (foldedForSure 8)) && !([a, b].all (constantsAlone 8)) && chkEs S is [a, b]
  | _, _ => false
def chkSet (S : Sx) (o i v : Ex) : List Expr → Expr → Bool
  | [.Subscript a b _], e => plainIx b && chkE S o a && chkE S i b && chkE S v e
  | _, _ => false
def isAS : Operator → Bool
  | .Add => true
  | .Sub => true
  | _ => false
def chkAug (S : Sx) (n : Nat) (op : Operator) (i : Ex) : Expr → Operator → Expr → Bool
  | .Name x _, op2, e => decide (S.N[n]? = some x) && S.loc x && decide (op = op2) && isAS op && chkE S i e
  | _, _, _ => false
def chkAugS (S : Sx) (o i : Ex) (op : Operator) (v : Ex) : Expr → Operator → Expr → Bool
  | .Subscript a b _, op2, e => plainIx b && decide (op = op2) && isAS op && chkE S o a && chkE S i b && chkE S v e
  | _, _, _ => false
def chkRet (S : Sx) (i : Ex) : Option Expr → Bool
  | some e => chkE S i e
  | none => false
mutual
def chkS (S : Sx) : St → Stmt → Bool
  | .expr i, .Expr e _ => noComp e && chkE S i e
  | .asg n i, .Assign ts e _ => chkAsg S n i ts e
  | .unp us i, .Assign ts e _ => chkUnp S us i ts e
  | .unm us i, .Assign ts e _ => chkUnm S us i ts e
  | .par n m is, .Assign ts e _ => chkPar S n m is ts e
  | .set o i v, .Assign ts e _ => chkSet S o i v ts e
  | .ret i, .Return e _ => chkRet S i e
  | .retN, .Return e _ => e.isNone
  | .ifs c a b, .If e x y _ => chkE S c e && chkSs S a x && chkSs S b y
  | .for_ it tg b, .For tgE iter body orelse _ => orelse.isEmpty && chkI S it iter tgE && chkG S tg tgE && chkSs S b body
  | .while_ c b, .While e body orelse _ => orelse.isEmpty && chkE S c e && chkSs S b body
  | .brk, .Break _ => true
  | .cnt, .Continue _ => true
  | .pass, .Pass _ => true
  | .aug n op i, .AugAssign t op2 e _ => chkAug S n op i t op2 e
  | .augS o i op v, .AugAssign t op2 e _ => chkAugS S o i op v t op2 e
  | _, _ => false
def chkSs (S : Sx) : Sts → List Stmt → Bool
  | .nil, [] => true
  | .cons i is, s :: ss => chkS S i s && chkSs S is ss
  | _, _ => false
end

section
variable {S : Sx} {k : Nat} {F : Oracle} {X : Cx}
theorem Gd.bk (g : Gd S k F X) : X.env.blockKind = .function := by
  unfold Env.blockKind
  rw [g.fk]
  rfl
theorem swaps_no {e : Expr} (h : noComp e = true) (t : Option Expr) (n : Nat) (env : PySem.Env) : swapsWith e t n env = pure false := by
  cases e <;> first | rfl | (simp only [noComp, Bool.false_eq_true] at h)
theorem Gd.kind (g : Gd S k F X) (x : Str) : X.env.kindOf x = S.lk x := by
  show X.env.scope.names.lookup x = _
  rw [g.sc]
  rfl
theorem swaps_comp (g : Gd S k F X) {elt : Expr} {gens : List Comprehension} {scope : Scope} {p py : Pos} {x : Str} {n : Nat} : swapsWith (.ListComp elt gens scope p) (some (.Name x py)) n X.env = pure (S.swap x py.line scope p) := by
  show (pure (X.env.blockKind == ScopeKind.function && X.env.kindOf x == some NameKind.local && py.line == p.line && !scope.names.any fun (a, b) => a == x && (b == NameKind.local || b == NameKind.cell)) : Sem Bool) = _
  rw [g.bk, g.kind x]
  rfl
theorem stores_none {es : List Expr} {kk : Nat} {p : Pos} {e : Expr} (h : noTup e = true) (env : PySem.Env) : swappedStores [.Tuple es kk p] e env = pure none := by
  cases e <;> first | rfl | (simp only [noTup, Bool.false_eq_true] at h)
theorem names_eq (g : Gd S k F X) (es : List Expr) : (es.filterMap fun
    | .Name id p => if (X.env.kindOf id == some .local && p.line == (es.head?.map (·.pos.line)).getD 0) = true then some id else none
    | _ => none) = S.locals es := by
  unfold Sx.locals
  congr 1
  funext e
  cases e <;> try rfl
  simp only [g.kind]
theorem stores_part (g : Gd S k F X) {es vs : List Expr} {kk k2 : Nat} {p p2 : Pos} (h : (S.locals es).length ≠ es.length) : swappedStores [.Tuple es kk p] (.Tuple vs k2 p2) X.env = pure none := by
  unfold swappedStores
  dsimp only
  split
  · rfl
  · split
    · rfl
    · generalize hN : List.filterMap _ es = nm
      have hn : nm = S.locals es := by rw [← hN]; exact names_eq g es
      subst hn
      have hh : ((S.locals es).length != es.length || (S.locals es).eraseDups.length != (S.locals es).length) = true := by
        rw [bne_iff_ne.mpr h]
        rfl
      rw [if_pos hh]
theorem stores_two (g : Gd S k F X) {x y : Str} {a b : Expr} {kk k2 : Nat} {p p2 px py : Pos} (h : S.locals [.Name x px, .Name y py] = [x, y]) (hd : [x, y].eraseDups = [x, y]) (h1 : [a, b].all (foldedForSure 8) = false) (h2 : [a, b].all (constantsAlone 8) = false) (ns : noStar a = true) (ns2 : noStar b = true) :
    swappedStores [.Tuple [.Name x px, .Name y py] kk p] (.Tuple [a, b] k2 p2) X.env = pure (some [x, y]) := by
  unfold swappedStores
  dsimp only
  have e1 : ([a, b].any fun e => match e with | .Starred _ _ => true | _ => false) = false := by
    have : ∀ e : Expr, noStar e = true → (match e with | .Starred _ _ => true | _ => false) = false := by
      intro e he
      cases e <;> first | rfl | (simp only [noStar, Bool.false_eq_true] at he)
    simp only [List.any_cons, List.any_nil, this a ns, this b ns2, Bool.or_false]
  generalize hN : List.filterMap _ [Expr.Name x px, Expr.Name y py] = nm
  have hn : nm = [x, y] := by rw [← hN, ← h]; exact names_eq g _
  subst hn
  rw [if_neg (by rw [g.bk]; simp)]
  split
  · rename_i q
    exact absurd (q.symm.trans e1) (by decide)
  · rw [if_neg (by rw [hd]; simp), h1, if_neg Bool.false_ne_true, h2, if_neg Bool.false_ne_true]
end
end VI
set_option maxHeartbeats 4000000
namespace VI
open PySem PySem.Spec PyProof.Rows L2
section
variable {S : Sx} {s : Stmt}
theorem is_comp {i : Ex} {elt : Expr} {gens : List Comprehension} {scope : Scope} {p : Pos} (h : chkE S i (.ListComp elt gens scope p) = true) : (∃ it tg own cs e, i = .comp it tg own cs e) ∨ ∃ it tg own cs e, i = .new (.comp it tg own cs e) ∧ chkE S (.comp it tg own cs e) (.ListComp elt gens scope p) = true := by
  cases i with
  | comp it tg own cs e => exact .inl ⟨_, _, _, _, _, rfl⟩
  | new i =>
    simp only [chkE, Bool.and_eq_true] at h
    obtain ⟨hf, h⟩ := h
    rcases inv_fresh hf with ⟨a, b, rfl⟩ | ⟨a, rfl⟩ | ⟨it, tg, own, cs, e1, rfl⟩
    · simp only [chkE, Bool.false_eq_true, reduceCtorEq] at h
    · simp only [chkE, Bool.false_eq_true, reduceCtorEq] at h
    · exact .inr ⟨_, _, _, _, _, rfl, h⟩
  | cst d => cases d <;> simp only [chkE, Bool.false_eq_true, reduceCtorEq] at h
  | isi a ts => rcases ts with _ | ⟨t, _ | ⟨t2, _ | ⟨t3, ts⟩⟩⟩ <;> simp only [chkE, Bool.false_eq_true, reduceCtorEq] at h
  | _ => simp only [chkE, Bool.false_eq_true, reduceCtorEq] at h
theorem inv_expr {i : Ex} (h : chkS S (.expr i) s = true) : ∃ e p, s = .Expr e p ∧ noComp e = true ∧ chkE S i e = true := by
  cases s <;> simp only [chkS, Bool.false_eq_true, reduceCtorEq] at h
  simp only [Bool.and_eq_true] at h
  exact ⟨_, _, rfl, h⟩
theorem inv_asg {n : Nat} {i : Ex} (h : chkS S (.asg n i) s = true) : ∃ x px e p, s = .Assign [.Name x px] e p ∧ ((∃ elt gens scope p2, e = .ListComp elt gens scope p2) ∨ noComp e = true) ∧ S.N[n]? = some x ∧ S.loc x = true ∧ chkE S i e = true := by
  cases s <;> simp only [chkS, Bool.false_eq_true, reduceCtorEq] at h
  unfold chkAsg at h
  split at h
  · simp only [Bool.and_eq_true, decide_eq_true_eq] at h
    exact ⟨_, _, _, _, rfl, .inl ⟨_, _, _, _, rfl⟩, h.1.1, h.1.2, h.2⟩
  · simp only [Bool.and_eq_true, decide_eq_true_eq] at h
    exact ⟨_, _, _, _, rfl, .inr h.1.1.1, h.1.1.2, h.1.2, h.2⟩
  · cases h
theorem inv_unp {ts : Tgs} {i : Ex} (h : chkS S (.unp ts i) s = true) : ∃ es k pt e p, s = .Assign [.Tuple es k pt] e p ∧ ((∃ vs k2 p2, e = .Tuple vs k2 p2 ∧ (S.locals es).length ≠ es.length) ∨ noTup e = true) ∧ chkGs S ts es = true ∧ chkE S i e = true := by
  cases s <;> simp only [chkS, Bool.false_eq_true, reduceCtorEq] at h
  unfold chkUnp at h
  split at h
  · simp only [Bool.and_eq_true, decide_eq_true_eq] at h
    exact ⟨_, _, _, _, _, rfl, .inl ⟨_, _, _, rfl, h.1.1⟩, h.1.2, h.2⟩
  · simp only [Bool.and_eq_true] at h
    exact ⟨_, _, _, _, _, rfl, .inr h.1.1, h.1.2, h.2⟩
  · cases h
theorem inv_unm {ts : Lts} {i : Ex} (h : chkS S (.unm ts i) s = true) : ∃ es k pt e p, s = .Assign [.Tuple es k pt] e p ∧ ((∃ vs k2 p2, e = .Tuple vs k2 p2 ∧ (S.locals es).length ≠ es.length) ∨ noTup e = true) ∧ chkLts S ts es = true ∧ chkE S i e = true := by
  cases s <;> simp only [chkS, Bool.false_eq_true, reduceCtorEq] at h
  unfold chkUnm at h
  split at h
  · simp only [Bool.and_eq_true, decide_eq_true_eq] at h
    exact ⟨_, _, _, _, _, rfl, .inl ⟨_, _, _, rfl, h.1.1⟩, h.1.2, h.2⟩
  · simp only [Bool.and_eq_true] at h
    exact ⟨_, _, _, _, _, rfl, .inr h.1.1, h.1.2, h.2⟩
  · cases h
theorem inv_par {n m : Nat} {is : Exs} (h : chkS S (.par n m is) s = true) : ∃ x px y py k pt a b k2 p2 p, s = .Assign [.Tuple [.Name x px, .Name y py] k pt] (.Tuple [a, b] k2 p2) p ∧
    S.N[n]? = some x ∧ S.N[m]? = some y ∧ n ≠ m ∧ S.locals [.Name x px, .Name y py] = [x, y] ∧ S.lk x = some .local ∧ S.lk y = some .local ∧ [x, y].eraseDups = [x, y] ∧ [a, b].all (foldedForSure 8) = false ∧ [a, b].all (constantsAlone 8) = false ∧ chkEs S is [a, b] = true := by
  cases s <;> simp only [chkS, Bool.false_eq_true, reduceCtorEq] at h
  unfold chkPar at h
  split at h
  · simp only [Bool.and_eq_true, decide_eq_true_eq, Bool.not_eq_true'] at h
    obtain ⟨⟨⟨⟨⟨⟨⟨⟨⟨h1, h2⟩, h3⟩, h4⟩, h5⟩, h6⟩, h7⟩, h8⟩, h9⟩, h10⟩ := h
    exact ⟨_, _, _, _, _, _, _, _, _, _, _, rfl, h1, h2, h3, h4, h5, h6, h7, h8, h9, h10⟩
  · cases h
theorem inv_set {o i v : Ex} (h : chkS S (.set o i v) s = true) : ∃ a b pt e p, s = .Assign [.Subscript a b pt] e p ∧ plainIx b = true ∧ chkE S o a = true ∧ chkE S i b = true ∧ chkE S v e = true := by
  cases s <;> simp only [chkS, Bool.false_eq_true, reduceCtorEq] at h
  unfold chkSet at h
  split at h
  · simp only [Bool.and_eq_true] at h
    exact ⟨_, _, _, _, _, rfl, h.1.1.1, h.1.1.2, h.1.2, h.2⟩
  · cases h
theorem inv_aug {n : Nat} {op : Operator} {i : Ex} (h : chkS S (.aug n op i) s = true) : ∃ x px e p, s = .AugAssign (.Name x px) op e p ∧ S.N[n]? = some x ∧ S.loc x = true ∧ isAS op = true ∧ chkE S i e = true := by
  cases s <;> simp only [chkS, Bool.false_eq_true, reduceCtorEq] at h
  unfold chkAug at h
  split at h
  · simp only [Bool.and_eq_true, decide_eq_true_eq] at h
    obtain ⟨⟨⟨⟨h1, h2⟩, h3⟩, h4⟩, h5⟩ := h
    subst h3
    exact ⟨_, _, _, _, rfl, h1, h2, h4, h5⟩
  · cases h
theorem inv_augS {o i : Ex} {op : Operator} {v : Ex} (h : chkS S (.augS o i op v) s = true) : ∃ a b pt e p, s = .AugAssign (.Subscript a b pt) op e p ∧ plainIx b = true ∧ isAS op = true ∧ chkE S o a = true ∧ chkE S i b = true ∧ chkE S v e = true := by
  cases s <;> simp only [chkS, Bool.false_eq_true, reduceCtorEq] at h
  unfold chkAugS at h
  split at h
  · simp only [Bool.and_eq_true, decide_eq_true_eq] at h
    obtain ⟨⟨⟨⟨⟨h1, h2⟩, h3⟩, h4⟩, h5⟩, h6⟩ := h
    subst h2
    exact ⟨_, _, _, _, _, rfl, h1, h3, h4, h5, h6⟩
  · cases h
theorem isAS_or {op : Operator} (h : isAS op = true) : op = .Add ∨ op = .Sub := by
  cases op <;> first | exact .inl rfl | exact .inr rfl | (simp only [isAS, Bool.false_eq_true] at h)
theorem aug_sub {b : Expr} (h : plainIx b = true) (ov iv new : Value) : augStore b ov iv new = (do
      holding [new, ov, iv] (setItem ov iv new)
      release [new, ov, iv] []
      pure Flow.next) := by
  cases b <;> first | rfl | (simp only [plainIx, Bool.false_eq_true] at h)
theorem inv_ret {i : Ex} (h : chkS S (.ret i) s = true) : ∃ e p, s = .Return (some e) p ∧ chkE S i e = true := by
  cases s <;> simp only [chkS, Bool.false_eq_true, reduceCtorEq] at h
  unfold chkRet at h
  split at h
  · exact ⟨_, _, rfl, h⟩
  · cases h
theorem inv_retN (h : chkS S .retN s = true) : ∃ p, s = .Return none p := by
  cases s <;> simp only [chkS, Bool.false_eq_true, reduceCtorEq] at h
  rename_i e p
  cases e with
  | none => exact ⟨_, rfl⟩
  | some e => cases h
theorem inv_ifs {c : Ex} {a b : Sts} (h : chkS S (.ifs c a b) s = true) : ∃ e x y p, s = .If e x y p ∧ chkE S c e = true ∧ chkSs S a x = true ∧ chkSs S b y = true := by
  cases s <;> simp only [chkS, Bool.false_eq_true, reduceCtorEq] at h
  simp only [Bool.and_eq_true] at h
  exact ⟨_, _, _, _, rfl, h.1.1, h.1.2, h.2⟩
theorem inv_for {it : It} {tg : Tg} {b : Sts} (h : chkS S (.for_ it tg b) s = true) : ∃ tgE iter body p, s = .For tgE iter body [] p ∧ chkI S it iter tgE = true ∧ chkG S tg tgE = true ∧ chkSs S b body = true := by
  cases s <;> simp only [chkS, Bool.false_eq_true, reduceCtorEq] at h
  simp only [Bool.and_eq_true, List.isEmpty_iff] at h
  obtain ⟨⟨⟨h0, h1⟩, h2⟩, h3⟩ := h
  subst h0
  exact ⟨_, _, _, _, rfl, h1, h2, h3⟩
theorem inv_while {c : Ex} {b : Sts} (h : chkS S (.while_ c b) s = true) : ∃ e body p, s = .While e body [] p ∧ chkE S c e = true ∧ chkSs S b body = true := by
  cases s <;> simp only [chkS, Bool.false_eq_true, reduceCtorEq] at h
  simp only [Bool.and_eq_true, List.isEmpty_iff] at h
  obtain ⟨⟨h0, h1⟩, h2⟩ := h
  subst h0
  exact ⟨_, _, _, rfl, h1, h2⟩
end
theorem assign_sub {a b : Expr} (h : plainIx b = true) {env : PySem.Env} {p : Pos} (v : Value) : assign (.Subscript a b p) env v = (do
      let ov ← holding [v] (eval a env)
      let iv ← holding [v, ov] (eval b env)
      standAt p
      holding [v, ov, iv] (setItem ov iv v)
      release [v, ov, iv] []) := by
  cases b <;> first | rfl | (simp only [plainIx, Bool.false_eq_true] at h)

theorem okLts {S : Sx} {k : Nat} {F : Oracle} {X : Cx} (g : Gd S k F X) : ∀ (ts : Lts) (es : List Expr), chkLts S ts es = true → PGs X es (gL X.K F ts) ∧ (assignEach es X.env).length = ts.len ∧ (assignEach es X.env).findIdx? (·.1) = none
  | .nil, es, h => by
    cases es <;> simp only [chkLts, Bool.false_eq_true, reduceCtorEq] at h
    exact ⟨lt_nil, rfl, rfl⟩
  | .slot i ts, es, h => by
    cases es with
    | nil => simp only [chkLts, Bool.false_eq_true, reduceCtorEq] at h
    | cons e es =>
      cases e <;> simp only [chkLts, Bool.false_eq_true, reduceCtorEq] at h
      simp only [Bool.and_eq_true, decide_eq_true_eq] at h
      obtain ⟨h1, h2, h3⟩ := okLts g ts es h.2
      obtain ⟨l1, l2⟩ := loc_of g h.1.2
      refine ⟨lt_slot g.nd (by rw [g.N]; exact h.1.1) l1 l2 h1 rfl, ?_, ?_⟩
      · show (assignEach es X.env).length + 1 = _
        rw [h2]; rfl
      · show List.findIdx? _ ((false, _) :: assignEach es X.env) = none
        rw [List.findIdx?_cons, h3]; rfl
  | .sub o i ts, es, h => by
    cases es with
    | nil => simp only [chkLts, Bool.false_eq_true, reduceCtorEq] at h
    | cons e es =>
      cases e <;> simp only [chkLts, Bool.false_eq_true, reduceCtorEq] at h
      simp only [Bool.and_eq_true] at h
      obtain ⟨h1, h2, h3⟩ := okLts g ts es h.2
      refine ⟨lt_sub (okE o S _ h.1.1.2 g).1 (okE i S _ h.1.2 g).1 h1 (assign_sub h.1.1.1) rfl, ?_, ?_⟩
      · show (assignEach es X.env).length + 1 = _
        rw [h2]; rfl
      · show List.findIdx? _ ((false, _) :: assignEach es X.env) = none
        rw [List.findIdx?_cons, h3]; rfl
mutual
theorem okSt : ∀ (i : St) (S : Sx) (s : Stmt), chkS S i s = true → ∀ {k : Nat} {F : Oracle} {X : Cx}, Gd S k F X → PS X s (tS X.K F i)
  | .expr i, S, s, h, k, F, X, g => by
    obtain ⟨e, p, rfl, h1, h2⟩ := inv_expr h
    exact b_expr (okE i S e h2 g).1 (swaps_no h1 _ _ _)
  | .asg n i, S, s, h, k, F, X, g => by
    obtain ⟨x, px, e, p, rfl, h1, h2, h3, h4⟩ := inv_asg h
    obtain ⟨l1, l2⟩ := loc_of g h3
    have hN : X.N[n]? = some x := by rw [g.N]; exact h2
    rcases h1 with ⟨elt, gens, scope, p2, rfl⟩ | h1
    · have hs := swaps_comp g (elt := elt) (gens := gens) (scope := scope) (p := p2) (py := px) (x := x) (n := p.line)
      cases hb : S.swap x px.line scope p2 with
      | false =>
        rw [hb] at hs
        exact b_asg g.nd hN l1 (okE i S _ h4 g).1 hs l2
      | true =>
        rw [hb] at hs
        rcases is_comp h4 with ⟨it, tg, own, cs, e, rfl⟩ | ⟨it, tg, own, cs, e, rfl, h4⟩
        · obtain ⟨elt, tgE, iter, ifs, scope', p', he, h1, h2, h3, h4, h5, h6⟩ := inv_comp h4
          cases he
          have hblk : blkC X.N X.env.scope scope (S.own own) = true := by rw [g.N, g.sc]; exact h1
          have ok := blkOk_by hblk
          obtain ⟨i1, i2⟩ := okI it S iter tgE h3 g
          have hown : (S.own own).map (·.2) = own := by
            unfold Sx.own
            rw [List.map_map]
            exact List.map_id' own
          have hl : X.env.scope.names.lookup x = some .local := by
            unfold Sx.swap at hb
            simp only [Bool.and_eq_true, beq_iff_eq] at hb
            rw [g.sc]
            exact hb.1.1
          have key := b_asgC (spos := p) (cs := cs) (e := e) g.calm g.nd hN hl hs i1 ok (fun s H C cl fp => okG tg (S.blk scope) tgE h4 (g.blk ok.kind)) (fun s H C cl fp => okC cs (S.blk scope) ifs h5 (g.blk ok.kind)) (fun s H C cl fp => (okE e (S.blk scope) elt h6 (g.blk ok.kind)).1) i2
            (fun s hs => by rw [hown]; exact List.contains_iff_mem.mp (List.all_eq_true.mp h2 s hs))
          rw [hown] at key
          exact key
        · obtain ⟨elt, tgE, iter, ifs, scope', p', he, h1, h2, h3, h4, h5, h6⟩ := inv_comp h4
          cases he
          have hblk : blkC X.N X.env.scope scope (S.own own) = true := by rw [g.N, g.sc]; exact h1
          have ok := blkOk_by hblk
          obtain ⟨i1, i2⟩ := okI it S iter tgE h3 g
          have hown : (S.own own).map (·.2) = own := by
            unfold Sx.own
            rw [List.map_map]
            exact List.map_id' own
          have hl : X.env.scope.names.lookup x = some .local := by
            unfold Sx.swap at hb
            simp only [Bool.and_eq_true, beq_iff_eq] at hb
            rw [g.sc]
            exact hb.1.1
          have key := b_asgCN (spos := p) (cs := cs) (e := e) g.calm g.nd hN hl hs i1 ok (fun s H C cl fp => okG tg (S.blk scope) tgE h4 (g.blk ok.kind)) (fun s H C cl fp => okC cs (S.blk scope) ifs h5 (g.blk ok.kind)) (fun s H C cl fp => (okE e (S.blk scope) elt h6 (g.blk ok.kind)).1) i2
            (fun s hs => by rw [hown]; exact List.contains_iff_mem.mp (List.all_eq_true.mp h2 s hs))
          rw [hown] at key
          exact key
    · exact b_asg g.nd hN l1 (okE i S e h4 g).1 (swaps_no h1 _ _ _) l2
  | .unp ts i, S, s, h, k, F, X, g => by
    obtain ⟨es, kk, pt, e, p, rfl, h1, h2, h3⟩ := inv_unp h
    obtain ⟨g1, g2, g3⟩ := okGs ts S es h2 g
    have hg := g_tup (k := kk) (pos := pt) g.calm g1 g2 g3
    rcases h1 with ⟨vs, k2, p2, rfl, h1⟩ | h1
    · exact b_unp (okE i S _ h3 g).1 hg rfl (stores_part g h1)
    · refine b_unp (okE i S e h3 g).1 hg ?_ (stores_none h1 _)
      cases e <;> rfl
  | .unm ts i, S, s, h, k, F, X, g => by
    obtain ⟨es, kk, pt, e, p, rfl, h1, h2, h3⟩ := inv_unm h
    obtain ⟨g1, g2, g3⟩ := okLts g ts es h2
    rcases h1 with ⟨vs, k2, p2, rfl, h1⟩ | h1
    · exact b_unm g.calm (okE i S _ h3 g).1 g1 g2 g3 rfl (stores_part g h1)
    · refine b_unm g.calm (okE i S e h3 g).1 g1 g2 g3 ?_ (stores_none h1 _)
      cases e <;> rfl
  | .par n m is, S, s, h, k, F, X, g => by
    obtain ⟨x, px, y, py, kk, pt, a, b, k2, p2, p, rfl, h1, h2, h3, h4, h5, h6, h7, h8, h9, h10⟩ := inv_par h
    have hpa := okEs is S _ h10 g
    have hst : noStar a = true ∧ noStar b = true := by
      rcases is with _ | ⟨i, _ | ⟨j, _ | ⟨l, is⟩⟩⟩ <;> simp only [chkEs, Bool.and_eq_true, Bool.false_eq_true, and_false, reduceCtorEq] at h10
      exact ⟨h10.1.1, h10.2.1.1⟩
    exact b_par g.calm g.nd (by rw [g.N]; exact h1) (by rw [g.N]; exact h2) h3 (by rw [g.sc]; exact h5) (by rw [g.sc]; exact h6) hpa (stores_two g h4 h7 h8 h9 hst.1 hst.2)
  | .aug n op i, S, s, h, k, F, X, g => by
    obtain ⟨x, px, e, p, rfl, h1, h2, h3, h4⟩ := inv_aug h
    obtain ⟨l1, l2⟩ := loc_of g h2
    exact b_aug g.nd (by rw [g.N]; exact h1) l1 (okE i S e h4 g).1 (isAS_or h3) l2
  | .augS o i op v, S, s, h, k, F, X, g => by
    obtain ⟨a, b, pt, e, p, rfl, h1, h2, h3, h4, h5⟩ := inv_augS h
    exact b_augS (okE o S a h3 g).1 (okE i S b h4 g).1 (okE v S e h5 g).1 (isAS_or h2) (aug_sub h1)
  | .set o i v, S, s, h, k, F, X, g => by
    obtain ⟨a, b, pt, e, p, rfl, h1, h2, h3, h4⟩ := inv_set h
    refine b_set (okE o S a h2 g).1 (okE i S b h3 g).1 (okE v S e h4 g).1 ?_ ?_ (assign_sub h1)
    · cases e <;> rfl
    · cases e <;> rfl
  | .ret i, S, s, h, k, F, X, g => by
    obtain ⟨e, p, rfl, h1⟩ := inv_ret h
    exact b_ret (okE i S e h1 g).1
  | .retN, S, s, h, k, F, X, g => by
    obtain ⟨p, rfl⟩ := inv_retN h
    exact b_retN
  | .ifs c a b, S, s, h, k, F, X, g => by
    obtain ⟨e, x, y, p, rfl, h1, h2, h3⟩ := inv_ifs h
    exact b_if (okE c S e h1 g).2.1 (okSs a S x h2 g) (okSs b S y h3 g)
  | .for_ it tg b, S, s, h, k, F, X, g => by
    obtain ⟨tgE, iter, body, p, rfl, h1, h2, h3⟩ := inv_for h
    obtain ⟨i1, i2⟩ := okI it S iter tgE h1 g
    exact b_for (by rw [g.xe]; exact PassesOwn.never) g.calm i1 (okG tg S tgE h2 g) (okSs b S body h3 g) i2
  | .while_ c b, S, s, h, k, F, X, g => by
    obtain ⟨e, body, p, rfl, h1, h2⟩ := inv_while h
    exact b_while (by rw [g.xe]; exact PassesOwn.never) (okE c S e h1 g).2.1 (okSs b S body h2 g)
  | .brk, S, s, h, k, F, X, g => by
    cases s <;> simp only [chkS, Bool.false_eq_true, reduceCtorEq] at h
    exact b_brk
  | .cnt, S, s, h, k, F, X, g => by
    cases s <;> simp only [chkS, Bool.false_eq_true, reduceCtorEq] at h
    exact b_cnt
  | .pass, S, s, h, k, F, X, g => by
    cases s <;> simp only [chkS, Bool.false_eq_true, reduceCtorEq] at h
    exact b_pass
termination_by i => sizeOf i
theorem okSs : ∀ (is : Sts) (S : Sx) (ss : List Stmt), chkSs S is ss = true → ∀ {k : Nat} {F : Oracle} {X : Cx}, Gd S k F X → PSs X ss (tSs X.K F is)
  | .nil, S, ss, h, k, F, X, g => by
    cases ss <;> simp only [chkSs, Bool.false_eq_true, reduceCtorEq] at h
    exact b_nil
  | .cons i is, S, ss, h, k, F, X, g => by
    cases ss <;> simp only [chkSs, Bool.false_eq_true, reduceCtorEq] at h
    rename_i s ss
    simp only [Bool.and_eq_true] at h
    exact b_cons (okSt i S s h.1 g) (okSs is S ss h.2 g)
termination_by is => sizeOf is
end
end VI
set_option maxHeartbeats 4000000
namespace VI
open PySem PySem.Spec PyProof.Rows L2

/-! behind a def the store is cut -/
def Wd.cut (w : Wd) (n : Nat) : Wd := ⟨w.R.take n, w.M.take n, w.H, w.Z⟩
section
variable {K : PySem.W.Frag} {w w0 : Wd}
theorem get_take {α : Type} {l : List α} {n i : Nat} {x : α} (h : (l.take n)[i]? = some x) : i < n ∧ l[i]? = some x := by
  have hi : i < n := by
    rcases Nat.lt_or_ge i n with q | q
    · exact q
    · rw [List.getElem?_eq_none (by rw [List.length_take]; omega)] at h
      cases h
  rw [List.getElem?_take_of_lt hi] at h
  exact ⟨hi, h⟩
theorem lq_cut {n : Nat} {b : Addr} (h : Lq (w.cut n) b) : Lq w b := by
  obtain ⟨i, ob, h1, h2, h3⟩ := h
  exact ⟨i, ob, (get_take h1).2, (get_take h2).2, h3⟩
theorem lv_cut {n : Nat} {b : Addr} (h : Lv (w.cut n) b) : Lv w b := h.elim (fun h => .inl (lq_cut h)) .inr
theorem extF_cut (n : Nat) : ExtF w (w.cut n) := ⟨fun _ _ e m => ⟨e, fun l => m (lv_cut l)⟩⟩
theorem ok_cut (o : Ok K w) (n : Nat) : Ok K (w.cut n) := by
  refine ⟨by show (w.R.take n).length = (w.M.take n).length; rw [List.length_take, List.length_take, o.len], fun i b ob h1 h2 => ?_, fun i j b ob ob' h1 h2 h3 h4 n1 n2 => ?_, fun b hb => ⟨(o.zz b hb).1, fun l => (o.zz b hb).2 (lq_cut l)⟩⟩
  · have r := o.ob i b ob (get_take h1).2 (get_take h2).2
    cases ob with
    | lst ds => obtain ⟨xs, q1, q2⟩ := r; exact ⟨xs, q1, RepDs.monoF (extF_cut n) _ _ q2⟩
    | gone => trivial
  · exact o.inj i j b ob ob' (get_take h1).2 (get_take h2).2 (get_take h3).2 (get_take h4).2 n1 n2
theorem ext_cut (e : Ext w0 w) : Ext w0 (w.cut w0.R.length) := by
  refine ⟨fun b o eb n => let ⟨h1, h2⟩ := e.fz b o eb n; ⟨h1, fun l => h2 (lv_cut l)⟩, fun i b eb => ?_, e.zs, e.zh⟩
  show (w.R.take w0.R.length)[i]? = some b
  have hi : i < w0.R.length := (List.getElem?_eq_some_iff.mp eb).1
  rw [List.getElem?_take_of_lt hi]
  exact e.kp i b eb
end
theorem post_leave {K : PySem.W.Frag} {w w' : Wd} {v : Val} {M : Mem} {Q : VK} (o : Ok K w) (h : PostG K (RepV K) w (leave w.M.length v M) Q) (hm : w'.M = M) (e : Ext w w') (o' : Ok K w') : ∀ x, RepV K w' v x → Q x w'.H := by
  intro x r
  subst hm
  cases v with
  | d y =>
    have h : ∀ w2 x, w2.M = w'.M.take w.M.length → Ext w w2 → Ok K w2 → RepV K w2 (.d y) x → Q x w2.H := h
    exact h (w'.cut w.M.length) x rfl (by rw [← o.len]; exact ext_cut e) (ok_cut o' _) (RepD.monoF (extF_cut _) _ _ r)
  | ref i =>
    unfold leave at h
    dsimp only at h
    split at h
    · rename_i hi
      obtain ⟨a, rfl, ha⟩ := r
      refine h (w'.cut w.M.length) (.ref a) rfl (by rw [← o.len]; exact ext_cut e) (ok_cut o' _) ⟨a, rfl, ?_⟩
      show (w'.R.take w.M.length)[i]? = some a
      rw [List.getElem?_take_of_lt hi]
      exact ha
    · exact h w' x rfl e o' r
  | scr ns => exact h.elim
theorem envRep_start {K : PySem.W.Frag} {w : Wd} {N : List Str} {vs : List Val} {xs : List V} (r : RepVs K w vs xs) : EnvRep K w (vs.map some ++ List.replicate (N.length - vs.length) none) (L2.start N xs) := by
  have hl := r.len
  have get : ∀ {vs : List Val} {xs : List V} (i : Nat) (v : Val), RepVs K w vs xs → vs[i]? = some v → ∃ x, xs[i]? = some x ∧ RepV K w v x := by
    intro vs
    induction vs with
    | nil => intro xs i v _ h; simp at h
    | cons u us ih =>
      intro xs i v r h
      obtain ⟨y, ys, rfl, r1, r2⟩ := r
      cases i with
      | zero => simp at h; subst h; exact ⟨y, rfl, r1⟩
      | succ i =>
        obtain ⟨x, q1, q2⟩ := ih i v r2 (by simpa using h)
        exact ⟨x, by simpa using q1, q2⟩
  refine ⟨by unfold L2.start; rw [List.length_append, List.length_append, List.length_map, List.length_map, List.length_replicate, List.length_replicate, hl], fun i v h => ?_⟩
  rcases Nat.lt_or_ge i vs.length with q | q
  · rw [List.getElem?_append_left (by rw [List.length_map]; exact q), List.getElem?_map] at h
    obtain ⟨u, h1, h2⟩ := Option.map_eq_some_iff.mp h
    cases h2
    obtain ⟨x, q1, q2⟩ := get i v r h1
    refine ⟨x, ?_, q2⟩
    unfold L2.start
    rw [List.getElem?_append_left (by rw [List.length_map, hl]; exact q), List.getElem?_map, q1]
    rfl
  · rw [List.getElem?_append_right (by rw [List.length_map]; exact q)] at h
    have := List.mem_of_getElem? h
    have := List.eq_of_mem_replicate this
    cases this

/-- a row of the table: the def's statement, its names by slot, its parameters, the program -/
structure Row where
  x : Str
  st : Stmt
  N : List Str
  ps : List Str
  body : Sts
def Row.fn (r : Row) : Fn := ⟨r.N.length, r.ps.length, r.body⟩
def Row.sx (r : Row) (noms fns : List Str) : Sx := ⟨defScope r.st, r.N, fun _ => true, noms, fns⟩
def Row.ok (r : Row) (noms fns : List Str) : Bool := chkSs (r.sx noms fns) r.body (defBody r.st)
abbrev tab (rs : List Row) : Table := rs.map fun r => (r.x, r.fn)

section
variable {P : Program} {w : World} {K : PySem.W.Frag} {mg : Str → Option Value} {base : Heap} {rs : List Row} {noms : List Str}
theorem lookup_tab : ∀ {rs : List Row} {r : Row}, (rs.map (·.x)).Nodup → r ∈ rs → (tab rs).lookup r.x = some r.fn
  | q :: rs, r, hn, h => by
    show List.lookup r.x ((q.x, q.fn) :: tab rs) = _
    rw [List.lookup_cons]
    rw [List.map_cons, List.nodup_cons] at hn
    rcases List.mem_cons.mp h with rfl | h
    · rw [beq_self_eq_true]
    · have : (r.x == q.x) = false := by
        rw [beq_eq_false_iff_ne]
        intro e
        exact hn.1 (by rw [← e]; exact List.mem_map.mpr ⟨r, h, rfl⟩)
      rw [this]
      exact lookup_tab hn.2 h
/-- what the top has of a def -/
structure Top (K : PySem.W.Frag) (mg : Str → Option Value) (r : Row) (fa : Addr) (fd : FuncData) : Prop where
  ex : ∃ qual : Str, Fun K r.x qual r.st fa fd
  at_ : mg r.x = some (.ref fa)
  binds : ∀ us : List Value, us.length = r.ps.length → bindArgs fd ⟨us, []⟩ = pure (r.ps.zip us)
  sc : FnScope r.N r.ps (defScope r.st)
theorem fnok_zero {f : Addr} {fd : FuncData} {ps : List Str} {g : List Val → Mem → Res Val} (hg : ∀ vs M, g vs M = .stuck) {k : Nat} : FnOk P w K mg base CX0 k f fd ps (spI K g) := by
  have no : ∀ vs H Q E, spI K g vs H Q E → False := fun vs H Q E ⟨w, us, _, _, _, h⟩ => by
    rw [hg] at h
    exact h
  exact ⟨fun vs H Q E h => (no vs H Q E h).elim, fun A outer s H args us vs Q E _ _ _ _ h => (no vs H Q E h).elim⟩
theorem known (hn : (rs.map (·.x)).Nodup) (htop : ∀ r ∈ rs, ∃ fa fd, Top K mg r fa fd) (hno : ∀ x ∈ noms, mg x = none) (hok : ∀ r ∈ rs, r.ok noms (rs.map (·.x)) = true) : ∀ (k : Nat), ∀ r ∈ rs, ∀ fa fd, Top K mg r fa fd →
    FnOk P w K mg base CX0 k fa fd r.ps (spI K (call (tab rs) k r.x)) := by
  intro k
  induction k with
  | zero => exact fun r hr fa fd _ => fnok_zero fun _ _ => rfl
  | succ k ih =>
    intro r hr fa fd t
    obtain ⟨⟨qual, h1⟩, h2, h3, hsc⟩ := t
    have hcall : ∀ vs M, call (tab rs) (k + 1) r.x vs M = r.fn.run (call (tab rs) k) vs M := fun vs M => by
      rw [call, lookup_tab hn hr]
    refine h1.ok hsc (fun xs H Q E h => ?_) (fun cdv A outer s H xs Q E hroom h => ?_)
    · obtain ⟨w0, vs, _, _, rv, hp⟩ := h
      rw [hcall, Fn.run] at hp
      split at hp
      · rename_i hl
        rw [rv.len]
        exact hl
      · exact hp.elim
    · obtain ⟨w0, vs, e, o, rv, hp⟩ := h
      subst e
      rw [hcall, Fn.run] at hp
      split at hp
      · rename_i hl
        have g : Gd (r.sx noms (rs.map (·.x))) k (call (tab rs) k) (cxOf CX0 P w K mg base r.N qual (defScope r.st) fa cdv A outer s w0.H E).nox := by
          refine ⟨rfl, rfl, hsc.nd, rfl, fun _ _ => rfl, hroom, rfl, hno, fun x hx => ?_, hsc.kind⟩
          obtain ⟨q, hq, rfl⟩ := List.mem_map.mp hx
          obtain ⟨fa2, fd2, t2⟩ := htop q hq
          obtain ⟨_, f2⟩ := t2.ex
          exact ⟨fa2, fd2, q.ps, t2.at_, f2.kp, .all t2.binds, ih q hq fa2 fd2 t2⟩
        refine ⟨_, okSs r.body _ _ (hok r hr) g, ?_⟩
        refine ⟨_, w0, rfl, o, envRep_start rv, ?_⟩
        show PostS K w0 (r.body.ex (call (tab rs) k) _ w0.M) _
        have hp : PostG K (RepV K) w0 ((r.body.ex (call (tab rs) k) (vs.map some ++ List.replicate (r.N.length - vs.length) none) w0.M).bind fun p M1 => fin w0.M.length p.1 M1) Q := hp
        cases hb : r.body.ex (call (tab rs) k) (vs.map some ++ List.replicate (r.N.length - vs.length) none) w0.M with
        | stuck => rw [hb] at hp; exact hp.elim
        | ok p M1 =>
          rw [hb, bind_ok] at hp
          intro w' σ' hm ex o' r'
          obtain ⟨f, env1⟩ := p
          cases f with
          | nx => exact post_leave o (show PostG K (RepV K) w0 (leave w0.M.length (.d .non) M1) Q from hp) hm ex o' .non (by rw [RepV, RepD])
          | rt v => exact post_leave o (show PostG K (RepV K) w0 (leave w0.M.length v M1) Q from hp) hm ex o'
          | bk => exact hp.elim
          | ct => exact hp.elim
      · exact hp.elim
theorem rep_script {H : Hp} {a : Addr} {ns : List Int} (hO : Only H) (h : SqL K H a (ns.map V.int)) : RepV K ⟨[], [], H, []⟩ (.scr ns) (.ref a) := by
  refine ⟨a, rfl, ?_⟩
  have nl : ¬ Lv ⟨[], [], H, []⟩ a := by
    rintro (⟨i, ob, h1, _, _⟩ | h1)
    · simp at h1
    · cases h1
  rcases h with (h | ⟨o, h⟩) | h
  · rcases hO a with q | ⟨o, xs, q⟩
    · rw [q] at h; cases h
    · rw [q] at h; cases h
  · exact .inl ⟨⟨o, h⟩, nl⟩
  · exact .inr (.inr h)
end
theorem ok_start {K : PySem.W.Frag} {H : Hp} : Ok K ⟨[], [], H, []⟩ :=
  ⟨rfl, fun i a ob h _ => by simp at h, fun i j a ob ob' h _ _ _ _ _ => by simp at h, fun a h => by cases h⟩
/-- THE END: a law holds if its program, run by the interpreter, ends in True -/
theorem law_walk {l : PySem.W.OpenLaw} {q : Program} {loose : List Str} {XP : (Str → Option Value) → Heap → Prop} {YP : World → Heap → Prop} {d : DefRec} {K : Params → PySem.W.Frag} (rs : List Row) (noms : List Str) (k : Nat) (r0 : Row) (x : Str)
    (hn : l.most = some 63) (hdf : d.params.defaults = []) (hr : Room k callerA)
    (hY : ∀ (w : World) (h : Heap), YP w h → (K w.params).In h)
    (F : ∀ (w : World) (mg : Str → Option Value) (fa : Addr) (h : Heap), (K w.params).In h → h.Ns mainGlobals mg → mg d.name = some (.ref fa) → (∀ r ∈ rs, ∃ fa fd, Top (K w.params) mg r fa fd) ∧ ∀ x ∈ noms, mg x = none)
    (hr0 : r0 ∈ rs) (hd : d.name = r0.x) (hps : r0.ps = [x]) (hnd : (rs.map (·.x)).Nodup) (hok : ∀ r ∈ rs, r.ok noms (rs.map (·.x)) = true)
    (hrun : ∀ ns : List Int, ns.length ≤ 63 → ∃ M, call (tab rs) k r0.x [.scr ns] [] = .ok (.d (.bl true)) M) :
    PySem.W.WalkO q loose XP YP l.row.toRowW d [] (fun f vs => PySem.call f vs) := by
  refine L2.walk_of (n := 63) (k := k) (x := x) (CX := fun _ => CX0) (sp := fun w => spI (K w.params) (call (tab rs) k r0.x)) hn (by decide) hdf hr hY (fun w mg fa h KX G hmg => ?_) (fun w H a ns hl hO hS => ?_) fun _ _ _ _ _ z => z
  · obtain ⟨htop, hno⟩ := F w mg fa h KX G hmg
    obtain ⟨fa0, fd0, t0⟩ := htop r0 hr0
    have e : fa0 = fa := by
      have h1 := t0.at_
      rw [← hd, hmg] at h1
      cases h1
      rfl
    subst e
    refine ⟨fd0, fun s u => ?_, fun base _ _ => ?_⟩
    · have := t0.binds [u] (by rw [hps]; rfl)
      rw [hps] at this
      exact .of_eq this
    · have := known (P := l.prog) (w := w) (base := base) hnd htop hno hok k r0 hr0 fa0 fd0 t0
      rw [hps] at this
      exact this
  · obtain ⟨M, hM⟩ := hrun ns hl
    refine ⟨⟨[], [], H, []⟩, [.scr ns], rfl, ok_start, ⟨_, _, rfl, rep_script hO hS, rfl⟩, ?_⟩
    show PostG _ _ _ (call (tab rs) k r0.x [.scr ns] []) _
    rw [hM]
    intro w' v hm ex o' rv
    rw [RepV, RepD] at rv
    exact rv
end VI
namespace VI
open PySem PySem.Spec PyProof.Rows L2
/-! runs, step by step -/
theorem call_row {rs : List Row} (hn : (rs.map (·.x)).Nodup) {r : Row} (h : r ∈ rs) (n : Nat) (vs : List Val) (M : Mem) : call (tab rs) (n + 1) r.x vs M = r.fn.run (call (tab rs) n) vs M := by
  rw [call, lookup_tab hn h]
theorem at_d (x : D) (M : Mem) : (Val.d x).at M = some x := rfl
theorem pl_d (x : D) (M : Mem) : (Val.d x).pl M = some x := rfl
theorem at_ref {i : Nat} {M : Mem} {xs : List D} (h : M[i]? = some (.lst xs)) : (Val.ref i).at M = some (.lst xs) := by simp only [Val.at, h]
theorem pl_ref {i : Nat} {M : Mem} {xs : List D} (h : M[i]? = some (.lst xs)) : (Val.ref i).pl M = some (.lst xs) := by simp only [Val.pl, h]
theorem at_scr (ns : List Int) (M : Mem) : (Val.scr ns).at M = some (.lst (ns.map .int)) := rfl
theorem lift_some {α : Type} (a : α) (M : Mem) : Res.lift (some a) M = .ok a M := rfl
theorem obind {α β : Type} (a : α) (f : α → Option β) : (some a).bind f = f a := rfl
theorem omap {α β : Type} (a : α) (f : α → β) : (some a).map f = some (f a) := rfl
theorem binD_int (op : Operator) (i j : Int) : binD op (.int i) (.int j) = (binI op i j).map .int := by
  cases op <;> rfl
theorem binI_add (i j : Int) : binI .Add i j = some (i + j) := rfl
theorem binI_sub (i j : Int) : binI .Sub i j = some (i - j) := rfl
theorem binI_mul {i j : Int} (h : (-(2 ^ 64) < i ∧ i < 2 ^ 64) ∨ (-(2 ^ 64) < j ∧ j < 2 ^ 64)) : binI .Mult i j = some (i * j) := if_pos h
theorem binI_fdiv {i j : Int} (h : 0 < j ∧ j < 1073741824) : binI .FloorDiv i j = some (i / j) := if_pos h
theorem binI_mod {i j : Int} (h : 0 < j) : binI .Mod i j = some (i % j) := if_pos h
theorem binI_pow {i j : Int} (h : 0 ≤ j ∧ j ≤ 1000000 ∧ i.natAbs < 2 ^ 64) : binI .Pow i j = some (i ^ j.toNat) := if_pos h
theorem cmp_lt (i j : Int) : cmpD .Lt (.int i) (.int j) = some (decide (i < j)) := rfl
theorem cmp_le (i j : Int) : cmpD .LtE (.int i) (.int j) = some (decide (i ≤ j)) := rfl
theorem cmp_gt (i j : Int) : cmpD .Gt (.int i) (.int j) = some (decide (j < i)) := rfl
theorem cmp_ge (i j : Int) : cmpD .GtE (.int i) (.int j) = some (decide (j ≤ i)) := rfl
theorem dep_int (i : Int) : (D.int i).dep = 0 := by simp [D.dep]
theorem deq_int (i j : Int) : deq (.int i) (.int j) = some (i == j) := by
  unfold deq
  rw [if_pos (.inl (by rw [dep_int]; decide)), D.eqv]
theorem cmp_eqi (i j : Int) : cmpD .Eq (.int i) (.int j) = some (i == j) := deq_int i j
theorem cmp_nei (i j : Int) : cmpD .NotEq (.int i) (.int j) = some (!(i == j)) := by
  show (deq (.int i) (.int j)).map _ = _
  rw [deq_int]
  rfl
theorem tru_bool (b : Bool) : D.tru (.bl b) = b := rfl
theorem truR_ok (v : Val) (M : Mem) : truR (.ok v M) = Res.lift ((v.at M).map D.tru) M := rfl
theorem ifT {α : Type} (a b : α) : (if true = true then a else b) = a := rfl
theorem ifF {α : Type} (a b : α) : (if false = true then a else b) = b := rfl

section
variable (F : Oracle) (e : Option Val) (es : Env) (M : Mem)
theorem sts_nil (env : Env) : Sts.ex F .nil env M = .ok (.nx, env) M := by rw [Sts.ex] <;> rfl
theorem sts_cons (s : St) (ss : Sts) : Sts.ex F (.cons s ss) (e :: es) M = (s.ex F (e :: es) M).bind fun p M1 => match p.1 with
      | .nx => ss.ex F p.2 M1
      | f => .ok (f, p.2) M1 := by rw [Sts.ex] <;> rfl
theorem st_expr (i : Ex) : St.ex F (.expr i) (e :: es) M = (i.ev F (e :: es) M).bind fun _ M1 => .ok (.nx, e :: es) M1 := by rw [St.ex] <;> rfl
theorem st_asg (n : Nat) (i : Ex) : St.ex F (.asg n i) (e :: es) M = (i.ev F (e :: es) M).bind fun v M1 => .ok (.nx, (e :: es).set n (some v)) M1 := by rw [St.ex] <;> rfl
theorem st_unp (ts : Tgs) (i : Ex) : St.ex F (.unp ts i) (e :: es) M = (i.ev F (e :: es) M).bind fun v M1 => match (Tg.tup ts).put v (e :: es) M1 with
      | some env1 => .ok (.nx, env1) M1
      | none => .stuck := by rw [St.ex] <;> rfl
theorem st_unm (ts : Lts) (i : Ex) : St.ex F (.unm ts i) (e :: es) M = (i.ev F (e :: es) M).bind fun v M1 => match v.at M1 with
      | some (.tup xs) => (ts.put F (xs.map .d) (e :: es) M1).bind fun env1 M2 => .ok (.nx, env1) M2
      | _ => .stuck := by rw [St.ex] <;> rfl
theorem st_par (i j : Nat) (is : Exs) : St.ex F (.par i j is) (e :: es) M = (is.ev F (e :: es) M).bind fun vs M1 => match vs with
      | [v, u] => .ok (.nx, ((e :: es).set i (some v)).set j (some u)) M1
      | _ => .stuck := by rw [St.ex] <;> rfl
theorem st_set (o i v : Ex) : St.ex F (.set o i v) (e :: es) M = (v.ev F (e :: es) M).bind fun v M1 => (o.ev F (e :: es) M1).bind fun r M2 => (i.ev F (e :: es) M2).bind fun k M3 => match setAt r k v M3 with
      | some M4 => .ok (.nx, e :: es) M4
      | none => .stuck := by rw [St.ex] <;> rfl
theorem st_ret (i : Ex) : St.ex F (.ret i) (e :: es) M = (i.ev F (e :: es) M).bind fun v M1 => .ok (.rt v, e :: es) M1 := by rw [St.ex] <;> rfl
theorem st_retN : St.ex F .retN (e :: es) M = .ok (.rt (.d .non), e :: es) M := by rw [St.ex] <;> rfl
theorem st_ifs (c : Ex) (a b : Sts) : St.ex F (.ifs c a b) (e :: es) M = (truR (c.ev F (e :: es) M)).bind fun k M1 => if k then a.ex F (e :: es) M1 else b.ex F (e :: es) M1 := by rw [St.ex] <;> rfl
theorem st_for (it : It) (tg : Tg) (b : Sts) : St.ex F (.for_ it tg b) (e :: es) M = (it.ev F (e :: es) M).bind fun xs M1 => forGo tg (fun env M => b.ex F env M) xs (e :: es) M1 := by rw [St.ex] <;> rfl
theorem st_while (c : Ex) (b : Sts) : St.ex F (.while_ c b) (e :: es) M = whileGo (fun env M => truR (c.ev F env M)) (fun env M => b.ex F env M) 1000000 (e :: es) M := by rw [St.ex] <;> rfl
theorem st_brk (env : Env) : St.ex F .brk env M = .ok (.bk, env) M := by rw [St.ex] <;> rfl
theorem st_cnt (env : Env) : St.ex F .cnt env M = .ok (.ct, env) M := by rw [St.ex] <;> rfl
theorem st_pass (env : Env) : St.ex F .pass env M = .ok (.nx, env) M := by rw [St.ex] <;> rfl
theorem st_aug (i : Nat) (op : Operator) (x : Ex) : St.ex F (.aug i op x) (e :: es) M = (x.ev F (e :: es) M).bind fun v M1 => match (e :: es)[i]?, v with
      | some (some (.d (.int a))), .d (.int b) => match augI op a b with
        | some c => .ok (.nx, (e :: es).set i (some (.d (.int c)))) M1
        | none => .stuck
      | _, _ => .stuck := by rw [St.ex] <;> rfl
theorem st_augS (o i : Ex) (op : Operator) (x : Ex) : St.ex F (.augS o i op x) (e :: es) M = (o.ev F (e :: es) M).bind fun r M1 => (i.ev F (e :: es) M1).bind fun k M2 => match getI r k M2 with
      | some a => (x.ev F (e :: es) M2).bind fun v M3 => match v with
        | .d (.int b) => match (augI op a b).bind fun c => setAt r k (.d (.int c)) M3 with
          | some M4 => .ok (.nx, e :: es) M4
          | none => .stuck
        | _ => .stuck
      | none => .stuck := by rw [St.ex] <;> rfl
theorem ex_slot (env : Env) (i : Nat) : Ex.ev F (.slot i) env M = match env[i]? with
    | some (some v) => .ok v M
    | _ => .stuck := by rw [Ex.ev] <;> rfl
theorem ex_cst (env : Env) (x : D) : Ex.ev F (.cst x) env M = .ok (.d x) M := by rw [Ex.ev] <;> rfl
end

theorem call_body {rs : List Row} (hn : (rs.map (·.x)).Nodup) {r : Row} (h : r ∈ rs) (n : Nat) (vs : List Val) (M : Mem) (env : Env) (hl : vs.length = r.ps.length) (he : vs.map some ++ List.replicate (r.N.length - vs.length) none = env) :
    call (tab rs) (n + 1) r.x vs M = (r.body.ex (call (tab rs) n) env M).bind fun p M1 => fin M.length p.1 M1 := by
  rw [call_row hn h, Fn.run, if_pos (show vs.length = r.fn.ps from hl)]
  show (r.body.ex (call (tab rs) n) (vs.map some ++ List.replicate (r.N.length - vs.length) none) M).bind _ = _
  rw [he]
theorem atI_n {α : Type} (xs : List α) (n : Nat) : atI xs (n : Int) = xs[n]? := by
  unfold atI ixN
  rw [if_pos (Int.natCast_nonneg n)]
  by_cases h : (n : Int) < (xs.length : Int)
  · rw [if_pos h]; rfl
  · rw [if_neg h, List.getElem?_eq_none (by omega)]; rfl
theorem atI_0 {α : Type} (xs : List α) : atI xs 0 = xs[0]? := atI_n xs 0
theorem atI_1 {α : Type} (xs : List α) : atI xs 1 = xs[1]? := atI_n xs 1
theorem atI_2 {α : Type} (xs : List α) : atI xs 2 = xs[2]? := atI_n xs 2
theorem ixN_n {n : Nat} {i : Nat} (h : i < n) : ixN n (i : Int) = some i := by
  unfold ixN
  rw [if_pos (Int.natCast_nonneg i), if_pos (by omega)]
  rfl
theorem ixN_0 {n : Nat} (h : 0 < n) : ixN n 0 = some 0 := ixN_n h
theorem ixN_1 {n : Nat} (h : 1 < n) : ixN n 1 = some 1 := ixN_n h
theorem ixN_2 {n : Nat} (h : 2 < n) : ixN n 2 = some 2 := ixN_n h
theorem get_setM {M : Mem} {b : Nat} {o o2 : Ob} (h : M[b]? = some o) : (M.set b o2)[b]? = some o2 := by
  rw [List.getElem?_set_self (List.getElem?_eq_some_iff.mp h).1]
theorem fin_d (n : Nat) (x : D) (M : Mem) : fin n (.rt (.d x)) M = .ok (.d x) (M.take n) := rfl
theorem fin_nx (n : Nat) (M : Mem) : fin n .nx M = .ok (.d .non) (M.take n) := rfl
theorem take_set (M : Mem) (b : Nat) (o : Ob) : (M.set b o).take M.length = M.set b o := List.take_of_length_le (by rw [List.length_set]; exact Nat.le_refl _)
theorem take_self (M : Mem) : M.take M.length = M := List.take_length
theorem set_set (M : Mem) (b : Nat) (o o2 : Ob) : (M.set b o).set b o2 = M.set b o2 := List.set_set ..
/-! loops with an invariant -/
theorem for_inv {tg : Tg} {body : Env → Mem → Res (Fl × Env)} (I : Env → Mem → Prop) (Q : Itm → Prop) (h : ∀ x env M, Q x → I env M → ∃ env1 env2 M2, tg.putI x env M = some env1 ∧ body env1 M = .ok (.nx, env2) M2 ∧ I env2 M2) :
    ∀ (items : List Itm) (env : Env) (M : Mem), (∀ x ∈ items, Q x) → I env M → ∃ env' M', forGo tg body items env M = .ok (.nx, env') M' ∧ I env' M'
  | [], env, M, _, i => ⟨env, M, rfl, i⟩
  | x :: xs, env, M, q, i => by
    obtain ⟨env1, env2, M2, h1, h2, h3⟩ := h x env M (q x (by simp)) i
    obtain ⟨env', M', h4, h5⟩ := for_inv I Q h xs env2 M2 (fun y hy => q y (by simp [hy])) h3
    refine ⟨env', M', ?_, h5⟩
    rw [forGo, h1]
    simp only [h2, bind_ok, h4]
theorem lc_inv {tg : Tg} {own : List Nat} {env : Env} {tst : Env → Mem → Res Bool} {el : Env → Mem → Res Val} (K : Nat) (I : Nat → Mem → Prop) (Q : Itm → Prop) (P : D → Prop)
    (h : ∀ x k M, k < K → Q x → I k M → ∃ env1 M1 y M2, tg.putI x (wipeE env own) M = some env1 ∧ tst env1 M = .ok true M1 ∧ el env1 M1 = .ok (.d y) M2 ∧ P y ∧ I (k + 1) M2) :
    ∀ (items : List Itm) (acc : List D) (k : Nat) (M : Mem), (∀ x ∈ items, Q x) → acc.length + items.length ≤ LIM → k + items.length ≤ K → I k M → ∃ ys M', lcGo tg own env tst el items acc M = .ok (.d (.lst (acc ++ ys))) M' ∧ ys.length = items.length ∧ (∀ y ∈ ys, P y) ∧ I (k + items.length) M'
  | [], acc, k, M, _, _, _, i => ⟨[], M, by rw [lcGo, List.append_nil], rfl, fun _ h => (nomatch h), i⟩
  | x :: xs, acc, k, M, q, hl, hk, i => by
    rw [List.length_cons] at hl hk
    obtain ⟨env1, M1, y, M2, h1, h2, h3, h4, h5⟩ := h x k M (by omega) (q x (by simp)) i
    obtain ⟨ys, M', h6, h7, h8, h9⟩ := lc_inv K I Q P h xs (acc ++ [y]) (k + 1) M2 (fun y hy => q y (by simp [hy])) (by rw [List.length_append, List.length_singleton]; omega) (by omega) h5
    refine ⟨y :: ys, M', ?_, by simp [h7], fun z hz => ?_, ?_⟩
    · rw [lcGo, h1]
      simp only [h2, bind_ok, ifT, h3]
      rw [if_pos (show acc.length < LIM by omega), h6, List.append_assoc]
      rfl
    · rcases List.mem_cons.mp hz with rfl | hz
      · exact h4
      · exact h8 z hz
    · rw [List.length_cons]
      rw [show k + (xs.length + 1) = k + 1 + xs.length by omega]
      exact h9
theorem comp_ev {F : Oracle} {it : It} {tg : Tg} {own : List Nat} {cs : Exs} {e : Ex} {env : Env} {M M1 M2 : Mem} {items : List Itm} {v : Val} (h1 : It.ev F it env M = .ok items M1) (h2 : lcGo tg own env (fun env M => cs.tst F env M) (fun env M => e.ev F env M) items [] M1 = .ok v M2) : Ex.ev F (.comp it tg own cs e) env M = .ok v M2 := by
  rw [Ex.ev, h1, bind_ok, h2]
mutual
theorem eqv_refl : (x : D) → x.eqv x = true
  | .non => by rw [D.eqv]
  | .bl b => by rw [D.eqv]; simp
  | .int i => by rw [D.eqv]; simp
  | .str s => by rw [D.eqv]; simp
  | .lst xs => by rw [D.eqv]; exact eqvs_refl xs
  | .tup xs => by rw [D.eqv]; exact eqvs_refl xs
theorem eqvs_refl : (xs : List D) → eqvs xs xs = true
  | [] => by rw [eqvs]
  | x :: xs => by rw [eqvs, eqv_refl x, eqvs_refl xs]; rfl
end
theorem cmp_eq_self {x : D} (h : x.dep ≤ 60) : cmpD .Eq x x = some true := by
  show deq x x = _
  rw [deq, if_pos (.inl h), eqv_refl]
theorem cmp_ne_self {x : D} (h : x.dep ≤ 60) : cmpD .NotEq x x = some false := by
  show (deq x x).map _ = _
  rw [deq, if_pos (.inl h), eqv_refl]
  rfl
theorem deps_int : (ms : List Int) → deps (ms.map .int) = 0
  | [] => by rw [List.map_nil, deps]
  | m :: ms => by rw [List.map_cons, deps, deps_int ms, dep_int]; rfl
theorem of_ints : (ys : List D) → (∀ y ∈ ys, ∃ i, y = .int i) → ∃ ms : List Int, ys = ms.map .int ∧ ms.length = ys.length
  | [], _ => ⟨[], rfl, rfl⟩
  | y :: ys, h => by
    obtain ⟨i, rfl⟩ := h y (by simp)
    obtain ⟨ms, rfl, _⟩ := of_ints ys fun z hz => h z (by simp [hz])
    exact ⟨i :: ms, rfl, by simp⟩
theorem bin_cat {xs ys : List D} (h : xs.length + ys.length ≤ LIM) : binD .Add (.lst xs) (.lst ys) = some (.lst (xs ++ ys)) := if_pos h
theorem bin_rep {xs : List D} {k : Int} (h : -(2 ^ 62) < k ∧ k < 2 ^ 62 ∧ xs.length * k.toNat ≤ LIM) : binD .Mult (.lst xs) (.int k) = some (.lst (List.replicate k.toNat xs).flatten) := if_pos h
theorem lim1 : (0 + 1 ≤ LIM) = True := eq_true (by decide)
theorem lim2 : (0 + 1 + 1 ≤ LIM) = True := eq_true (by decide)
theorem lim3 : (0 + 1 + 1 + 1 ≤ LIM) = True := eq_true (by decide)
theorem lim4 : (0 + 1 + 1 + 1 + 1 ≤ LIM) = True := eq_true (by decide)
theorem bi_len (xs : List D) : biD .len [.lst xs] = some (.int xs.length) := rfl
theorem bi_lent (xs : List D) : biD .len [.tup xs] = some (.int xs.length) := rfl
theorem bi_abs (i : Int) : biD .abs [.int i] = some (.int (absI i)) := rfl
theorem bi_intb (b : Bool) : biD .int [.bl b] = some (.int (if b then 1 else 0)) := rfl
theorem bi_listl (xs : List D) : biD .list [.lst xs] = some (.lst xs) := rfl
theorem bi_listt (xs : List D) : biD .list [.tup xs] = some (.lst xs) := rfl
theorem bi_tuple (xs : List D) : biD .tuple [.lst xs] = some (.tup xs) := rfl
theorem bi_max (i j : Int) : biD .max [.int i, .int j] = some (.int (max2I i j)) := rfl
theorem bi_min (i j : Int) : biD .min [.int i, .int j] = some (.int (min2I i j)) := rfl
theorem allB_true : (ys : List D) → (∀ y ∈ ys, y = .bl true) → ∃ bs, allB ys = some bs ∧ bs.all id = true
  | [], _ => ⟨[], rfl, rfl⟩
  | y :: ys, h => by
    obtain ⟨bs, h1, h2⟩ := allB_true ys fun z hz => h z (by simp [hz])
    rw [h y (by simp)]
    exact ⟨true :: bs, by rw [allB, h1]; rfl, by simpa using h2⟩
theorem bi_all {ys : List D} (h : ∀ y ∈ ys, y = .bl true) : biD .all [.lst ys] = some (.bl true) := by
  obtain ⟨bs, h1, h2⟩ := allB_true ys h
  show (allB ys).map _ = _
  rw [h1, Option.map, h2]
theorem rep_ints (v : Int) : (n : Nat) → (List.replicate n [D.int v]).flatten = (List.replicate n v).map .int
  | 0 => rfl
  | n + 1 => by
    rw [List.replicate_succ, List.flatten_cons, rep_ints v n, List.replicate_succ]
    rfl
def upto (n : Nat) : List Itm := (List.range n).map fun (k : Nat) => .v (.d (.int (0 + (k : Int))))
theorem upto_len (n : Nat) : (upto n).length = n := by rw [upto, List.length_map, List.length_range]
theorem upto_mem {n : Nat} {x : Itm} (h : x ∈ upto n) : ∃ k : Nat, k < n ∧ x = .v (.d (.int (0 + (k : Int)))) := by
  obtain ⟨k, h1, rfl⟩ := List.mem_map.mp h
  exact ⟨k, List.mem_range.mp h1, rfl⟩
theorem rng_map (n : Nat) : List.map Itm.v (rng 0 ((n : Int)).toNat) = upto n := by
  rw [rng, List.map_map, Int.toNat_natCast]
  rfl
theorem rng1_ev {F : Oracle} {a : Ex} {env : Env} {M M1 : Mem} {j : Int} (n : Nat) (h : a.ev F env M = .ok (.d (.int j)) M1) (hj : j = n) (hn : n ≤ 100000) : It.ev F (.rng1 a) env M = .ok (upto n) M1 := by
  subst hj
  have : -RNG ≤ (n : Int) ∧ (n : Int) < RNG := by
    have : RNG = 100000000 := rfl
    rw [this]
    omega
  rw [It.ev, h, bind_ok]
  show (if -RNG ≤ (n : Int) ∧ (n : Int) < RNG then _ else _) = _
  rw [if_pos this, rng_map]
theorem rng_len (lo : Int) (n : Nat) : (rng lo n).length = n := by rw [rng, List.length_map, List.length_range]
theorem atI_nn {α : Type} {xs : List α} {i : Int} (h : 0 ≤ i) : atI xs i = xs[i.toNat]? := by
  obtain ⟨k, rfl⟩ := Int.eq_ofNat_of_zero_le h
  exact atI_n xs k
end VI
set_option maxHeartbeats 2000000
namespace VI
open PySem PySem.Spec PyProof.Rows L2
/-! what all laws here share: the box of draws, the likeness -/
local macro_rules | `(tactic| walk_at "vi") => `(tactic| simp -implicitDefEqProofs only [sts_cons, sts_nil, st_expr, st_asg, st_unp, st_unm, st_par, st_set, st_ret, st_retN, st_ifs, st_for, st_brk, st_cnt, st_pass, Ex.ev.eq_1, Ex.ev.eq_2, Ex.ev.eq_3, Ex.ev.eq_4, Ex.ev.eq_5, Ex.ev.eq_6, Ex.ev.eq_7, Ex.ev.eq_8, Ex.ev.eq_9, Ex.ev.eq_10, Ex.ev.eq_11, Ex.ev.eq_12, Ex.ev.eq_13, Ex.ev.eq_14, Ex.ev.eq_15, Ex.ev.eq_16, Ex.ev.eq_17, Ex.ev.eq_19, Exs.ev, Exs.tst, Lts.put, Tg.put, Tgs.put, Tg.putI, wipeE,
  List.map_cons, List.map_nil, List.length_cons, List.length_nil, List.getElem?_cons_zero, List.getElem?_cons_succ, List.set_cons_zero, List.set_cons_succ,
  bind_ok, at_d, pl_d, at_scr, obind, omap, lift_some, cmp_gt, cmp_lt, cmp_le, cmp_ge, cmp_eqi, cmp_nei, binD_int, binI_add, binI_sub, ixD, truR_ok, tru_bool, ifT, ifF, ats, datas, atI_0, atI_1, atI_2, fin_d, fin_nx, decide_true, decide_false, if_true, if_false, Bool.false_eq_true, lim1, lim2, lim3, lim4,
  VI.bi_len, VI.bi_lent, bi_abs, bi_intb, bi_listl, bi_listt, bi_tuple, bi_max, bi_min, List.length_map, List.any_cons, List.any_nil, Bool.or_false, Bool.true_or, Bool.false_or, Bool.or_true, beq_self_eq_true, *])
def b_take : Sts := (.cons (.ifs (.cmp .Gt (.ix (.slot 0) (.cst (.int 0))) (.cst (.int 0))) (.cons (.unm (.sub (.slot 0) (.cst (.int 0)) (.slot 2 .nil)) (.bi .divmod (.cons (.ix (.slot 0) (.cst (.int 0))) (.cons (.slot 1) .nil)))) (.cons (.ret (.slot 2)) .nil)) .nil) (.cons (.ifs (.cmp .Gt (.slot 1) (.bin .Pow (.cst (.int 10)) (.cst (.int 7)))) (.cons (.ret (.bin .Mod (.bin .Add (.call "_law_take" (.cons (.slot 0) (.cons (.bin .Pow (.cst (.int 10)) (.cst (.int 7))) .nil))) (.bin .Mult (.bin .Pow (.cst (.int 10)) (.cst (.int 7))) (.call "_law_take" (.cons (.slot 0) (.cons (.bin .Add (.bin .FloorDiv (.bin .Sub (.slot 1) (.cst (.int 1))) (.bin .Pow (.cst (.int 10)) (.cst (.int 7)))) (.cst (.int 1))) .nil))))) (.slot 1))) .nil) .nil) (.cons (.set (.slot 0) (.cst (.int 2)) (.bin .Add (.ix (.slot 0) (.cst (.int 2))) (.cst (.int 1)))) (.cons (.asg 3 (.bin .Add (.cst (.int 69621)) (.bin .Mult (.ix (.slot 0) (.cst (.int 2))) (.ix (.slot 0) (.cst (.int 2)))))) (.cons (.asg 4 (.bin .Mod (.bin .Mult (.bin .Add (.ix (.slot 0) (.cst (.int 1))) (.bin .Mult (.cst (.int 39373)) (.ix (.slot 0) (.cst (.int 2))))) (.slot 3)) (.cst (.int 2147483587)))) (.cons (.asg 5 (.bin .Mod (.bin .Add (.bin .Mult (.slot 4) (.bin .Add (.bin .Mod (.slot 4) (.cst (.int 30011))) (.cst (.int 5)))) (.ix (.slot 0) (.cst (.int 2)))) (.cst (.int 2147483563)))) (.cons (.ret (.bin .Mod (.bin .FloorDiv (.bin .Mod (.bin .Mult (.slot 5) (.bin .Add (.bin .Mod (.slot 5) (.cst (.int 1013))) (.cst (.int 3)))) (.cst (.int 998244353))) (.cst (.int 16))) (.slot 1))) .nil)))))))
def b_box : Sts := (.cons (.asg 2 (.ife (.cmp .Lt (.slot 1) (.bi .len (.cons (.slot 0) .nil))) (.ix (.slot 0) (.slot 1)) (.cst (.int 0)))) (.cons (.ret (.mk (.cons (.bin .Mult (.bi .abs (.cons (.slot 2) .nil)) (.bi .int (.cons (.cmp .GtE (.bi .abs (.cons (.slot 2) .nil)) (.bin .Pow (.cst (.int 10)) (.cst (.int 18)))) .nil))) (.cons (.bin .Mod (.bin .Mult (.bin .Add (.bin .Add (.bin .Mod (.slot 2) (.cst (.int 2147483629))) (.bin .Mult (.cst (.int 15485863)) (.slot 1))) (.cst (.int 43))) (.cst (.int 48271))) (.cst (.int 2147483647))) (.cons (.cst (.int 0)) .nil))))) .nil))
def b_same : Sts := (.cons (.ifs (.isi (.slot 1) [.list, .tuple]) (.cons (.ifs (.or_ (.cmp .NotEq (.isi (.slot 0) [.list]) (.isi (.slot 1) [.list])) (.cmp .NotEq (.isi (.slot 0) [.tuple]) (.isi (.slot 1) [.tuple]))) (.cons (.ret (.cst (.bl false))) .nil) .nil) (.cons (.ret (.and_ (.cmp .Eq (.bi .len (.cons (.slot 0) .nil)) (.bi .len (.cons (.slot 1) .nil))) (.bi .all (.cons (.comp (.zip (.slot 0) (.slot 1)) (.tup (.cons (.slot 2) (.cons (.slot 3) .nil))) [2, 3] .nil (.call "_law_same" (.cons (.slot 2) (.cons (.slot 3) .nil)))) .nil)))) .nil)) .nil) (.cons (.ifs (.or_ (.cmp .Is (.slot 1) (.cst .non)) (.isi (.slot 1) [.str])) (.cons (.ret (.and_ (.cmp .Eq (.slot 0) (.slot 1)) (.cmp .Eq (.isi (.slot 0) [.str]) (.isi (.slot 1) [.str])))) .nil) .nil) (.cons (.ret (.and_ (.isi (.slot 0) [.int]) (.and_ (.cmp .Eq (.isi (.slot 0) [.bool]) (.isi (.slot 1) [.bool])) (.cmp .Eq (.slot 0) (.slot 1))))) .nil)))
structure Box where
  a : Int
  b : Int
  c : Int
def Box.o (x : Box) : Ob := .lst [.int x.a, .int x.b, .int x.c]
def stp (c : Int) : Int := 69621 + c * c
def once (b c : Int) : Int := (b + 39373 * c) * stp c % 2147483587
def twice (b c : Int) : Int := (once b c * (once b c % 30011 + 5) + c) % 2147483563
def draw (b c : Int) : Int := twice b c * (twice b c % 1013 + 3) % 998244353 / 16
def takeV (x : Box) (s : Int) : Int := if 0 < x.a then x.a % s else draw x.b (x.c + 1) % s
def takeB (x : Box) (s : Int) : Box := if 0 < x.a then { x with a := x.a / s } else { x with c := x.c + 1 }
theorem take_body (F : Oracle) (M : Mem) (b : Nat) (x : Box) (s : Int) (h : M[b]? = some x.o) (h0 : 0 < s) (h1 : s ≤ 10000000) (h2 : 0 ≤ x.b) (h3 : x.b < 2147483647) (h4 : 0 ≤ x.c) (h5 : x.c < 1000000000) :
    ((b_take.ex F [some (.ref b), some (.d (.int s)), none, none, none, none] M).bind fun p M1 => fin M.length p.1 M1) = .ok (.d (.int (takeV x s))) (M.set b (takeB x s).o) := by
  have hb : b < M.length := (List.getElem?_eq_some_iff.mp h).1
  have g0 : (Val.ref b).at M = some (.lst [.int x.a, .int x.b, .int x.c]) := at_ref h
  have g1 : ∀ xs, (Val.ref b).at (M.set b (.lst xs)) = some (.lst xs) := fun xs => at_ref (get_setM h)
  have s0 : ∀ y, setAt (.ref b) (.d (.int 0)) (.d y) M = some (M.set b (.lst [y, .int x.b, .int x.c])) := fun y => by
    simp only [setAt, show M[b]? = some (.lst [.int x.a, .int x.b, .int x.c]) from h]; rfl
  have s2 : ∀ y, setAt (.ref b) (.d (.int 2)) (.d y) M = some (M.set b (.lst [.int x.a, .int x.b, y])) := fun y => by
    simp only [setAt, show M[b]? = some (.lst [.int x.a, .int x.b, .int x.c]) from h]; rfl
  have e0 : binI .Pow 10 7 = some 10000000 := by decide +kernel
  have hs : decide (10000000 < s) = false := decide_eq_false (by omega)
  by_cases ha : 0 < x.a
  · have ha' : decide (0 < x.a) = true := decide_eq_true ha
    have e1 : biD .divmod [.int x.a, .int s] = some (.tup [.int (x.a / s), .int (x.a % s)]) := if_pos ⟨h0, by omega⟩
    unfold b_take
    walk_at "vi"
    simp only [takeV, takeB, if_pos ha, Box.o]
    rw [take_set]
  · have ha' : decide (0 < x.a) = false := decide_eq_false ha
    unfold b_take
    have hz : (Val.ref b).at M = some (.lst [.int x.a, .int x.b, .int x.c]) := g0
    have o1 : once x.b (x.c + 1) = (x.b + 39373 * (x.c + 1)) * (69621 + (x.c + 1) * (x.c + 1)) % 2147483587 := rfl
    have o2 : twice x.b (x.c + 1) = (once x.b (x.c + 1) * (once x.b (x.c + 1) % 30011 + 5) + (x.c + 1)) % 2147483563 := rfl
    have m1 : binI .Mult (x.c + 1) (x.c + 1) = some ((x.c + 1) * (x.c + 1)) := binI_mul (.inl (by constructor <;> omega))
    have m2 : binI .Mult 39373 (x.c + 1) = some (39373 * (x.c + 1)) := binI_mul (.inl (by decide))
    have m3 : binI .Mult (x.b + 39373 * (x.c + 1)) (69621 + (x.c + 1) * (x.c + 1)) = some ((x.b + 39373 * (x.c + 1)) * (69621 + (x.c + 1) * (x.c + 1))) := binI_mul (.inl (by constructor <;> omega))
    have b1 : 0 ≤ once x.b (x.c + 1) ∧ once x.b (x.c + 1) < 2147483587 := ⟨Int.emod_nonneg _ (by decide), Int.emod_lt_of_pos _ (by decide)⟩
    have b2 : 0 ≤ twice x.b (x.c + 1) ∧ twice x.b (x.c + 1) < 2147483563 := ⟨Int.emod_nonneg _ (by decide), Int.emod_lt_of_pos _ (by decide)⟩
    rw [o1] at b1
    rw [o2, o1] at b2
    generalize hA : (x.b + 39373 * (x.c + 1)) * (69621 + (x.c + 1) * (x.c + 1)) = A at *
    have d1 : binI .Mod A 2147483587 = some (A % 2147483587) := binI_mod (by decide)
    have d2 : binI .Mod (A % 2147483587) 30011 = some (A % 2147483587 % 30011) := binI_mod (by decide)
    have m4 : binI .Mult (A % 2147483587) (A % 2147483587 % 30011 + 5) = some (A % 2147483587 * (A % 2147483587 % 30011 + 5)) := binI_mul (.inl (by constructor <;> omega))
    generalize hB : A % 2147483587 * (A % 2147483587 % 30011 + 5) + (x.c + 1) = B at *
    have d3 : binI .Mod B 2147483563 = some (B % 2147483563) := binI_mod (by decide)
    have d4 : binI .Mod (B % 2147483563) 1013 = some (B % 2147483563 % 1013) := binI_mod (by decide)
    have m5 : binI .Mult (B % 2147483563) (B % 2147483563 % 1013 + 3) = some (B % 2147483563 * (B % 2147483563 % 1013 + 3)) := binI_mul (.inl (by constructor <;> omega))
    generalize hC : B % 2147483563 * (B % 2147483563 % 1013 + 3) = C at *
    have d5 : binI .Mod C 998244353 = some (C % 998244353) := binI_mod (by decide)
    have d6 : binI .FloorDiv (C % 998244353) 16 = some (C % 998244353 / 16) := binI_fdiv (by decide)
    have d7 : binI .Mod (C % 998244353 / 16) s = some (C % 998244353 / 16 % s) := binI_mod h0
    clear o1 o2
    walk_at "vi"
    simp only [takeV, takeB, if_neg ha, Box.o, draw, twice, once, stp, hA, hB, hC, take_set, set_set]
/-! the box -/
structure At (M : Mem) (b N : Nat) : Prop where
  ex : ∃ x : Box, M[b]? = some x.o ∧ 0 ≤ x.b ∧ x.b < 2147483647 ∧ 0 ≤ x.c ∧ x.c ≤ N
theorem At.up {M : Mem} {b N N' : Nat} (h : At M b N) (hl : N ≤ N') : At M b N' := by
  obtain ⟨x, h1, h2, h3, h4, h5⟩ := h
  exact ⟨x, h1, h2, h3, h4, by omega⟩
theorem At.lt {M : Mem} {b N : Nat} (h : At M b N) : b < M.length := by
  obtain ⟨x, h1, _⟩ := h
  exact (List.getElem?_eq_some_iff.mp h1).1
theorem draw_nn (b c : Int) : 0 ≤ draw b c := by
  unfold draw
  exact Int.ediv_nonneg (Int.emod_nonneg _ (by decide)) (by decide)
/-- an oracle that knows the box -/
def HasTake (F : Oracle) : Prop := ∀ (M : Mem) (b : Nat) (x : Box) (s : Int), M[b]? = some x.o → 0 < s → s ≤ 10000000 → 0 ≤ x.b → x.b < 2147483647 → 0 ≤ x.c → x.c < 1000000000 →
    F "_law_take" [.ref b, .d (.int s)] M = .ok (.d (.int (takeV x s))) (M.set b (takeB x s).o)
theorem takes {F : Oracle} (hF : HasTake F) {N : Nat} (M : Mem) (b : Nat) (s : Int) (h : At M b N) (hN : N < 100000000) (h0 : 0 < s) (h1 : s ≤ 10000000) :
    ∃ v M', F "_law_take" [.ref b, .d (.int s)] M = .ok (.d (.int v)) M' ∧ 0 ≤ v ∧ v < s ∧ At M' b (N + 1) ∧ M'.length = M.length ∧ ∀ j, j ≠ b → M'[j]? = M[j]? := by
  obtain ⟨x, g1, g2, g3, g4, g5⟩ := h
  refine ⟨takeV x s, M.set b (takeB x s).o, hF M b x s g1 h0 h1 g2 g3 g4 (by omega), ?_, ?_, ?_, List.length_set, fun j hj => List.getElem?_set_ne (Ne.symm hj)⟩
  · unfold takeV
    split
    · exact Int.emod_nonneg _ (by omega)
    · exact Int.emod_nonneg _ (by omega)
  · unfold takeV
    split
    · exact Int.emod_lt_of_pos _ h0
    · exact Int.emod_lt_of_pos _ h0
  · refine ⟨takeB x s, get_setM g1, ?_⟩
    unfold takeB
    split
    · exact ⟨g2, g3, g4, by show x.c ≤ _; omega⟩
    · exact ⟨g2, g3, by show 0 ≤ x.c + 1; omega, by show x.c + 1 ≤ _; omega⟩
theorem box_body (F : Oracle) (v : Val) (M : Mem) (ns : List Int) (k : Nat) (hk : k < 100) (hv : v.at M = some (.lst (ns.map .int))) :
    ∃ a c : Int, ((b_box.ex F [some v, some (.d (.int k)), none] M).bind fun p M1 => fin M.length p.1 M1) = .ok (.ref M.length) (M ++ [.lst [.int a, .int c, .int 0]]) ∧ 0 ≤ c ∧ c < 2147483647 := by
  have hm1 : ∀ c : Int, binI .Mod c 2147483629 = some (c % 2147483629) := fun c => binI_mod (by decide)
  have hm2 : ∀ c : Int, binI .Mod c 2147483647 = some (c % 2147483647) := fun c => binI_mod (by decide)
  have hm3 : binI .Mult 15485863 (k : Int) = some (15485863 * (k : Int)) := binI_mul (.inl (by decide))
  have hm4 : ∀ c : Int, binI .Mult c 48271 = some (c * 48271) := fun c => binI_mul (.inr (by decide))
  have hm5 : ∀ (c : Int) (b : Bool), binI .Mult c (if b = true then 1 else 0) = some (c * (if b = true then 1 else 0)) := fun c b => binI_mul (.inr (by cases b <;> decide))
  have hp : binI .Pow 10 18 = some 1000000000000000000 := by decide +kernel
  have hl : ¬ M.length < M.length := Nat.lt_irrefl _
  have fl : ∀ M1, fin M.length (.rt (.ref M.length)) M1 = .ok (.ref M.length) M1 := fun M1 => if_neg hl
  clear hl
  unfold b_box
  by_cases h : k < ns.length
  · have h1 : decide ((k : Int) < (ns.length : Int)) = true := decide_eq_true (by omega)
    have h2 : atI (ns.map D.int) (k : Int) = some (.int ns[k]) := by
      rw [atI_n, List.getElem?_map, List.getElem?_eq_getElem h]
      rfl
    generalize ns[k] = c at *
    refine ⟨absI c * (if decide (1000000000000000000 ≤ absI c) = true then 1 else 0), (c % 2147483629 + 15485863 * k + 43) * 48271 % 2147483647, ?_, Int.emod_nonneg _ (by decide), Int.emod_lt_of_pos _ (by decide)⟩
    clear h
    walk_at "vi"
  · have h1 : decide ((k : Int) < (ns.length : Int)) = false := decide_eq_false (by omega)
    refine ⟨absI 0 * (if decide (1000000000000000000 ≤ absI 0) = true then 1 else 0), ((0 : Int) % 2147483629 + 15485863 * k + 43) * 48271 % 2147483647, ?_, Int.emod_nonneg _ (by decide), Int.emod_lt_of_pos _ (by decide)⟩
    clear h
    walk_at "vi"
/-! the likeness of data with itself -/
theorem cmp_ne_blr (b : Bool) : cmpD .NotEq (.bl b) (.bl b) = some false := cmp_ne_self (by simp [D.dep])
theorem cmp_eq_blr (b : Bool) : cmpD .Eq (.bl b) (.bl b) = some true := cmp_eq_self (by simp [D.dep])
theorem same_int (F : Oracle) (M : Mem) (i : Int) : ((b_same.ex F [some (.d (.int i)), some (.d (.int i)), none, none] M).bind fun p M1 => fin M.length p.1 M1) = .ok (.d (.bl true)) M := by
  have h1 : isT .list (.int i) = false := rfl
  have h2 : isT .tuple (.int i) = false := rfl
  have h3 : isT .str (.int i) = false := rfl
  have h4 : isT .int (.int i) = true := rfl
  have h5 : isT .bool (.int i) = false := rfl
  have h6 : cmpD .Is (.int i) .non = some false := rfl
  have h7 := cmp_eq_blr false
  unfold b_same
  walk_at "vi"
  simp only [take_self]
theorem same_list (F : Oracle) (M : Mem) (xs : List D) (hl : xs.length ≤ LIM) (h : ∀ y ∈ xs, F "_law_same" [.d y, .d y] M = .ok (.d (.bl true)) M) :
    ((b_same.ex F [some (.d (.lst xs)), some (.d (.lst xs)), none, none] M).bind fun p M1 => fin M.length p.1 M1) = .ok (.d (.bl true)) M := by
  have h1 : isT .list (.lst xs) = true := rfl
  have h2 : isT .tuple (.lst xs) = false := rfl
  have h7 := cmp_ne_blr false
  have h8 := cmp_ne_blr true
  have hz : It.ev F (.zip (.slot 0) (.slot 1)) [some (.d (.lst xs)), some (.d (.lst xs)), none, none] M = .ok ((xs.zip xs).map fun p => .p [.d p.1, .d p.2]) M := by
    rw [It.ev]
    simp only [Ex.ev.eq_1, List.getElem?_cons_zero, List.getElem?_cons_succ, bind_ok]
  obtain ⟨ys, M4, hc, hn, hp, rfl⟩ := lc_inv (tg := .tup (.cons (.slot 2) (.cons (.slot 3) .nil))) (own := [2, 3]) (env := [some (.d (.lst xs)), some (.d (.lst xs)), none, none]) (tst := fun env M => Exs.tst F .nil env M) (el := fun env M => Ex.ev F (.call "_law_same" (.cons (.slot 2) (.cons (.slot 3) .nil))) env M)
    xs.length (fun _ M' => M' = M) (fun it => ∃ y ∈ xs, it = .p [.d y, .d y]) (fun y => y = .bl true) (fun it k M' hk hx hM => by
      obtain ⟨y, hy, rfl⟩ := hx
      subst hM
      have hh := h y hy
      refine ⟨_, M', .bl true, M', rfl, by rw [Exs.tst], ?_, rfl, rfl⟩
      walk_at "vi") ((xs.zip xs).map fun p => .p [.d p.1, .d p.2]) [] 0 M (fun it hi => by
        obtain ⟨p, hp, rfl⟩ := List.mem_map.mp hi
        obtain ⟨n, hn, e⟩ := List.getElem_of_mem hp
        rw [List.getElem_zip] at e
        rw [← e]
        exact ⟨_, List.getElem_mem _, rfl⟩) (by rw [List.length_map, List.length_zip, List.length_nil]; omega) (by rw [List.length_map, List.length_zip]; omega) rfl
  have hv := comp_ev hz hc
  have hal := bi_all hp
  rw [List.nil_append] at hv
  clear h hc
  unfold b_same
  walk_at "vi"
  simp only [take_self]
theorem lc_map {tg : Tg} {own : List Nat} {env : Env} {tst : Env → Mem → Res Bool} {el : Env → Mem → Res Val} {M : Mem} {α : Type} (g : α → Itm) (f : α → D) :
    ∀ (as : List α) (acc : List D), (∀ a ∈ as, ∃ env1, tg.putI (g a) (wipeE env own) M = some env1 ∧ tst env1 M = .ok true M ∧ el env1 M = .ok (.d (f a)) M) → acc.length + as.length ≤ LIM →
      lcGo tg own env tst el (as.map g) acc M = .ok (.d (.lst (acc ++ as.map f))) M
  | [], acc, _, _ => by rw [List.map_nil, lcGo, List.map_nil, List.append_nil]
  | a :: as, acc, h, hl => by
    obtain ⟨env1, h1, h2, h3⟩ := h a (by simp)
    rw [List.length_cons] at hl
    rw [List.map_cons, lcGo, h1]
    simp only [h2, bind_ok, ifT, h3]
    rw [if_pos (show acc.length < LIM by omega), lc_map g f as (acc ++ [f a]) (fun b hb => h b (by simp [hb])) (by rw [List.length_append, List.length_singleton]; omega), List.append_assoc]
    rfl
theorem intsOf_map : (ns : List Int) → intsOf (ns.map .int) = some ns
  | [] => rfl
  | n :: ns => by rw [List.map_cons, intsOf, intsOf_map ns]; rfl
theorem zipIdx_range {α : Type} (d : α) (l : List α) : l.zipIdx = (List.range l.length).map fun i => (l[i]?.getD d, i) := by
  apply List.ext_getElem?
  intro i
  rw [List.getElem?_zipIdx, List.getElem?_map]
  by_cases h : i < l.length
  · rw [List.getElem?_range h, List.getElem?_eq_getElem h]
    simp [List.getElem?_eq_getElem h]
  · rw [List.getElem?_eq_none (by omega), List.getElem?_eq_none (by rw [List.length_range]; omega)]
    rfl
end VI

section
set_option Elab.async false
set_option linter.all false
set_option maxRecDepth 100000
namespace Law
open PySem PySem.Spec PyProof.Rows L2 VI
def topS (i : Nat) : PySem.Stmt := PySem.Challenge.pw_crossgrants_k25_heights_of_pointers.main.body.getD i (.Pass ⟨0, 0, 0, 0⟩)
abbrev s_p_heights : PySem.Stmt := topS 1
abbrev s_p_next_heights : PySem.Stmt := topS 2
abbrev s_p_heights_behind : PySem.Stmt := topS 3
abbrev s_l_box : PySem.Stmt := topS 5
abbrev s_l_take : PySem.Stmt := topS 6
abbrev s_l_folded : PySem.Stmt := topS 7
abbrev s_l_same : PySem.Stmt := topS 8
abbrev s_l_places : PySem.Stmt := topS 9
abbrev s_l_size : PySem.Stmt := topS 10
abbrev s_l_counted : PySem.Stmt := topS 11
abbrev s_l_gone_on : PySem.Stmt := topS 12
abbrev s_l_right : PySem.Stmt := topS 13
abbrev s_law : PySem.Stmt := topS 14
def b_p_heights : Sts := (.cons (.asg 1 (.new (.bin .Mult (.lst (.cons (.cst (.int 0)) .nil)) (.bi .len (.cons (.slot 0) .nil))))) (.cons (.for_ (.seq (.slot 0)) (.slot 2) (.cons (.augS (.slot 1) (.slot 2) .Add (.cst (.int 1))) .nil)) (.cons (.ret (.frz (.slot 1))) .nil)))
def r_p_heights : VI.Row := ⟨"heights", s_p_heights, ["places", "found", "place"], ["places"], b_p_heights⟩
def b_p_next_heights : Sts := (.cons (.asg 1 (.comp (.seq (.slot 0)) (.slot 2) [2] .nil (.bin .Sub (.slot 2) (.bi .int (.cons (.cmp .Gt (.slot 2) (.cst (.int 0))) .nil))))) (.cons (.ret (.comp (.enm (.slot 1)) (.tup (.cons (.slot 3) (.cons (.slot 4) .nil))) [3, 4] .nil (.bin .Add (.slot 4) (.bi .int (.cons (.cmp .Gt (.ix (.slot 0) (.bin .Sub (.slot 3) (.cst (.int 1)))) (.cst (.int 0))) .nil))))) .nil))
def r_p_next_heights : VI.Row := ⟨"next_heights", s_p_next_heights, ["tall", "left", "height", "at", "rest"], ["tall"], b_p_next_heights⟩
def b_p_heights_behind : Sts := (.cons (.asg 2 (.call "heights" (.cons (.slot 0) .nil))) (.cons (.for_ (.rng1 (.slot 1)) (.slot 3) (.cons (.asg 2 (.call "next_heights" (.cons (.slot 2) .nil))) .nil)) (.cons (.ret (.slot 2)) .nil)))
def r_p_heights_behind : VI.Row := ⟨"heights_behind", s_p_heights_behind, ["places", "beats", "found", "turn"], ["places", "beats"], b_p_heights_behind⟩
def b_l_box : Sts := (.cons (.asg 2 (.ife (.cmp .Lt (.slot 1) (.bi .len (.cons (.slot 0) .nil))) (.ix (.slot 0) (.slot 1)) (.cst (.int 0)))) (.cons (.ret (.mk (.cons (.bin .Mult (.bi .abs (.cons (.slot 2) .nil)) (.bi .int (.cons (.cmp .GtE (.bi .abs (.cons (.slot 2) .nil)) (.bin .Pow (.cst (.int 10)) (.cst (.int 18)))) .nil))) (.cons (.bin .Mod (.bin .Mult (.bin .Add (.bin .Add (.bin .Mod (.slot 2) (.cst (.int 2147483629))) (.bin .Mult (.cst (.int 15485863)) (.slot 1))) (.cst (.int 43))) (.cst (.int 48271))) (.cst (.int 2147483647))) (.cons (.cst (.int 0)) .nil))))) .nil))
def r_l_box : VI.Row := ⟨"_law_box", s_l_box, ["_law_script", "_law_k", "_law_cell"], ["_law_script", "_law_k"], b_l_box⟩
def b_l_take : Sts := (.cons (.ifs (.cmp .Gt (.ix (.slot 0) (.cst (.int 0))) (.cst (.int 0))) (.cons (.unm (.sub (.slot 0) (.cst (.int 0)) (.slot 2 .nil)) (.bi .divmod (.cons (.ix (.slot 0) (.cst (.int 0))) (.cons (.slot 1) .nil)))) (.cons (.ret (.slot 2)) .nil)) .nil) (.cons (.ifs (.cmp .Gt (.slot 1) (.bin .Pow (.cst (.int 10)) (.cst (.int 7)))) (.cons (.ret (.bin .Mod (.bin .Add (.call "_law_take" (.cons (.slot 0) (.cons (.bin .Pow (.cst (.int 10)) (.cst (.int 7))) .nil))) (.bin .Mult (.bin .Pow (.cst (.int 10)) (.cst (.int 7))) (.call "_law_take" (.cons (.slot 0) (.cons (.bin .Add (.bin .FloorDiv (.bin .Sub (.slot 1) (.cst (.int 1))) (.bin .Pow (.cst (.int 10)) (.cst (.int 7)))) (.cst (.int 1))) .nil))))) (.slot 1))) .nil) .nil) (.cons (.set (.slot 0) (.cst (.int 2)) (.bin .Add (.ix (.slot 0) (.cst (.int 2))) (.cst (.int 1)))) (.cons (.asg 3 (.bin .Add (.cst (.int 69621)) (.bin .Mult (.ix (.slot 0) (.cst (.int 2))) (.ix (.slot 0) (.cst (.int 2)))))) (.cons (.asg 4 (.bin .Mod (.bin .Mult (.bin .Add (.ix (.slot 0) (.cst (.int 1))) (.bin .Mult (.cst (.int 39373)) (.ix (.slot 0) (.cst (.int 2))))) (.slot 3)) (.cst (.int 2147483587)))) (.cons (.asg 5 (.bin .Mod (.bin .Add (.bin .Mult (.slot 4) (.bin .Add (.bin .Mod (.slot 4) (.cst (.int 30011))) (.cst (.int 5)))) (.ix (.slot 0) (.cst (.int 2)))) (.cst (.int 2147483563)))) (.cons (.ret (.bin .Mod (.bin .FloorDiv (.bin .Mod (.bin .Mult (.slot 5) (.bin .Add (.bin .Mod (.slot 5) (.cst (.int 1013))) (.cst (.int 3)))) (.cst (.int 998244353))) (.cst (.int 16))) (.slot 1))) .nil)))))))
def r_l_take : VI.Row := ⟨"_law_take", s_l_take, ["_law_box_here", "_law_size_here", "_law_found", "_law_step", "_law_once", "_law_twice"], ["_law_box_here", "_law_size_here"], b_l_take⟩
def b_l_folded : Sts := (.cons (.asg 2 (.new (.bi .list (.cons (.sl (.slot 0) .nil (.cons (.slot 1) .nil)) .nil)))) (.cons (.for_ (.enm (.sl (.slot 0) (.cons (.slot 1) .nil) (.cons (.cst (.int 63)) .nil))) (.tup (.cons (.slot 3) (.cons (.slot 4) .nil))) (.cons (.set (.slot 2) (.bin .Mod (.slot 3) (.slot 1)) (.bin .Add (.ix (.slot 2) (.bin .Mod (.slot 3) (.slot 1))) (.bin .Mult (.slot 4) (.bin .Add (.slot 3) (.cst (.int 2)))))) .nil)) (.cons (.ret (.frz (.slot 2))) .nil)))
def r_l_folded : VI.Row := ⟨"_law_folded", s_l_folded, ["_law_script", "_law_size_here", "_law_cells", "_law_k", "_law_cell"], ["_law_script", "_law_size_here"], b_l_folded⟩
def b_l_same : Sts := (.cons (.ifs (.isi (.slot 1) [.list, .tuple]) (.cons (.ifs (.or_ (.cmp .NotEq (.isi (.slot 0) [.list]) (.isi (.slot 1) [.list])) (.cmp .NotEq (.isi (.slot 0) [.tuple]) (.isi (.slot 1) [.tuple]))) (.cons (.ret (.cst (.bl false))) .nil) .nil) (.cons (.ret (.and_ (.cmp .Eq (.bi .len (.cons (.slot 0) .nil)) (.bi .len (.cons (.slot 1) .nil))) (.bi .all (.cons (.comp (.zip (.slot 0) (.slot 1)) (.tup (.cons (.slot 2) (.cons (.slot 3) .nil))) [2, 3] .nil (.call "_law_same" (.cons (.slot 2) (.cons (.slot 3) .nil)))) .nil)))) .nil)) .nil) (.cons (.ifs (.or_ (.cmp .Is (.slot 1) (.cst .non)) (.isi (.slot 1) [.str])) (.cons (.ret (.and_ (.cmp .Eq (.slot 0) (.slot 1)) (.cmp .Eq (.isi (.slot 0) [.str]) (.isi (.slot 1) [.str])))) .nil) .nil) (.cons (.ret (.and_ (.isi (.slot 0) [.int]) (.and_ (.cmp .Eq (.isi (.slot 0) [.bool]) (.isi (.slot 1) [.bool])) (.cmp .Eq (.slot 0) (.slot 1))))) .nil)))
def r_l_same : VI.Row := ⟨"_law_same", s_l_same, ["_law_found", "_law_due", "_law_one", "_law_other"], ["_law_found", "_law_due"], b_l_same⟩
def b_l_places : Sts := (.cons (.unp (.cons (.slot 2) (.cons (.slot 3) .nil)) (.tup (.cons (.call "_law_take" (.cons (.slot 0) (.cons (.cst (.int 6)) .nil))) (.cons (.call "_law_take" (.cons (.slot 0) (.cons (.slot 1) .nil))) .nil)))) (.cons (.ifs (.cmp .Eq (.slot 2) (.cst (.int 0))) (.cons (.ret (.bin .Mult (.lst (.cons (.slot 3) .nil)) (.slot 1))) .nil) .nil) (.cons (.ifs (.cmp .Eq (.slot 2) (.cst (.int 1))) (.cons (.ret (.comp (.rng1 (.slot 1)) (.slot 4) [4] .nil (.bin .Mod (.bin .Add (.slot 3) (.bin .Mult (.slot 4) (.bin .Add (.cst (.int 1)) (.call "_law_take" (.cons (.slot 0) (.cons (.cst (.int 2)) .nil)))))) (.slot 1)))) .nil) .nil) (.cons (.ifs (.cmp .Eq (.slot 2) (.cst (.int 2))) (.cons (.ret (.comp (.rng1 (.slot 1)) (.slot 4) [4] .nil (.ix (.lst (.cons (.slot 3) (.cons (.bin .Mod (.bin .Add (.slot 3) (.cst (.int 1))) (.slot 1)) (.cons (.bin .Mod (.bin .Add (.slot 3) (.bin .FloorDiv (.slot 1) (.cst (.int 2)))) (.slot 1)) .nil)))) (.call "_law_take" (.cons (.slot 0) (.cons (.cst (.int 3)) .nil)))))) .nil) .nil) (.cons (.asg 5 (.new (.comp (.rng1 (.slot 1)) (.slot 4) [4] .nil (.bin .Mod (.bin .Add (.slot 3) (.slot 4)) (.slot 1))))) (.cons (.ifs (.cmp .Eq (.slot 2) (.cst (.int 3))) (.cons (.set (.slot 5) (.call "_law_take" (.cons (.slot 0) (.cons (.slot 1) .nil))) (.call "_law_take" (.cons (.slot 0) (.cons (.slot 1) .nil)))) (.cons (.ret (.frz (.slot 5))) .nil)) .nil) (.cons (.ret (.comp (.rng1 (.slot 1)) (.slot 4) [4] .nil (.call "_law_take" (.cons (.slot 0) (.cons (.slot 1) .nil))))) .nil)))))))
def r_l_places : VI.Row := ⟨"_law_places", s_l_places, ["_law_box_here", "_law_n", "_law_mode", "_law_one", "_law_k", "_law_found"], ["_law_box_here", "_law_n"], b_l_places⟩
def b_l_size : Sts := (.cons (.ret (.ix (.lst (.cons (.bin .Add (.cst (.int 1)) (.call "_law_take" (.cons (.slot 0) (.cons (.cst (.int 12)) .nil)))) (.cons (.bin .Add (.cst (.int 2)) (.call "_law_take" (.cons (.slot 0) (.cons (.cst (.int 5)) .nil)))) (.cons (.cst (.int 12)) .nil)))) (.ix (.lst (.cons (.cst (.int 0)) (.cons (.cst (.int 0)) (.cons (.cst (.int 1)) (.cons (.cst (.int 1)) (.cons (.cst (.int 2)) .nil)))))) (.call "_law_take" (.cons (.slot 0) (.cons (.cst (.int 5)) .nil)))))) .nil)
def r_l_size : VI.Row := ⟨"_law_size", s_l_size, ["_law_box_here"], ["_law_box_here"], b_l_size⟩
def b_l_counted : Sts := (.cons (.ret (.comp (.rng1 (.bi .len (.cons (.slot 0) .nil))) (.slot 1) [1] .nil (.lcnt (.slot 0) (.slot 1)))) .nil)
def r_l_counted : VI.Row := ⟨"_law_counted", s_l_counted, ["_law_places_here", "_law_inlet"], ["_law_places_here"], b_l_counted⟩
def b_l_gone_on : Sts := (.cons (.asg 1 (.bi .len (.cons (.slot 0) .nil))) (.cons (.ret (.comp (.rng1 (.slot 1)) (.slot 2) [2] .nil (.bin .Add (.bi .max (.cons (.cst (.int 0)) (.cons (.bin .Sub (.ix (.slot 0) (.slot 2)) (.cst (.int 1))) .nil))) (.bi .min (.cons (.cst (.int 1)) (.cons (.ix (.slot 0) (.bin .Mod (.bin .Sub (.bin .Add (.slot 2) (.slot 1)) (.cst (.int 1))) (.slot 1))) .nil)))))) .nil))
def r_l_gone_on : VI.Row := ⟨"_law_gone_on", s_l_gone_on, ["_law_tall", "_law_n", "_law_i"], ["_law_tall"], b_l_gone_on⟩
def b_l_right : Sts := (.cons (.asg 1 (.call "_law_size" (.cons (.slot 0) .nil))) (.cons (.par 2 3 (.cons (.call "_law_places" (.cons (.slot 0) (.cons (.slot 1) .nil))) (.cons (.ix (.lst (.cons (.call "_law_take" (.cons (.slot 0) (.cons (.cst (.int 5)) .nil))) (.cons (.call "_law_take" (.cons (.slot 0) (.cons (.cst (.int 41)) .nil))) (.cons (.cst (.int 40)) .nil)))) (.call "_law_take" (.cons (.slot 0) (.cons (.cst (.int 3)) .nil)))) .nil))) (.cons (.asg 4 (.ix (.lst (.cons (.bi .list (.cons (.slot 2) .nil)) (.cons (.bi .tuple (.cons (.slot 2) .nil)) .nil))) (.call "_law_take" (.cons (.slot 0) (.cons (.cst (.int 2)) .nil))))) (.cons (.par 5 6 (.cons (.call "_law_counted" (.cons (.slot 2) .nil)) (.cons (.call "_law_take" (.cons (.slot 0) (.cons (.bin .Add (.slot 3) (.cst (.int 1))) .nil))) .nil))) (.cons (.ifs (.not_ (.call "_law_same" (.cons (.lst (.cons (.call "heights" (.cons (.slot 4) .nil)) (.cons (.call "heights_behind" (.cons (.slot 4) (.cons (.cst (.int 0)) .nil))) .nil))) (.cons (.lst (.cons (.slot 5) (.cons (.slot 5) .nil))) .nil)))) (.cons (.ret (.cst (.bl false))) .nil) .nil) (.cons (.for_ (.rng1 (.slot 3)) (.slot 7) (.cons (.ifs (.and_ (.cmp .Eq (.slot 7) (.slot 6)) (.not_ (.call "_law_same" (.cons (.call "heights_behind" (.cons (.slot 4) (.cons (.slot 7) .nil))) (.cons (.slot 5) .nil))))) (.cons (.ret (.cst (.bl false))) .nil) .nil) (.cons (.asg 5 (.call "_law_gone_on" (.cons (.slot 5) .nil))) .nil))) (.cons (.asg 8 (.call "heights_behind" (.cons (.slot 4) (.cons (.slot 3) .nil)))) (.cons (.ifs (.or_ (.not_ (.call "_law_same" (.cons (.slot 8) (.cons (.slot 5) .nil)))) (.or_ (.cmp .NotEq (.bi .sum (.cons (.slot 8) .nil)) (.slot 1)) (.cmp .NotEq (.bi .list (.cons (.slot 4) .nil)) (.slot 2)))) (.cons (.ret (.cst (.bl false))) .nil) .nil) (.cons (.asg 9 (.call "heights_behind" (.cons (.slot 4) (.cons (.slot 6) .nil)))) (.cons (.asg 10 (.lst .nil)) (.cons (.for_ (.enm (.slot 9)) (.tup (.cons (.slot 11) (.cons (.slot 12) .nil))) (.cons (.asg 10 (.bin .Add (.slot 10) (.bin .Mult (.lst (.cons (.slot 11) .nil)) (.slot 12)))) .nil)) (.cons (.ret (.call "_law_same" (.cons (.call "heights_behind" (.cons (.rev (.slot 10)) (.cons (.bin .Sub (.slot 3) (.slot 6)) .nil))) (.cons (.slot 5) .nil)))) .nil))))))))))))
def r_l_right : VI.Row := ⟨"_law_right", s_l_right, ["_law_box_here", "_law_n", "_law_places_here", "_law_beats", "_law_handed", "_law_due", "_law_first", "_law_turn", "_law_found", "_law_middle", "_law_again", "_law_inlet", "_law_height"], ["_law_box_here"], b_l_right⟩
def b_law : Sts := (.cons (.asg 1 (.call "_law_folded" (.cons (.slot 0) (.cons (.cst (.int 4)) .nil)))) (.cons (.for_ (.rng1 (.bi .max (.cons (.cst (.int 1)) (.cons (.bi .len (.cons (.slot 1) .nil)) .nil)))) (.slot 2) (.cons (.asg 3 (.call "_law_box" (.cons (.slot 1) (.cons (.slot 2) .nil)))) (.cons (.ifs (.not_ (.bi .all (.cons (.comp (.rng1 (.cst (.int 4))) (.slot 4) [4] .nil (.call "_law_right" (.cons (.slot 3) .nil))) .nil))) (.cons (.ret (.cst (.bl false))) .nil) .nil) .nil))) (.cons (.ret (.cst (.bl true))) .nil)))
def r_law : VI.Row := ⟨"law", s_law, ["_law_script", "_law_cells", "_law_k", "_law_box_here", "_law_turn"], ["_law_script"], b_law⟩
def rows : List VI.Row := [r_p_heights, r_p_next_heights, r_p_heights_behind, r_l_box, r_l_take, r_l_folded, r_l_same, r_l_places, r_l_size, r_l_counted, r_l_gone_on, r_l_right, r_law]
def noms : List Str := ["len", "enumerate", "int", "range", "abs", "divmod", "list", "all", "bool", "isinstance", "str", "tuple", "zip", "max", "min", "sum"]
theorem rows_all : (rows.all fun r => r.ok noms (rows.map (·.x))) = true := by decide +kernel
theorem rows_ok : ∀ r ∈ rows, r.ok noms (rows.map (·.x)) = true := fun r h => List.all_eq_true.mp rows_all r h
theorem rows_nd : (rows.map (·.x)).Nodup := by decide +kernel
theorem tops_mk {K : PySem.W.Frag} {h : Heap} {mg : Str → Option Value} (X : K.In h) (G : h.Ns mainGlobals mg) {f1 : Addr} {od1 an1 : Option Addr} {sl1 : Array (Option Value)} {oc1 kV1 dc1 pm1 cd1 ct1 : Value} {f2 : Addr} {od2 an2 : Option Addr} {sl2 : Array (Option Value)} {oc2 kV2 dc2 pm2 cd2 ct2 : Value} {f3 : Addr} {od3 an3 : Option Addr} {sl3 : Array (Option Value)} {oc3 kV3 dc3 pm3 cd3 ct3 : Value} {f4 : Addr} {od4 an4 : Option Addr} {sl4 : Array (Option Value)} {oc4 kV4 dc4 pm4 cd4 ct4 : Value} {f5 : Addr} {od5 an5 : Option Addr} {sl5 : Array (Option Value)} {oc5 kV5 dc5 pm5 cd5 ct5 : Value} {f6 : Addr} {od6 an6 : Option Addr} {sl6 : Array (Option Value)} {oc6 kV6 dc6 pm6 cd6 ct6 : Value} {f7 : Addr} {od7 an7 : Option Addr} {sl7 : Array (Option Value)} {oc7 kV7 dc7 pm7 cd7 ct7 : Value} {f8 : Addr} {od8 an8 : Option Addr} {sl8 : Array (Option Value)} {oc8 kV8 dc8 pm8 cd8 ct8 : Value} {f9 : Addr} {od9 an9 : Option Addr} {sl9 : Array (Option Value)} {oc9 kV9 dc9 pm9 cd9 ct9 : Value} {f10 : Addr} {od10 an10 : Option Addr} {sl10 : Array (Option Value)} {oc10 kV10 dc10 pm10 cd10 ct10 : Value} {f11 : Addr} {od11 an11 : Option Addr} {sl11 : Array (Option Value)} {oc11 kV11 dc11 pm11 cd11 ct11 : Value} {f12 : Addr} {od12 an12 : Option Addr} {sl12 : Array (Option Value)} {oc12 kV12 dc12 pm12 cd12 ct12 : Value} {f13 : Addr} {od13 an13 : Option Addr} {sl13 : Array (Option Value)} {oc13 kV13 dc13 pm13 cd13 ct13 : Value}
    (a1 : PySem.W.nsIn K mainGlobals "heights" = some (some (.ref f1))) (l1 : K.lookup f1 = some ⟨oc1, od1, .func (PySem.W.fnOf "heights" "heights" (defArgs s_p_heights) (defBody s_p_heights) (defScope s_p_heights) .none kV1 dc1 pm1 an1 cd1 ct1), sl1⟩) (c1 : PySem.W.codeIn K cd1 "heights" = true) (k1 : PySem.W.keepIn K (.ref f1) = true)
    (a2 : PySem.W.nsIn K mainGlobals "next_heights" = some (some (.ref f2))) (l2 : K.lookup f2 = some ⟨oc2, od2, .func (PySem.W.fnOf "next_heights" "next_heights" (defArgs s_p_next_heights) (defBody s_p_next_heights) (defScope s_p_next_heights) .none kV2 dc2 pm2 an2 cd2 ct2), sl2⟩) (c2 : PySem.W.codeIn K cd2 "next_heights" = true) (k2 : PySem.W.keepIn K (.ref f2) = true)
    (a3 : PySem.W.nsIn K mainGlobals "heights_behind" = some (some (.ref f3))) (l3 : K.lookup f3 = some ⟨oc3, od3, .func (PySem.W.fnOf "heights_behind" "heights_behind" (defArgs s_p_heights_behind) (defBody s_p_heights_behind) (defScope s_p_heights_behind) .none kV3 dc3 pm3 an3 cd3 ct3), sl3⟩) (c3 : PySem.W.codeIn K cd3 "heights_behind" = true) (k3 : PySem.W.keepIn K (.ref f3) = true)
    (a4 : PySem.W.nsIn K mainGlobals "_law_box" = some (some (.ref f4))) (l4 : K.lookup f4 = some ⟨oc4, od4, .func (PySem.W.fnOf "_law_box" "_law_box" (defArgs s_l_box) (defBody s_l_box) (defScope s_l_box) .none kV4 dc4 pm4 an4 cd4 ct4), sl4⟩) (c4 : PySem.W.codeIn K cd4 "_law_box" = true) (k4 : PySem.W.keepIn K (.ref f4) = true)
    (a5 : PySem.W.nsIn K mainGlobals "_law_take" = some (some (.ref f5))) (l5 : K.lookup f5 = some ⟨oc5, od5, .func (PySem.W.fnOf "_law_take" "_law_take" (defArgs s_l_take) (defBody s_l_take) (defScope s_l_take) .none kV5 dc5 pm5 an5 cd5 ct5), sl5⟩) (c5 : PySem.W.codeIn K cd5 "_law_take" = true) (k5 : PySem.W.keepIn K (.ref f5) = true)
    (a6 : PySem.W.nsIn K mainGlobals "_law_folded" = some (some (.ref f6))) (l6 : K.lookup f6 = some ⟨oc6, od6, .func (PySem.W.fnOf "_law_folded" "_law_folded" (defArgs s_l_folded) (defBody s_l_folded) (defScope s_l_folded) .none kV6 dc6 pm6 an6 cd6 ct6), sl6⟩) (c6 : PySem.W.codeIn K cd6 "_law_folded" = true) (k6 : PySem.W.keepIn K (.ref f6) = true)
    (a7 : PySem.W.nsIn K mainGlobals "_law_same" = some (some (.ref f7))) (l7 : K.lookup f7 = some ⟨oc7, od7, .func (PySem.W.fnOf "_law_same" "_law_same" (defArgs s_l_same) (defBody s_l_same) (defScope s_l_same) .none kV7 dc7 pm7 an7 cd7 ct7), sl7⟩) (c7 : PySem.W.codeIn K cd7 "_law_same" = true) (k7 : PySem.W.keepIn K (.ref f7) = true)
    (a8 : PySem.W.nsIn K mainGlobals "_law_places" = some (some (.ref f8))) (l8 : K.lookup f8 = some ⟨oc8, od8, .func (PySem.W.fnOf "_law_places" "_law_places" (defArgs s_l_places) (defBody s_l_places) (defScope s_l_places) .none kV8 dc8 pm8 an8 cd8 ct8), sl8⟩) (c8 : PySem.W.codeIn K cd8 "_law_places" = true) (k8 : PySem.W.keepIn K (.ref f8) = true)
    (a9 : PySem.W.nsIn K mainGlobals "_law_size" = some (some (.ref f9))) (l9 : K.lookup f9 = some ⟨oc9, od9, .func (PySem.W.fnOf "_law_size" "_law_size" (defArgs s_l_size) (defBody s_l_size) (defScope s_l_size) .none kV9 dc9 pm9 an9 cd9 ct9), sl9⟩) (c9 : PySem.W.codeIn K cd9 "_law_size" = true) (k9 : PySem.W.keepIn K (.ref f9) = true)
    (a10 : PySem.W.nsIn K mainGlobals "_law_counted" = some (some (.ref f10))) (l10 : K.lookup f10 = some ⟨oc10, od10, .func (PySem.W.fnOf "_law_counted" "_law_counted" (defArgs s_l_counted) (defBody s_l_counted) (defScope s_l_counted) .none kV10 dc10 pm10 an10 cd10 ct10), sl10⟩) (c10 : PySem.W.codeIn K cd10 "_law_counted" = true) (k10 : PySem.W.keepIn K (.ref f10) = true)
    (a11 : PySem.W.nsIn K mainGlobals "_law_gone_on" = some (some (.ref f11))) (l11 : K.lookup f11 = some ⟨oc11, od11, .func (PySem.W.fnOf "_law_gone_on" "_law_gone_on" (defArgs s_l_gone_on) (defBody s_l_gone_on) (defScope s_l_gone_on) .none kV11 dc11 pm11 an11 cd11 ct11), sl11⟩) (c11 : PySem.W.codeIn K cd11 "_law_gone_on" = true) (k11 : PySem.W.keepIn K (.ref f11) = true)
    (a12 : PySem.W.nsIn K mainGlobals "_law_right" = some (some (.ref f12))) (l12 : K.lookup f12 = some ⟨oc12, od12, .func (PySem.W.fnOf "_law_right" "_law_right" (defArgs s_l_right) (defBody s_l_right) (defScope s_l_right) .none kV12 dc12 pm12 an12 cd12 ct12), sl12⟩) (c12 : PySem.W.codeIn K cd12 "_law_right" = true) (k12 : PySem.W.keepIn K (.ref f12) = true)
    (a13 : PySem.W.nsIn K mainGlobals "law" = some (some (.ref f13))) (l13 : K.lookup f13 = some ⟨oc13, od13, .func (PySem.W.fnOf "law" "law" (defArgs s_law) (defBody s_law) (defScope s_law) .none kV13 dc13 pm13 an13 cd13 ct13), sl13⟩) (c13 : PySem.W.codeIn K cd13 "law" = true) (k13 : PySem.W.keepIn K (.ref f13) = true)
    (z1 : PySem.W.nsIn K mainGlobals "len" = some none) (z2 : PySem.W.nsIn K mainGlobals "enumerate" = some none) (z3 : PySem.W.nsIn K mainGlobals "int" = some none) (z4 : PySem.W.nsIn K mainGlobals "range" = some none) (z5 : PySem.W.nsIn K mainGlobals "abs" = some none) (z6 : PySem.W.nsIn K mainGlobals "divmod" = some none) (z7 : PySem.W.nsIn K mainGlobals "list" = some none) (z8 : PySem.W.nsIn K mainGlobals "all" = some none) (z9 : PySem.W.nsIn K mainGlobals "bool" = some none) (z10 : PySem.W.nsIn K mainGlobals "isinstance" = some none) (z11 : PySem.W.nsIn K mainGlobals "str" = some none) (z12 : PySem.W.nsIn K mainGlobals "tuple" = some none) (z13 : PySem.W.nsIn K mainGlobals "zip" = some none) (z14 : PySem.W.nsIn K mainGlobals "max" = some none) (z15 : PySem.W.nsIn K mainGlobals "min" = some none) (z16 : PySem.W.nsIn K mainGlobals "sum" = some none) : (∀ r ∈ rows, ∃ fa fd, Top K mg r fa fd) ∧ ∀ x ∈ noms, mg x = none := by
  refine ⟨fun r hr => ?_, fun x hx => ?_⟩
  · simp only [rows, List.mem_cons, List.not_mem_nil, or_false] at hr
    rcases hr with rfl | rfl | rfl | rfl | rfl | rfl | rfl | rfl | rfl | rfl | rfl | rfl | rfl
    · exact ⟨f1, _, ⟨_, fun_mk (st := s_p_heights) l1 c1 k1⟩, PySem.W.mg_of X G a1, fun us hl => match us, hl with | [_], _ => rfl, ⟨rfl, rfl, rfl, by decide +kernel, rfl, by decide +kernel, by decide +kernel⟩⟩
    · exact ⟨f2, _, ⟨_, fun_mk (st := s_p_next_heights) l2 c2 k2⟩, PySem.W.mg_of X G a2, fun us hl => match us, hl with | [_], _ => rfl, ⟨rfl, rfl, rfl, by decide +kernel, rfl, by decide +kernel, by decide +kernel⟩⟩
    · exact ⟨f3, _, ⟨_, fun_mk (st := s_p_heights_behind) l3 c3 k3⟩, PySem.W.mg_of X G a3, fun us hl => match us, hl with | [_, _], _ => rfl, ⟨rfl, rfl, rfl, by decide +kernel, rfl, by decide +kernel, by decide +kernel⟩⟩
    · exact ⟨f4, _, ⟨_, fun_mk (st := s_l_box) l4 c4 k4⟩, PySem.W.mg_of X G a4, fun us hl => match us, hl with | [_, _], _ => rfl, ⟨rfl, rfl, rfl, by decide +kernel, rfl, by decide +kernel, by decide +kernel⟩⟩
    · exact ⟨f5, _, ⟨_, fun_mk (st := s_l_take) l5 c5 k5⟩, PySem.W.mg_of X G a5, fun us hl => match us, hl with | [_, _], _ => rfl, ⟨rfl, rfl, rfl, by decide +kernel, rfl, by decide +kernel, by decide +kernel⟩⟩
    · exact ⟨f6, _, ⟨_, fun_mk (st := s_l_folded) l6 c6 k6⟩, PySem.W.mg_of X G a6, fun us hl => match us, hl with | [_, _], _ => rfl, ⟨rfl, rfl, rfl, by decide +kernel, rfl, by decide +kernel, by decide +kernel⟩⟩
    · exact ⟨f7, _, ⟨_, fun_mk (st := s_l_same) l7 c7 k7⟩, PySem.W.mg_of X G a7, fun us hl => match us, hl with | [_, _], _ => rfl, ⟨rfl, rfl, rfl, by decide +kernel, rfl, by decide +kernel, by decide +kernel⟩⟩
    · exact ⟨f8, _, ⟨_, fun_mk (st := s_l_places) l8 c8 k8⟩, PySem.W.mg_of X G a8, fun us hl => match us, hl with | [_, _], _ => rfl, ⟨rfl, rfl, rfl, by decide +kernel, rfl, by decide +kernel, by decide +kernel⟩⟩
    · exact ⟨f9, _, ⟨_, fun_mk (st := s_l_size) l9 c9 k9⟩, PySem.W.mg_of X G a9, fun us hl => match us, hl with | [_], _ => rfl, ⟨rfl, rfl, rfl, by decide +kernel, rfl, by decide +kernel, by decide +kernel⟩⟩
    · exact ⟨f10, _, ⟨_, fun_mk (st := s_l_counted) l10 c10 k10⟩, PySem.W.mg_of X G a10, fun us hl => match us, hl with | [_], _ => rfl, ⟨rfl, rfl, rfl, by decide +kernel, rfl, by decide +kernel, by decide +kernel⟩⟩
    · exact ⟨f11, _, ⟨_, fun_mk (st := s_l_gone_on) l11 c11 k11⟩, PySem.W.mg_of X G a11, fun us hl => match us, hl with | [_], _ => rfl, ⟨rfl, rfl, rfl, by decide +kernel, rfl, by decide +kernel, by decide +kernel⟩⟩
    · exact ⟨f12, _, ⟨_, fun_mk (st := s_l_right) l12 c12 k12⟩, PySem.W.mg_of X G a12, fun us hl => match us, hl with | [_], _ => rfl, ⟨rfl, rfl, rfl, by decide +kernel, rfl, by decide +kernel, by decide +kernel⟩⟩
    · exact ⟨f13, _, ⟨_, fun_mk (st := s_law) l13 c13 k13⟩, PySem.W.mg_of X G a13, fun us hl => match us, hl with | [_], _ => rfl, ⟨rfl, rfl, rfl, by decide +kernel, rfl, by decide +kernel, by decide +kernel⟩⟩
  · simp only [noms, List.mem_cons, List.not_mem_nil, or_false] at hx
    rcases hx with rfl | rfl | rfl | rfl | rfl | rfl | rfl | rfl | rfl | rfl | rfl | rfl | rfl | rfl | rfl | rfl
    · exact PySem.W.mg_none_of X G z1
    · exact PySem.W.mg_none_of X G z2
    · exact PySem.W.mg_none_of X G z3
    · exact PySem.W.mg_none_of X G z4
    · exact PySem.W.mg_none_of X G z5
    · exact PySem.W.mg_none_of X G z6
    · exact PySem.W.mg_none_of X G z7
    · exact PySem.W.mg_none_of X G z8
    · exact PySem.W.mg_none_of X G z9
    · exact PySem.W.mg_none_of X G z10
    · exact PySem.W.mg_none_of X G z11
    · exact PySem.W.mg_none_of X G z12
    · exact PySem.W.mg_none_of X G z13
    · exact PySem.W.mg_none_of X G z14
    · exact PySem.W.mg_none_of X G z15
    · exact PySem.W.mg_none_of X G z16
end Law

end

section
set_option maxHeartbeats 2000000
namespace Law
open PySem PySem.Spec PyProof.Rows L2 VI
local macro_rules | `(tactic| walk_at "vi") => `(tactic| simp -implicitDefEqProofs only [sts_cons, sts_nil, st_expr, st_asg, st_unp, st_unm, st_par, st_set, st_ret, st_retN, st_ifs, st_for, st_brk, st_cnt, st_pass, Ex.ev.eq_1, Ex.ev.eq_2, Ex.ev.eq_3, Ex.ev.eq_4, Ex.ev.eq_5, Ex.ev.eq_6, Ex.ev.eq_7, Ex.ev.eq_8, Ex.ev.eq_9, Ex.ev.eq_10, Ex.ev.eq_11, Ex.ev.eq_12, Ex.ev.eq_13, Ex.ev.eq_14, Ex.ev.eq_15, Ex.ev.eq_16, Ex.ev.eq_17, Ex.ev.eq_19, Ex.ev.eq_20, Ex.ev.eq_21, Ex.ev.eq_22, Ex.ev.eq_23, st_aug, st_augS, Exs.ev, Exs.tst, Lts.put, Tg.put, Tgs.put, Tg.putI, wipeE, VI.partR, VI.part, VI.slD, VI.revD,
  List.map_cons, List.map_nil, List.length_cons, List.length_nil, List.getElem?_cons_zero, List.getElem?_cons_succ, List.set_cons_zero, List.set_cons_succ,
  bind_ok, at_d, pl_d, at_scr, obind, omap, lift_some, cmp_gt, cmp_lt, cmp_le, cmp_ge, cmp_eqi, cmp_nei, binD_int, binI_add, binI_sub, ixD, truR_ok, tru_bool, ifT, ifF, ats, datas, atI_0, atI_1, atI_2, fin_d, fin_nx, decide_true, decide_false, if_true, if_false, Bool.false_eq_true, lim1, lim2, lim3, lim4,
  VI.bi_len, VI.bi_lent, bi_abs, bi_intb, bi_listl, bi_listt, bi_tuple, bi_max, bi_min, List.length_map, List.any_cons, List.any_nil, Bool.or_false, Bool.true_or, Bool.false_or, Bool.or_true, beq_self_eq_true, Bool.not_true, Bool.not_false, *])
abbrev T : Table := tab rows
theorem hasTake (n : Nat) : HasTake (call T (n + 1)) := fun M b x s h h0 h1 h2 h3 h4 h5 => by
  rw [show (("_law_take" : Str)) = r_l_take.x from rfl, call_body rows_nd (by simp [rows]) n _ M [some (.ref b), some (.d (.int s)), none, none, none, none] rfl rfl]
  exact take_body _ M b x s h h0 h1 h2 h3 h4 h5
theorem same_i (n : Nat) (M : Mem) (i : Int) : call T (n + 1) "_law_same" [.d (.int i), .d (.int i)] M = .ok (.d (.bl true)) M := by
  rw [show (("_law_same" : Str)) = r_l_same.x from rfl, call_body rows_nd (by simp [rows]) n _ M [some (.d (.int i)), some (.d (.int i)), none, none] rfl rfl]
  exact same_int _ M i
theorem same_l (n : Nat) (M : Mem) (xs : List D) (hl : xs.length ≤ LIM) (h : ∀ y ∈ xs, call T n "_law_same" [.d y, .d y] M = .ok (.d (.bl true)) M) : call T (n + 1) "_law_same" [.d (.lst xs), .d (.lst xs)] M = .ok (.d (.bl true)) M := by
  rw [show (("_law_same" : Str)) = r_l_same.x from rfl, call_body rows_nd (by simp [rows]) n _ M [some (.d (.lst xs)), some (.d (.lst xs)), none, none] rfl rfl]
  exact same_list _ M xs hl h
theorem same_is (n : Nat) (M : Mem) (xs : List Int) (hl : xs.length ≤ LIM) : call T (n + 2) "_law_same" [.d (.lst (xs.map .int)), .d (.lst (xs.map .int))] M = .ok (.d (.bl true)) M :=
  same_l (n + 1) M _ (by rw [List.length_map]; exact hl) fun y hy => by
    obtain ⟨i, _, rfl⟩ := List.mem_map.mp hy
    exact same_i n M i
/-! heights -/
def bump (h : List Int) (p : Int) : List Int := h.set p.toNat (h[p.toNat]?.getD 0 + 1)
def heights (ps : List Int) : List Int := ps.foldl bump (List.replicate ps.length 0)
theorem bump_len (h : List Int) (p : Int) : (bump h p).length = h.length := List.length_set
theorem atI_map {h : List Int} {p : Int} (h0 : 0 ≤ p) (h1 : p < h.length) : atI (h.map D.int) p = some (.int (h[p.toNat]?.getD 0)) := by
  rw [atI_nn h0, List.getElem?_map]
  have : p.toNat < h.length := by omega
  rw [List.getElem?_eq_getElem this]
  rfl
theorem get_end (M : Mem) (o : Ob) : (M ++ [o])[M.length]? = some o := by rw [List.getElem?_append_right (Nat.le_refl _), Nat.sub_self]; rfl
theorem set_end (M : Mem) (o o2 : Ob) : (M ++ [o]).set M.length o2 = M ++ [o2] := by rw [List.set_append_right _ _ (Nat.le_refl _), Nat.sub_self]; rfl
theorem take_end (M : Mem) (o : Ob) : (M ++ [o]).take M.length = M := by rw [List.take_append_of_le_length (Nat.le_refl _), List.take_length]
theorem ixN_in {n : Nat} {p : Int} (h0 : 0 ≤ p) (h1 : p < n) : ixN n p = some p.toNat := by
  obtain ⟨k, rfl⟩ := Int.eq_ofNat_of_zero_le h0
  exact ixN_n (by omega)
theorem heights_run (n : Nat) (M : Mem) (ps : List Int) (x : D) (hx : x = .lst (ps.map .int) ∨ x = .tup (ps.map .int)) (hp : ∀ p ∈ ps, 0 ≤ p ∧ p < ps.length) (hl : ps.length ≤ 100) :
    call T (n + 1) "heights" [.d x] M = .ok (.d (.lst ((heights ps).map .int))) M := by
  rw [show (("heights" : Str)) = r_p_heights.x from rfl, call_body rows_nd (by simp [rows]) n _ M [some (.d x), none, none] rfl rfl]
  show (b_p_heights.ex _ _ _).bind _ = _
  have hln : biD .len [x] = some (.int ps.length) := by rcases hx with rfl | rfl <;> simp [biD, lenD]
  have key : ∀ (qs : List Int) (h : List Int) (v2 : Option Val), (∀ p ∈ qs, 0 ≤ p ∧ p < h.length) → ∃ w2, forGo (.slot 2) (fun env M => Sts.ex (call T n) (.cons (.augS (.slot 1) (.slot 2) .Add (.cst (.int 1))) .nil) env M) (qs.map fun p => .v (.d (.int p))) [some (.d x), some (.ref M.length), v2] (M ++ [.lst (h.map .int)]) =
      .ok (.nx, [some (.d x), some (.ref M.length), w2]) (M ++ [.lst ((qs.foldl bump h).map .int)]) := by
    intro qs
    induction qs with
    | nil => exact fun h v2 _ => ⟨v2, rfl⟩
    | cons p qs ih =>
      intro h v2 hq
      obtain ⟨p0, p1⟩ := hq p (by simp)
      obtain ⟨w2, e⟩ := ih (bump h p) (some (.d (.int p))) (fun q hq' => by rw [bump_len]; exact hq q (by simp [hq']))
      refine ⟨w2, ?_⟩
      have hat : (Val.ref M.length).at (M ++ [.lst (h.map .int)]) = some (.lst (h.map .int)) := at_ref (get_end _ _)
      have hg : getI (.ref M.length) (.d (.int p)) (M ++ [.lst (h.map .int)]) = some (h[p.toNat]?.getD 0) := by
        unfold getI
        simp only [hat, if_pos p0, atI_map p0 p1]
      have hs : ∀ c : Int, setAt (.ref M.length) (.d (.int p)) (.d (.int c)) (M ++ [.lst (h.map .int)]) = some (M ++ [.lst ((h.set p.toNat c).map .int)]) := fun c => by
        simp only [setAt, get_end, List.length_map, ixN_in p0 p1, omap, set_end, List.map_set]
      have ha : ∀ c : Int, augI .Add c 1 = some (c + 1) := fun _ => rfl
      have hb : h.set p.toNat (h[p.toNat]?.getD 0 + 1) = bump h p := rfl
      rw [List.map_cons, forGo, List.foldl_cons]
      clear hq ih
      walk_at "vi"
  obtain ⟨w2, e⟩ := key ps (List.replicate ps.length 0) none (fun p hp' => by rw [List.length_replicate]; exact hp p hp')
  have hm : binD .Mult (.lst [.int 0]) (.int (ps.length : Int)) = some (.lst ((List.replicate ps.length 0).map .int)) := by
    have hc : -(2 ^ 62) < (ps.length : Int) ∧ (ps.length : Int) < 2 ^ 62 ∧ [D.int 0].length * (ps.length : Int).toNat ≤ LIM := by
      refine ⟨by omega, by omega, ?_⟩
      rw [List.length_singleton]
      unfold LIM
      omega
    rw [bin_rep hc, Int.toNat_natCast, rep_ints]
  have hs : It.ev (call T n) (.seq (.slot 0)) [some (.d x), some (.ref M.length), none] (M ++ [.lst ((List.replicate ps.length 0).map .int)]) = .ok (ps.map fun p => .v (.d (.int p))) (M ++ [.lst ((List.replicate ps.length 0).map .int)]) := by
    rw [It.ev]
    rcases hx with rfl | rfl <;> · simp only [Ex.ev.eq_1, List.getElem?_cons_zero, bind_ok, List.map_map]
                                   rfl
  unfold b_p_heights
  have hh : ps.foldl bump (List.replicate ps.length 0) = heights ps := rfl
  rw [hh] at e
  have hge := get_end M (.lst ((heights ps).map .int))
  have hse := set_end M (.lst ((heights ps).map .int)) .gone
  have hte := take_end M .gone
  clear key hp
  walk_at "vi"
def gv (h : List Int) (i : Nat) : Int := h[i]?.getD 0
def N (h : List Int) : List Int := (List.range h.length).map fun i => max2I 0 (gv h i - 1) + min2I 1 (gv h ((i + h.length - 1) % h.length))
theorem atI_gv {h : List Int} {i : Nat} (hi : i < h.length) : atI (h.map D.int) (i : Int) = some (.int (gv h i)) := by
  rw [atI_n, List.getElem?_map, gv, List.getElem?_eq_getElem hi]
  rfl
theorem atI_back {h : List Int} {i : Nat} (hi : i < h.length) : atI (h.map D.int) ((i : Int) - 1) = some (.int (gv h ((i + h.length - 1) % h.length))) := by
  cases i with
  | zero =>
    have e : (0 + h.length - 1) % h.length = h.length - 1 := by rw [Nat.zero_add]; exact Nat.mod_eq_of_lt (by omega)
    rw [e]
    show atI (h.map D.int) (-1) = _
    unfold atI ixN
    rw [if_neg (by omega), List.length_map, if_pos (by omega)]
    have e2 : ((-1 : Int) + (h.length : Int)).toNat = h.length - 1 := by omega
    show (h.map D.int)[((-1 : Int) + (h.length : Int)).toNat]? = _
    rw [e2, List.getElem?_map, gv, List.getElem?_eq_getElem (by omega)]
    rfl
  | succ i =>
    have e : (i + 1 + h.length - 1) % h.length = i := by
      rw [show i + 1 + h.length - 1 = i + h.length by omega, Nat.add_mod_right]
      exact Nat.mod_eq_of_lt (by omega)
    rw [e, show ((i + 1 : Nat) : Int) - 1 = (i : Int) by omega]
    exact atI_gv (by omega)
theorem gv_map {α : Type} (f : Nat → Int) {n i : Nat} (h : i < n) : gv ((List.range n).map f) i = f i := by
  rw [gv, List.getElem?_map, List.getElem?_range h]
  rfl
theorem next_run (n : Nat) (M : Mem) (h : List Int) (h0 : ∀ i, 0 ≤ gv h i) (hl : h.length ≤ 100) :
    call T (n + 1) "next_heights" [.d (.lst (h.map .int))] M = .ok (.d (.lst ((N h).map .int))) M := by
  rw [show (("next_heights" : Str)) = r_p_next_heights.x from rfl, call_body rows_nd (by simp [rows]) n _ M [some (.d (.lst (h.map .int))), none, none, none, none] rfl rfl]
  show (b_p_next_heights.ex _ _ _).bind _ = _
  have hLIM : LIM = 100000 := rfl
  have c1 := lc_map (tg := .slot 2) (own := [2]) (env := [some (.d (.lst (h.map .int))), none, none, none, none]) (tst := fun env M => Exs.tst (call T n) .nil env M) (el := fun env M => Ex.ev (call T n) (.bin .Sub (.slot 2) (.bi .int (.cons (.cmp .Gt (.slot 2) (.cst (.int 0))) .nil))) env M) (M := M)
    (fun i : Int => .v (.d (.int i))) (fun i => .int (i - (if decide (0 < i) = true then 1 else 0))) h [] (fun a _ => ⟨_, rfl, by rw [Exs.tst], by walk_at "vi"⟩) (by rw [List.length_nil]; omega)
  have i1 : It.ev (call T n) (.seq (.slot 0)) [some (.d (.lst (h.map .int))), none, none, none, none] M = .ok (h.map fun i => .v (.d (.int i))) M := by
    rw [It.ev]
    simp only [Ex.ev.eq_1, List.getElem?_cons_zero, bind_ok, List.map_map]
    rfl
  have v1 := comp_ev i1 c1
  rw [List.nil_append] at v1
  have e1 : h.map (fun i => D.int (i - (if decide (0 < i) = true then 1 else 0))) = (h.map fun i => i - (if decide (0 < i) = true then 1 else 0)).map .int := by rw [List.map_map]; rfl
  rw [e1] at v1
  generalize hL : (h.map fun i => i - (if decide (0 < i) = true then 1 else 0)) = L at v1
  have hll : L.length = h.length := by rw [← hL, List.length_map]
  have hgl : ∀ i, i < h.length → gv L i = gv h i - (if decide (0 < gv h i) = true then 1 else 0) := fun i hi => by
    rw [← hL, gv, List.getElem?_map, gv, List.getElem?_eq_getElem hi]
    rfl
  have c2 := lc_map (tg := .tup (.cons (.slot 3) (.cons (.slot 4) .nil))) (own := [3, 4]) (env := [some (.d (.lst (h.map .int))), some (.d (.lst (L.map .int))), none, none, none]) (tst := fun env M => Exs.tst (call T n) .nil env M)
    (el := fun env M => Ex.ev (call T n) (.bin .Add (.slot 4) (.bi .int (.cons (.cmp .Gt (.ix (.slot 0) (.bin .Sub (.slot 3) (.cst (.int 1)))) (.cst (.int 0))) .nil))) env M) (M := M)
    (fun i : Nat => .p [.d (.int (i : Int)), .d (.int (gv L i))]) (fun i => .int (max2I 0 (gv h i - 1) + min2I 1 (gv h ((i + h.length - 1) % h.length)))) (List.range h.length) [] (fun i hi => by
      have hi := List.mem_range.mp hi
      have hb := atI_back hi
      refine ⟨_, rfl, by rw [Exs.tst], ?_⟩
      have e2 : gv L i + (if decide (0 < gv h ((i + h.length - 1) % h.length)) = true then 1 else 0) = max2I 0 (gv h i - 1) + min2I 1 (gv h ((i + h.length - 1) % h.length)) := by
        rw [hgl i hi]
        have a1 := h0 i
        have a2 := h0 ((i + h.length - 1) % h.length)
        unfold max2I min2I
        simp only [decide_eq_true_eq]
        split <;> split <;> split <;> split <;> omega
      rw [← e2]
      clear e2 c1 v1 i1 hgl
      walk_at "vi") (by rw [List.length_nil, List.length_range]; omega)
  have i2 : It.ev (call T n) (.enm (.slot 1)) [some (.d (.lst (h.map .int))), some (.d (.lst (L.map .int))), none, none, none] M = .ok ((List.range h.length).map fun i : Nat => .p [.d (.int (i : Int)), .d (.int (gv L i))]) M := by
    rw [It.ev]
    simp only [Ex.ev.eq_1, List.getElem?_cons_zero, List.getElem?_cons_succ, bind_ok]
    rw [if_pos (by rw [List.length_map]; omega), zipIdx_range D.non, List.map_map, List.length_map, hll]
    congr 1
    apply List.map_congr_left
    intro i hi
    have hi := List.mem_range.mp hi
    show Itm.p [.d (.int (i : Int)), .d (((L.map D.int)[i]?).getD D.non)] = _
    rw [List.getElem?_map, gv, List.getElem?_eq_getElem (by omega)]
    rfl
  have v2 := comp_ev i2 c2
  rw [List.nil_append] at v2
  have e2 : (List.range h.length).map (fun i => D.int (max2I 0 (gv h i - 1) + min2I 1 (gv h ((i + h.length - 1) % h.length)))) = (N h).map .int := by rw [N, List.map_map]; rfl
  rw [e2] at v2
  unfold b_p_next_heights
  clear c1 c2 i1 i2 e1 e2 hgl
  walk_at "vi"
  simp only [take_self]
theorem N_len (h : List Int) : (N h).length = h.length := by rw [N, List.length_map, List.length_range]
theorem gone_run (n : Nat) (M : Mem) (h : List Int) (hl : h.length ≤ 100) :
    call T (n + 1) "_law_gone_on" [.d (.lst (h.map .int))] M = .ok (.d (.lst ((N h).map .int))) M := by
  rw [show (("_law_gone_on" : Str)) = r_l_gone_on.x from rfl, call_body rows_nd (by simp [rows]) n _ M [some (.d (.lst (h.map .int))), none, none] rfl rfl]
  show (b_l_gone_on.ex _ _ _).bind _ = _
  have hLIM : LIM = 100000 := rfl
  have c2 := lc_map (tg := .slot 2) (own := [2]) (env := [some (.d (.lst (h.map .int))), some (.d (.int h.length)), none]) (tst := fun env M => Exs.tst (call T n) .nil env M)
    (el := fun env M => Ex.ev (call T n) (.bin .Add (.bi .max (.cons (.cst (.int 0)) (.cons (.bin .Sub (.ix (.slot 0) (.slot 2)) (.cst (.int 1))) .nil))) (.bi .min (.cons (.cst (.int 1)) (.cons (.ix (.slot 0) (.bin .Mod (.bin .Sub (.bin .Add (.slot 2) (.slot 1)) (.cst (.int 1))) (.slot 1))) .nil)))) env M) (M := M)
    (fun i : Nat => .v (.d (.int (0 + (i : Int))))) (fun i => .int (max2I 0 (gv h i - 1) + min2I 1 (gv h ((i + h.length - 1) % h.length)))) (List.range h.length) [] (fun i hi => by
      have hi := List.mem_range.mp hi
      have h1 : atI (h.map D.int) (0 + (i : Int)) = some (.int (gv h i)) := by rw [Int.zero_add]; exact atI_gv hi
      have hm : binI .Mod (0 + (i : Int) + (h.length : Int) - 1) (h.length : Int) = some (((i + h.length - 1) % h.length : Nat) : Int) := by
        rw [binI_mod (by omega), show 0 + (i : Int) + (h.length : Int) - 1 = ((i + h.length - 1 : Nat) : Int) by omega, Int.natCast_emod]
      have h2 : atI (h.map D.int) (((i + h.length - 1) % h.length : Nat) : Int) = some (.int (gv h ((i + h.length - 1) % h.length))) := atI_gv (Nat.mod_lt _ (by omega))
      generalize (i + h.length - 1) % h.length = j at *
      exact ⟨_, rfl, by rw [Exs.tst], by walk_at "vi"⟩) (by rw [List.length_nil, List.length_range]; omega)
  have i2 : It.ev (call T n) (.rng1 (.slot 1)) [some (.d (.lst (h.map .int))), some (.d (.int h.length)), none] M = .ok ((List.range h.length).map fun i : Nat => .v (.d (.int (0 + (i : Int))))) M :=
    rng1_ev h.length (by walk_at "vi") rfl (by omega)
  have v2 := comp_ev i2 c2
  rw [List.nil_append] at v2
  have e2 : (List.range h.length).map (fun i => D.int (max2I 0 (gv h i - 1) + min2I 1 (gv h ((i + h.length - 1) % h.length)))) = (N h).map .int := by rw [N, List.map_map]; rfl
  rw [e2] at v2
  unfold b_l_gone_on
  clear c2 i2 e2
  walk_at "vi"
  simp only [take_self]
/-! counted -/
def cnt (ps : List Int) : List Int := (List.range ps.length).map fun (i : Nat) => (ps.count (0 + (i : Int)) : Int)
theorem counted_run (n : Nat) (M : Mem) (ps : List Int) (hl : ps.length ≤ 100) :
    call T (n + 1) "_law_counted" [.d (.lst (ps.map .int))] M = .ok (.d (.lst ((cnt ps).map .int))) M := by
  rw [show (("_law_counted" : Str)) = r_l_counted.x from rfl, call_body rows_nd (by simp [rows]) n _ M [some (.d (.lst (ps.map .int))), none] rfl rfl]
  show (b_l_counted.ex _ _ _).bind _ = _
  have hLIM : LIM = 100000 := rfl
  have hisl : isLst (.d (.lst (ps.map .int))) M = true := rfl
  have hcnt : ∀ k : Int, cntD (.lst (ps.map .int)) (.int k) = some (.int (ps.count k : Int)) := fun k => by
    show (intsOf (ps.map .int)).map _ = _
    rw [intsOf_map]
    rfl
  have c2 := lc_map (tg := .slot 1) (own := [1]) (env := [some (.d (.lst (ps.map .int))), none]) (tst := fun env M => Exs.tst (call T n) .nil env M)
    (el := fun env M => Ex.ev (call T n) (.lcnt (.slot 0) (.slot 1)) env M) (M := M)
    (fun i : Nat => .v (.d (.int (0 + (i : Int))))) (fun (i : Nat) => .int (ps.count (0 + (i : Int)) : Int)) (List.range ps.length) [] (fun i hi => by
      exact ⟨_, rfl, by rw [Exs.tst], by walk_at "vi"⟩) (by rw [List.length_nil, List.length_range]; omega)
  have i2 : It.ev (call T n) (.rng1 (.bi .len (.cons (.slot 0) .nil))) [some (.d (.lst (ps.map .int))), none] M = .ok ((List.range ps.length).map fun i : Nat => .v (.d (.int (0 + (i : Int))))) M :=
    rng1_ev (j := (ps.length : Int)) ps.length (by walk_at "vi") rfl (by omega)
  have v2 := comp_ev i2 c2
  rw [List.nil_append] at v2
  have e2 : (List.range ps.length).map (fun i : Nat => D.int (ps.count (0 + (i : Int)) : Int)) = (cnt ps).map .int := by rw [cnt, List.map_map]; rfl
  rw [e2] at v2
  unfold b_l_counted
  clear c2 i2 e2 hcnt hisl
  walk_at "vi"
  simp only [take_self]
theorem bump_gv (h : List Int) (p : Int) (i : Nat) (hp : 0 ≤ p ∧ p < h.length) : gv (bump h p) i = gv h i + (if p = (i : Int) then 1 else 0) := by
  unfold bump gv
  rw [List.getElem?_set]
  by_cases e : p.toNat = i
  · rw [if_pos e, if_pos (by omega), if_pos (by omega), e]
    rfl
  · rw [if_neg e, if_neg (by omega)]
    omega
theorem fold_gv : ∀ (ps : List Int) (h : List Int) (i : Nat), (∀ p ∈ ps, 0 ≤ p ∧ p < h.length) → gv (ps.foldl bump h) i = gv h i + (ps.count (i : Int) : Int) ∧ (ps.foldl bump h).length = h.length
  | [], h, i, _ => ⟨by simp, rfl⟩
  | p :: ps, h, i, hp => by
    obtain ⟨h1, h2⟩ := fold_gv ps (bump h p) i (fun q hq => by rw [bump_len]; exact hp q (by simp [hq]))
    rw [List.foldl_cons, h1, h2, bump_len, bump_gv h p i (hp p (by simp)), List.count_cons]
    refine ⟨?_, rfl⟩
    by_cases e : p = (i : Int)
    · rw [if_pos e, if_pos (by simpa using e)]
      omega
    · rw [if_neg e, if_neg (by simpa using e)]
      omega
theorem ext_gv {h k : List Int} (hl : h.length = k.length) (hg : ∀ i, i < h.length → gv h i = gv k i) : h = k := by
  apply List.ext_getElem hl
  intro i h1 h2
  have := hg i h1
  unfold gv at this
  rw [List.getElem?_eq_getElem h1, List.getElem?_eq_getElem h2] at this
  exact this
theorem heights_cnt {ps : List Int} (hp : ∀ p ∈ ps, 0 ≤ p ∧ p < ps.length) : heights ps = cnt ps := by
  have hf := fun i => fold_gv ps (List.replicate ps.length 0) i (fun p q => by rw [List.length_replicate]; exact hp p q)
  apply ext_gv
  · rw [heights, (hf 0).2, cnt, List.length_map, List.length_range, List.length_replicate]
  · intro i hi
    rw [heights, (hf 0).2, List.length_replicate] at hi
    rw [heights, (hf i).1, cnt, gv_map (α := Int) _ hi, Int.zero_add]
    unfold gv
    rw [List.getElem?_replicate, if_pos hi]
    simp
def itN : Nat → List Int → List Int
  | 0, h => h
  | k + 1, h => itN k (N h)
theorem N_nn {h : List Int} (h0 : ∀ i, 0 ≤ gv h i) (i : Nat) : 0 ≤ gv (N h) i := by
  by_cases hi : i < h.length
  · rw [N, gv_map (α := Int) _ hi]
    have := h0 ((i + h.length - 1) % h.length)
    unfold max2I min2I
    split <;> split <;> omega
  · unfold gv
    rw [List.getElem?_eq_none (by rw [N_len]; omega)]
    exact Int.le_refl 0
theorem cnt_nn (ps : List Int) (i : Nat) : 0 ≤ gv (cnt ps) i := by
  by_cases hi : i < ps.length
  · rw [cnt, gv_map (α := Int) _ hi]
    exact Int.natCast_nonneg _
  · unfold gv
    rw [List.getElem?_eq_none (by rw [cnt, List.length_map, List.length_range]; omega)]
    exact Int.le_refl 0
theorem itN_len : ∀ (k : Nat) (h : List Int), (itN k h).length = h.length
  | 0, h => rfl
  | k + 1, h => by rw [itN, itN_len k, N_len]
theorem itN_nn : ∀ (k : Nat) (h : List Int), (∀ i, 0 ≤ gv h i) → ∀ i, 0 ≤ gv (itN k h) i
  | 0, h, h0, i => h0 i
  | k + 1, h, h0, i => itN_nn k (N h) (N_nn h0) i
theorem itN_succ : ∀ (k : Nat) (h : List Int), itN (k + 1) h = N (itN k h)
  | 0, h => rfl
  | k + 1, h => by
    show itN (k + 1) (N h) = N (itN k (N h))
    exact itN_succ k (N h)
theorem itN_add (j : Nat) : ∀ (k : Nat) (h : List Int), itN (k + j) h = itN j (itN k h)
  | 0, h => by rw [Nat.zero_add]; rfl
  | k + 1, h => by
    rw [show k + 1 + j = (k + j) + 1 by omega]
    show itN (k + j) (N h) = _
    rw [itN_add j k (N h)]
    rfl
theorem behind_run (n : Nat) (M : Mem) (ps : List Int) (x : D) (hx : x = .lst (ps.map .int) ∨ x = .tup (ps.map .int)) (hp : ∀ p ∈ ps, 0 ≤ p ∧ p < ps.length) (hl : ps.length ≤ 100) (b : Nat) (hb : b ≤ 100) :
    call T (n + 2) "heights_behind" [.d x, .d (.int b)] M = .ok (.d (.lst ((itN b (cnt ps)).map .int))) M := by
  have e1 := heights_run n M ps x hx hp hl
  rw [heights_cnt hp] at e1
  rw [show (("heights_behind" : Str)) = r_p_heights_behind.x from rfl, call_body rows_nd (by simp [rows]) (n + 1) _ M [some (.d x), some (.d (.int b)), none, none] rfl rfl]
  show (b_p_heights_behind.ex _ _ _).bind _ = _
  have key : ∀ (ks : List Nat) (h : List Int) (v3 : Option Val), (∀ i, 0 ≤ gv h i) → h.length ≤ 100 → ∃ w3, forGo (.slot 3) (fun env M => Sts.ex (call T (n + 1)) (.cons (.asg 2 (.call "next_heights" (.cons (.slot 2) .nil))) .nil) env M) (ks.map fun (k : Nat) => .v (.d (.int (0 + (k : Int))))) [some (.d x), some (.d (.int b)), some (.d (.lst (h.map .int))), v3] M =
      .ok (.nx, [some (.d x), some (.d (.int b)), some (.d (.lst ((itN ks.length h).map .int))), w3]) M := by
    intro ks
    induction ks with
    | nil => exact fun h v3 _ _ => ⟨v3, rfl⟩
    | cons k ks ih =>
      intro h v3 h0 hl
      obtain ⟨w3, e⟩ := ih (N h) (some (.d (.int (0 + (k : Int))))) (N_nn h0) (by rw [N_len]; exact hl)
      have en := next_run n M h h0 hl
      refine ⟨w3, ?_⟩
      rw [List.map_cons, forGo, List.length_cons, itN]
      clear ih h0
      walk_at "vi"
  obtain ⟨w3, e⟩ := key (List.range b) (cnt ps) none (cnt_nn ps) (by rw [cnt, List.length_map, List.length_range]; exact hl)
  have i2 : It.ev (call T (n + 1)) (.rng1 (.slot 1)) [some (.d x), some (.d (.int b)), some (.d (.lst ((cnt ps).map .int))), none] M = .ok ((List.range b).map fun i : Nat => .v (.d (.int (0 + (i : Int))))) M :=
    rng1_ev (j := (b : Int)) b (by walk_at "vi") rfl (by omega)
  rw [List.length_range] at e
  unfold b_p_heights_behind
  clear key hp
  walk_at "vi"
  simp only [take_self]
/-! draws -/
theorem size_run (n : Nat) {K : Nat} (M : Mem) (b : Nat) (h : At M b K) (hK : K < 1000000) :
    ∃ (k : Nat) (M' : Mem), call T (n + 2) "_law_size" [.ref b] M = .ok (.d (.int (k : Int))) M' ∧ 1 ≤ k ∧ k ≤ 12 ∧ At M' b (K + 3) ∧ M'.length = M.length := by
  obtain ⟨v1, M1, e1, p1, q1, a1, l1, _⟩ := takes (hasTake n) M b 12 h (by omega) (by decide) (by decide)
  obtain ⟨v2, M2, e2, p2, q2, a2, l2, _⟩ := takes (hasTake n) M1 b 5 a1 (by omega) (by decide) (by decide)
  obtain ⟨v3, M3, e3, p3, q3, a3, l3, _⟩ := takes (hasTake n) M2 b 5 a2 (by omega) (by decide) (by decide)
  obtain ⟨j, hj, k, hk1, hk2, hk⟩ : ∃ j : Int, atI [D.int 0, .int 0, .int 1, .int 1, .int 2] v3 = some (.int j) ∧ ∃ k : Nat, 1 ≤ k ∧ k ≤ 12 ∧ atI [D.int (1 + v1), .int (2 + v2), .int 12] j = some (.int (k : Int)) := by
    have c0 : atI [D.int (1 + v1), .int (2 + v2), .int 12] 0 = some (.int (((1 + v1).toNat : Nat) : Int)) := by rw [atI_0, Int.toNat_of_nonneg (by omega)]; rfl
    have c1 : atI [D.int (1 + v1), .int (2 + v2), .int 12] 1 = some (.int (((2 + v2).toNat : Nat) : Int)) := by rw [atI_1, Int.toNat_of_nonneg (by omega)]; rfl
    have : v3 = 0 ∨ v3 = 1 ∨ v3 = 2 ∨ v3 = 3 ∨ v3 = 4 := by omega
    rcases this with rfl | rfl | rfl | rfl | rfl
    · exact ⟨0, rfl, _, by omega, by omega, c0⟩
    · exact ⟨0, rfl, _, by omega, by omega, c0⟩
    · exact ⟨1, rfl, _, by omega, by omega, c1⟩
    · exact ⟨1, rfl, _, by omega, by omega, c1⟩
    · exact ⟨2, rfl, 12, by omega, by omega, rfl⟩
  refine ⟨k, M3, ?_, hk1, hk2, a3.up (by omega), by omega⟩
  rw [show (("_law_size" : Str)) = r_l_size.x from rfl, call_body rows_nd (by simp [rows]) (n + 1) _ M [some (.ref b)] rfl rfl]
  show (b_l_size.ex _ _ _).bind _ = _
  have t3 : List.take M.length M3 = M3 := List.take_of_length_le (by omega)
  have hLIM : (0 + 1 + 1 + 1 + 1 + 1 ≤ LIM) = True := eq_true (by decide)
  unfold b_l_size
  walk_at "vi"
theorem of_ints_R {R : Int → Prop} : (ys : List D) → (∀ y ∈ ys, ∃ i, y = .int i ∧ R i) → ∃ ms : List Int, ys = ms.map .int ∧ ms.length = ys.length ∧ ∀ m ∈ ms, R m
  | [], _ => ⟨[], rfl, rfl, fun _ h => nomatch h⟩
  | y :: ys, h => by
    obtain ⟨i, rfl, hi⟩ := h y (by simp)
    obtain ⟨ms, rfl, _, hm⟩ := of_ints_R ys fun z hz => h z (by simp [hz])
    exact ⟨i :: ms, rfl, by simp, fun m h => (List.mem_cons.mp h).elim (fun e => e ▸ hi) (hm m)⟩
theorem comp_draws {F : Oracle} {k K b : Nat} (el : Ex) (E : VI.Env) (M : Mem) (hk : k ≤ 12) (h : At M b K) (h1 : Ex.ev F (.slot 1) E M = .ok (.d (.int (k : Int))) M)
    (hel : ∀ (j K' : Nat) (M' : Mem), j < k → K' < K + 12 → At M' b K' → ∃ v M'', Ex.ev F el ((wipeE E [4]).set 4 (some (.d (.int (0 + (j : Int)))))) M' = .ok (.d (.int v)) M'' ∧ 0 ≤ v ∧ v < (k : Int) ∧ At M'' b (K' + 1) ∧ M''.length = M'.length) :
    ∃ (ps : List Int) (M' : Mem), Ex.ev F (.comp (.rng1 (.slot 1)) (.slot 4) [4] .nil el) E M = .ok (.d (.lst (ps.map .int))) M' ∧ ps.length = k ∧ (∀ p ∈ ps, 0 ≤ p ∧ p < (k : Int)) ∧ At M' b (K + k) ∧ M'.length = M.length := by
  have hLIM : LIM = 100000 := rfl
  obtain ⟨ys, M4, hc, hl, hp, a4, l4⟩ := lc_inv (tg := .slot 4) (own := [4]) (env := E) (tst := fun env M => Exs.tst F .nil env M) (el := fun env M => Ex.ev F el env M)
    k (fun j M' => At M' b (K + j) ∧ M'.length = M.length) (fun it => ∃ j : Nat, j < k ∧ it = .v (.d (.int (0 + (j : Int))))) (fun y => ∃ i, y = .int i ∧ 0 ≤ i ∧ i < (k : Int)) (fun it j M' hj hx hM => by
      obtain ⟨i, hi, rfl⟩ := hx
      obtain ⟨v, M'', e, p1, p2, a, l⟩ := hel i (K + j) M' hi (by omega) hM.1
      exact ⟨_, M', .int v, M'', rfl, by rw [Exs.tst], e, ⟨v, rfl, p1, p2⟩, a.up (by omega), by omega⟩) (upto k) [] 0 M (fun x hx => by
        obtain ⟨j, hj, rfl⟩ := upto_mem hx
        exact ⟨j, hj, rfl⟩) (by rw [upto_len, List.length_nil]; omega) (by rw [upto_len]; omega) ⟨h, rfl⟩
  have hv := comp_ev (rng1_ev (j := (k : Int)) k h1 rfl (by omega)) hc
  obtain ⟨ms, rfl, hl2, hm⟩ := of_ints_R ys hp
  rw [upto_len] at hl a4
  rw [List.nil_append] at hv
  exact ⟨ms, M4, hv, by omega, hm, a4.up (by omega), l4⟩
theorem places_run (n : Nat) {K : Nat} (M : Mem) (b k : Nat) (h : At M b K) (hK : K < 1000000) (hk : 1 ≤ k) (hk2 : k ≤ 12) :
    ∃ (ps : List Int) (M' : Mem), call T (n + 2) "_law_places" [.ref b, .d (.int (k : Int))] M = .ok (.d (.lst (ps.map .int))) M' ∧ ps.length = k ∧ (∀ p ∈ ps, 0 ≤ p ∧ p < (k : Int)) ∧ At M' b (K + 16) ∧ M'.length = M.length := by
  have hLIM : LIM = 100000 := rfl
  rw [show (("_law_places" : Str)) = r_l_places.x from rfl]
  simp only [fun M => call_body rows_nd (r := r_l_places) (by simp [rows]) (n + 1) [.ref b, .d (.int (k : Int))] M [some (.ref b), some (.d (.int (k : Int))), none, none, none, none] rfl rfl]
  show ∃ (ps : List Int) (M' : Mem), (b_l_places.ex _ _ _).bind _ = _ ∧ _
  obtain ⟨v1, M1, e1, p1, q1, a1, l1, _⟩ := takes (hasTake n) M b 6 h (by omega) (by decide) (by decide)
  obtain ⟨v2, M2, e2, p2, q2, a2, l2, _⟩ := takes (hasTake n) M1 b (k : Int) a1 (by omega) (by omega) (by omega)
  have t2 : List.take M.length M2 = M2 := List.take_of_length_le (by omega)
  have md : ∀ i : Int, binI .Mod i (k : Int) = some (i % (k : Int)) := fun i => binI_mod (by omega)
  have mb : ∀ i : Int, 0 ≤ i % (k : Int) ∧ i % (k : Int) < (k : Int) := fun i => ⟨Int.emod_nonneg _ (by omega), Int.emod_lt_of_pos _ (by omega)⟩
  unfold b_l_places
  cases c0 : (v1 == 0) with
  | true =>
    have hm : binD .Mult (.lst [.int v2]) (.int (k : Int)) = some (.lst ((List.replicate k v2).map .int)) := by
      have hc : -(2 ^ 62) < (k : Int) ∧ (k : Int) < 2 ^ 62 ∧ [D.int v2].length * (k : Int).toNat ≤ LIM := by
        refine ⟨by omega, by omega, ?_⟩
        rw [List.length_singleton]
        omega
      rw [bin_rep hc, Int.toNat_natCast, rep_ints]
    refine ⟨List.replicate k v2, M2, ?_, by rw [List.length_replicate], fun p hp => by rw [List.eq_of_mem_replicate hp]; exact ⟨p2, q2⟩, a2.up (by omega), by omega⟩
    clear md mb hLIM
    walk_at "vi"
  | false =>
    cases c1 : (v1 == 1) with
    | true =>
      obtain ⟨ps, M3, e3, lp, hp, a3, l3⟩ := comp_draws (F := call T (n + 1)) (k := k) (.bin .Mod (.bin .Add (.slot 3) (.bin .Mult (.slot 4) (.bin .Add (.cst (.int 1)) (.call "_law_take" (.cons (.slot 0) (.cons (.cst (.int 2)) .nil)))))) (.slot 1)) [some (.ref b), some (.d (.int (k : Int))), some (.d (.int v1)), some (.d (.int v2)), none, none] M2 hk2 a2 (by clear md mb hLIM; walk_at "vi") (fun j K' M' hj hK' hM => by
        obtain ⟨v, M'', e, pv, qv, a, l, _⟩ := takes (hasTake n) M' b 2 hM (by omega) (by decide) (by decide)
        have hmul : binI .Mult (0 + (j : Int)) (1 + v) = some ((0 + (j : Int)) * (1 + v)) := binI_mul (.inl (by constructor <;> omega))
        refine ⟨(v2 + (0 + (j : Int)) * (1 + v)) % (k : Int), M'', ?_, (mb _).1, (mb _).2, a, l⟩
        clear mb hLIM
        walk_at "vi")
      have t3 : List.take M.length M3 = M3 := List.take_of_length_le (by omega)
      refine ⟨ps, M3, ?_, lp, hp, a3.up (by omega), by omega⟩
      clear md mb hp hLIM
      walk_at "vi"
    | false =>
      cases c2 : (v1 == 2) with
      | true =>
        obtain ⟨ps, M3, e3, lp, hp, a3, l3⟩ := comp_draws (F := call T (n + 1)) (k := k) (.ix (.lst (.cons (.slot 3) (.cons (.bin .Mod (.bin .Add (.slot 3) (.cst (.int 1))) (.slot 1)) (.cons (.bin .Mod (.bin .Add (.slot 3) (.bin .FloorDiv (.slot 1) (.cst (.int 2)))) (.slot 1)) .nil)))) (.call "_law_take" (.cons (.slot 0) (.cons (.cst (.int 3)) .nil)))) [some (.ref b), some (.d (.int (k : Int))), some (.d (.int v1)), some (.d (.int v2)), none, none] M2 hk2 a2 (by clear md mb hLIM; walk_at "vi") (fun j K' M' hj hK' hM => by
          obtain ⟨v, M'', e, pv, qv, a, l, _⟩ := takes (hasTake n) M' b 3 hM (by omega) (by decide) (by decide)
          have hfd : binI .FloorDiv (k : Int) 2 = some ((k : Int) / 2) := binI_fdiv (by decide)
          obtain ⟨z, hz, z1, z2⟩ : ∃ z : Int, atI [D.int v2, .int ((v2 + 1) % (k : Int)), .int ((v2 + (k : Int) / 2) % (k : Int))] v = some (.int z) ∧ 0 ≤ z ∧ z < (k : Int) := by
            have : v = 0 ∨ v = 1 ∨ v = 2 := by omega
            rcases this with rfl | rfl | rfl
            · exact ⟨_, rfl, p2, q2⟩
            · exact ⟨_, rfl, (mb _).1, (mb _).2⟩
            · exact ⟨_, rfl, (mb _).1, (mb _).2⟩
          refine ⟨z, M'', ?_, z1, z2, a, l⟩
          clear mb hLIM
          walk_at "vi")
        have t3 : List.take M.length M3 = M3 := List.take_of_length_le (by omega)
        refine ⟨ps, M3, ?_, lp, hp, a3.up (by omega), by omega⟩
        clear md mb hp hLIM
        walk_at "vi"
      | false =>
        have e3 := lc_map (tg := .slot 4) (own := [4]) (env := [some (.ref b), some (.d (.int (k : Int))), some (.d (.int v1)), some (.d (.int v2)), none, none]) (tst := fun env M => Exs.tst (call T (n + 1)) .nil env M) (el := fun env M => Ex.ev (call T (n + 1)) (.bin .Mod (.bin .Add (.slot 3) (.slot 4)) (.slot 1)) env M) (M := M2)
          (fun j : Nat => .v (.d (.int (0 + (j : Int))))) (fun j => .int ((v2 + (0 + (j : Int))) % (k : Int))) (List.range k) [] (fun j _ => ⟨_, rfl, by rw [Exs.tst], by clear mb hLIM; walk_at "vi"⟩) (by rw [List.length_nil, List.length_range]; omega)
        have i3 : It.ev (call T (n + 1)) (.rng1 (.slot 1)) [some (.ref b), some (.d (.int (k : Int))), some (.d (.int v1)), some (.d (.int v2)), none, none] M2 = .ok ((List.range k).map fun j : Nat => .v (.d (.int (0 + (j : Int))))) M2 :=
          rng1_ev (j := (k : Int)) k (by clear mb md hLIM; walk_at "vi") rfl (by omega)
        have v3 := comp_ev i3 e3
        have q3 : (List.range k).map (fun j : Nat => D.int ((v2 + (0 + (j : Int))) % (k : Int))) = ((List.range k).map fun j : Nat => (v2 + (0 + (j : Int))) % (k : Int)).map .int := by rw [List.map_map]; rfl
        rw [List.nil_append, q3] at v3
        have hin : ∀ p ∈ (List.range k).map (fun j : Nat => (v2 + (0 + (j : Int))) % (k : Int)), 0 ≤ p ∧ p < (k : Int) := fun p hp => by
          obtain ⟨j, _, rfl⟩ := List.mem_map.mp hp
          exact mb _
        have hlen : ((List.range k).map fun j : Nat => (v2 + (0 + (j : Int))) % (k : Int)).length = k := by rw [List.length_map, List.length_range]
        generalize (List.range k).map (fun j : Nat => (v2 + (0 + (j : Int))) % (k : Int)) = qs at v3 hin hlen
        clear e3 i3 q3
        have aP : At (M2 ++ [.lst (qs.map .int)]) b (K + 1 + 1) := by
          obtain ⟨x, h1, h2⟩ := a2
          exact ⟨x, by rw [List.getElem?_append_left (List.getElem?_eq_some_iff.mp h1).1]; exact h1, h2⟩
        have lP : (M2 ++ [Ob.lst (qs.map .int)]).length = M.length + 1 := by rw [List.length_append, List.length_singleton]; omega
        have gP := get_end M2 (.lst (qs.map .int))
        have bM : b < M2.length := a2.lt
        cases c3 : (v1 == 3) with
        | true =>
          obtain ⟨v4, M4, e4, p4, q4, a4, l4, k4⟩ := takes (hasTake n) _ b (k : Int) aP (by omega) (by omega) (by omega)
          obtain ⟨v5, M5, e5, p5, q5, a5, l5, k5⟩ := takes (hasTake n) _ b (k : Int) a4 (by omega) (by omega) (by omega)
          have g5 : M5[M2.length]? = some (.lst (qs.map .int)) := by rw [k5 _ (by omega), k4 _ (by omega)]; exact gP
          have s5 : setAt (.ref M2.length) (.d (.int v5)) (.d (.int v4)) M5 = some (M5.set M2.length (.lst ((qs.set v5.toNat v4).map .int))) := by
            simp only [setAt, g5, List.length_map, hlen, ixN_in p5 q5, omap, List.map_set]
          have g6 : (M5.set M2.length (.lst ((qs.set v5.toNat v4).map .int)))[M2.length]? = some (.lst ((qs.set v5.toNat v4).map .int)) := get_setM g5
          have t6 : List.take M.length ((M5.set M2.length (Ob.lst ((qs.set v5.toNat v4).map .int))).set M2.length .gone) = List.take M.length M5 := by
            rw [set_set, List.take_set_of_le (by omega)]
          refine ⟨qs.set v5.toNat v4, List.take M.length M5, ?_, by rw [List.length_set]; exact hlen, fun p hp => ?_, ?_, by rw [List.length_take]; omega⟩
          · have hM2 : M2.length = M.length := by omega
            rw [hM2] at s5 g6 t6
            clear md mb hLIM hin aP k4 k5 lP gP g5
            walk_at "vi"
          · rcases List.mem_or_eq_of_mem_set hp with h | rfl
            · exact hin p h
            · exact ⟨p4, q4⟩
          · obtain ⟨x, h1, h2⟩ := a5.up (N' := K + 16) (by omega)
            exact ⟨x, by rw [List.getElem?_take_of_lt (by omega)]; exact h1, h2⟩
        | false =>
          obtain ⟨ps, M3, e3, lp, hp, a3, l3⟩ := comp_draws (F := call T (n + 1)) (k := k) (.call "_law_take" (.cons (.slot 0) (.cons (.slot 1) .nil))) [some (.ref b), some (.d (.int (k : Int))), some (.d (.int v1)), some (.d (.int v2)), none, some (.ref M2.length)] (M2 ++ [.lst (qs.map .int)]) hk2 aP (by clear md mb hLIM; walk_at "vi") (fun j K' M' hj hK' hM => by
            obtain ⟨v, M'', e, pv, qv, a, l, _⟩ := takes (hasTake n) M' b (k : Int) hM (by omega) (by omega) (by omega)
            refine ⟨v, M'', ?_, pv, qv, a, l⟩
            clear mb md hLIM
            walk_at "vi")
          refine ⟨ps, List.take M.length M3, ?_, lp, hp, ?_, by rw [List.length_take]; omega⟩
          · have hM2 : M2.length = M.length := by omega
            rw [hM2] at e3
            clear md mb hp hLIM hin aP lP
            walk_at "vi"
          · obtain ⟨x, h1, h2⟩ := a3.up (N' := K + 16) (by omega)
            exact ⟨x, by rw [List.getElem?_take_of_lt (by omega)]; exact h1, h2⟩
/-! sums -/
theorem sum_add {α : Type} (f g : α → Int) : (l : List α) → (l.map fun a => f a + g a).sum = (l.map f).sum + (l.map g).sum
  | [] => rfl
  | a :: l => by
    simp only [List.map_cons, List.sum_cons]
    rw [sum_add f g l]
    omega
theorem sum_shift (g : Nat → Int) (n : Nat) : ((List.range n).map fun i => g ((i + n - 1) % n)).sum = ((List.range n).map g).sum := by
  cases n with
  | zero => rfl
  | succ m =>
    have e1 : (List.range (m + 1)).map (fun i => g ((i + (m + 1) - 1) % (m + 1))) = g m :: (List.range m).map g := by
      rw [List.range_succ_eq_map, List.map_cons, List.map_map]
      congr 1
      · rw [show 0 + (m + 1) - 1 = m by omega, Nat.mod_eq_of_lt (by omega)]
      · apply List.map_congr_left
        intro i hi
        have hi := List.mem_range.mp hi
        show g ((i + 1 + (m + 1) - 1) % (m + 1)) = g i
        rw [show i + 1 + (m + 1) - 1 = i + (m + 1) by omega, Nat.add_mod_right, Nat.mod_eq_of_lt (by omega)]
    rw [e1, List.range_succ, List.map_append, List.sum_append, List.sum_cons]
    simp only [List.map_cons, List.map_nil, List.sum_cons, List.sum_nil]
    omega
theorem sum_gv (h : List Int) : ((List.range h.length).map (gv h)).sum = h.sum := by
  congr 1
  apply List.ext_getElem
  · rw [List.length_map, List.length_range]
  · intro i h1 h2
    rw [List.getElem_map, List.getElem_range, gv, List.getElem?_eq_getElem h2]
    rfl
theorem sum_N {h : List Int} (h0 : ∀ i, 0 ≤ gv h i) : (N h).sum = h.sum := by
  rw [N, sum_add (fun i => max2I 0 (gv h i - 1)) (fun i => min2I 1 (gv h ((i + h.length - 1) % h.length))), sum_shift (fun j => min2I 1 (gv h j)), ← sum_add, ← sum_gv h]
  congr 1
  apply List.map_congr_left
  intro i _
  have := h0 i
  unfold max2I min2I
  split <;> split <;> omega
theorem sum_itN : ∀ (k : Nat) {h : List Int}, (∀ i, 0 ≤ gv h i) → (itN k h).sum = h.sum
  | 0, _, _ => rfl
  | k + 1, h, h0 => by rw [itN, sum_itN k (N_nn h0), sum_N h0]
theorem sum_set1 : ∀ (h : List Int) (i : Nat), i < h.length → (h.set i (h[i]?.getD 0 + 1)).sum = h.sum + 1
  | [], _, hi => absurd hi (Nat.not_lt_zero _)
  | a :: h, 0, _ => by
    show ((a + 1) :: h).sum = _
    rw [List.sum_cons, List.sum_cons]
    omega
  | a :: h, i + 1, hi => by
    have := sum_set1 h i (by simpa using hi)
    rw [List.set_cons_succ, List.getElem?_cons_succ, List.sum_cons, List.sum_cons, this]
    omega
theorem sum_fold : ∀ (ps h : List Int), (∀ p ∈ ps, 0 ≤ p ∧ p < h.length) → (ps.foldl bump h).sum = h.sum + ps.length
  | [], h, _ => by simp
  | p :: ps, h, hp => by
    rw [List.foldl_cons, sum_fold ps (bump h p) (fun q hq => by rw [bump_len]; exact hp q (by simp [hq]))]
    obtain ⟨h1, h2⟩ := hp p (by simp)
    rw [bump, sum_set1 h p.toNat (by omega), List.length_cons]
    omega
theorem sum_zero : ∀ n : Nat, (List.replicate n (0 : Int)).sum = 0
  | 0 => rfl
  | n + 1 => by rw [List.replicate_succ, List.sum_cons, sum_zero n]; rfl
theorem sum_cnt {ps : List Int} (hp : ∀ p ∈ ps, 0 ≤ p ∧ p < ps.length) : (cnt ps).sum = ps.length := by
  rw [← heights_cnt hp, heights, sum_fold _ _ (fun p h => by rw [List.length_replicate]; exact hp p h), sum_zero]
  omega
/-! copies by heights -/
def copies (f : Nat → Nat) (is : List Nat) : List Int := (is.map fun i => List.replicate (f i) (i : Int)).flatten
theorem copies_count (f : Nat → Nat) (j : Nat) : ∀ n, (copies f (List.range n)).count (j : Int) = if j < n then f j else 0
  | 0 => rfl
  | n + 1 => by
    unfold copies
    rw [List.range_succ, List.map_append, List.flatten_append, List.count_append]
    have := copies_count f j n
    unfold copies at this
    rw [this]
    simp only [List.map_cons, List.map_nil, List.flatten_cons, List.flatten_nil, List.append_nil, List.count_replicate]
    by_cases e : n = j
    · subst e
      simp
    · have : ((n : Int) == (j : Int)) = false := beq_eq_false_iff_ne.mpr (by omega)
      rw [this]
      simp only [Bool.false_eq_true, if_false]
      by_cases q : j < n
      · rw [if_pos q, if_pos (show j < n + 1 by omega)]
        rfl
      · rw [if_neg q, if_neg (show ¬ j < n + 1 by omega)]
theorem copies_mem {f : Nat → Nat} {n : Nat} {p : Int} (h : p ∈ copies f (List.range n)) : 0 ≤ p ∧ p < n := by
  unfold copies at h
  obtain ⟨l, h1, h2⟩ := List.mem_flatten.mp h
  obtain ⟨i, h3, rfl⟩ := List.mem_map.mp h1
  have := List.mem_range.mp h3
  rw [List.eq_of_mem_replicate h2]
  omega
theorem copies_len (f : Nat → Nat) : ∀ is : List Nat, ((copies f is).length : Int) = (is.map fun i => ((f i : Nat) : Int)).sum
  | [] => rfl
  | i :: is => by
    have := copies_len f is
    unfold copies at this ⊢
    rw [List.map_cons, List.flatten_cons, List.length_append, List.length_replicate, List.map_cons, List.sum_cons, ← this]
    omega
def again (h : List Int) : List Int := copies (fun i => (gv h i).toNat) (List.range h.length)
theorem again_len {h : List Int} (h0 : ∀ i, 0 ≤ gv h i) : ((again h).length : Int) = h.sum := by
  rw [again, copies_len, ← sum_gv h]
  congr 1
  apply List.map_congr_left
  intro i _
  exact Int.toNat_of_nonneg (h0 i)
theorem cnt_again {h : List Int} (h0 : ∀ i, 0 ≤ gv h i) (hs : h.sum = h.length) : cnt (again h).reverse = h := by
  have hl : (again h).length = h.length := by have := again_len h0; omega
  have hl2 : (again h).reverse.length = h.length := by rw [List.length_reverse]; exact hl
  apply ext_gv
  · rw [cnt, List.length_map, List.length_range, hl2]
  · intro i hi
    have hi : i < h.length := by rw [cnt, List.length_map, List.length_range, hl2] at hi; exact hi
    rw [cnt, hl2, gv_map (α := Int) _ hi, Int.zero_add, List.count_reverse, again, copies_count, if_pos hi]
    exact Int.toNat_of_nonneg (h0 i)
/-! the script folded, the box, the law -/
theorem cut_map {α β : Type} (f : α → β) (xs : List α) (lo hi : Option Int) : cutL (xs.map f) lo hi = (cutL xs lo hi).map f := by
  unfold cutL
  rw [List.length_map, List.map_take, List.map_drop]
theorem box_run (n : Nat) (M : Mem) (ns : List Int) (k : Nat) (hk : k < 100) :
    ∃ a c : Int, call T (n + 1) "_law_box" [.d (.lst (ns.map .int)), .d (.int k)] M = .ok (.ref M.length) (M ++ [.lst [.int a, .int c, .int 0]]) ∧ 0 ≤ c ∧ c < 2147483647 := by
  rw [show (("_law_box" : Str)) = r_l_box.x from rfl, call_body rows_nd (by simp [rows]) n _ M [some (.d (.lst (ns.map .int))), some (.d (.int k)), none] rfl rfl]
  exact box_body _ _ M ns k hk rfl
theorem folded_run (n : Nat) (M : Mem) (ns : List Int) (hn : ns.length ≤ 63) :
    ∃ cs : List Int, call T (n + 1) "_law_folded" [.scr ns, .d (.int 4)] M = .ok (.d (.lst (cs.map .int))) M ∧ cs.length ≤ 4 := by
  rw [show (("_law_folded" : Str)) = r_l_folded.x from rfl, call_body rows_nd (by simp [rows]) n _ M [some (.scr ns), some (.d (.int 4)), none, none, none] rfl rfl]
  show ∃ cs : List Int, (b_l_folded.ex _ _ _).bind _ = _ ∧ _
  have c0 := cut_map D.int ns none (some 4)
  have c1 := cut_map D.int ns (some 4) (some 63)
  have s4 : HT.sIx ns.length ns.length (some 4) = min 4 ns.length := rfl
  have s4' : HT.sIx ns.length 0 (some 4) = min 4 ns.length := rfl
  have s0 : HT.sIx ns.length 0 none = 0 := rfl
  have l0 : (cutL ns none (some 4)).length = min 4 ns.length := by
    unfold cutL
    rw [s4, s0, List.length_take, List.length_drop]
    omega
  have l1 : (cutL ns (some 4) (some 63)).length ≤ 63 ∧ (0 < (cutL ns (some 4) (some 63)).length → 4 < ns.length) := by
    unfold cutL
    rw [s4', List.length_take, List.length_drop]
    omega
  generalize cutL ns none (some 4) = cs0 at *
  generalize cutL ns (some 4) (some 63) = cs1 at *
  obtain ⟨env', M', hf, ⟨cs, o3, o4, hcs, rfl, rfl⟩⟩ := for_inv (tg := .tup (.cons (.slot 3) (.cons (.slot 4) .nil))) (body := fun env M => Sts.ex (call T n) (.cons (.set (.slot 2) (.bin .Mod (.slot 3) (.slot 1)) (.bin .Add (.ix (.slot 2) (.bin .Mod (.slot 3) (.slot 1))) (.bin .Mult (.slot 4) (.bin .Add (.slot 3) (.cst (.int 2)))))) .nil) env M)
    (fun env Mx => ∃ (cs : List Int) (o3 o4 : Option Val), cs.length = cs0.length ∧ env = [some (.scr ns), some (.d (.int 4)), some (.ref M.length), o3, o4] ∧ Mx = M ++ [.lst (cs.map .int)])
    (fun it => ∃ (k : Nat) (c : Int), k < 100 ∧ cs0.length = 4 ∧ it = .p [.d (.int (k : Int)), .d (.int c)]) (fun it env Mx hq hI => by
      obtain ⟨k, c, hk, h4, rfl⟩ := hq
      obtain ⟨cs, o3, o4, hcs, rfl, rfl⟩ := hI
      have hm : binI .Mod (k : Int) 4 = some ((k : Int) % 4) := binI_mod (by decide)
      have p0 : 0 ≤ (k : Int) % 4 := by omega
      have p1 : (k : Int) % 4 < cs.length := by omega
      have hat : (Val.ref M.length).at (M ++ [.lst (cs.map .int)]) = some (.lst (cs.map .int)) := at_ref (get_end _ _)
      have hix := atI_map (h := cs) p0 p1
      have hs : ∀ c : Int, setAt (.ref M.length) (.d (.int ((k : Int) % 4))) (.d (.int c)) (M ++ [.lst (cs.map .int)]) = some (M ++ [.lst ((cs.set ((k : Int) % 4).toNat c).map .int)]) := fun c => by
        simp only [setAt, get_end, List.length_map, ixN_in p0 p1, omap, set_end, List.map_set]
      have hmu : binI .Mult c ((k : Int) + 2) = some (c * ((k : Int) + 2)) := binI_mul (.inr (by constructor <;> omega))
      refine ⟨_, [some (.scr ns), some (.d (.int 4)), some (.ref M.length), some (.d (.int (k : Int))), some (.d (.int c))], M ++ [.lst ((cs.set ((k : Int) % 4).toNat (cs[((k : Int) % 4).toNat]?.getD 0 + c * ((k : Int) + 2))).map .int)], rfl, ?_, ⟨_, _, _, by rw [List.length_set]; exact hcs, rfl, rfl⟩⟩
      clear c0 c1 hcs h4
      walk_at "vi") ((List.range cs1.length).map fun i : Nat => .p [.d (.int (i : Int)), .d (.int (gv cs1 i))]) [some (.scr ns), some (.d (.int 4)), some (.ref M.length), none, none] (M ++ [.lst (cs0.map .int)]) (fun it hi => by
        obtain ⟨i, hj, rfl⟩ := List.mem_map.mp hi
        have hj := List.mem_range.mp hj
        exact ⟨i, _, by omega, by omega, rfl⟩) ⟨cs0, none, none, rfl, rfl, rfl⟩
  have i2 : It.ev (call T n) (.enm (.sl (.slot 0) (.cons (.slot 1) .nil) (.cons (.cst (.int 63)) .nil))) [some (.scr ns), some (.d (.int 4)), some (.ref M.length), none, none] (M ++ [.lst (cs0.map .int)]) = .ok ((List.range cs1.length).map fun i : Nat => .p [.d (.int (i : Int)), .d (.int (gv cs1 i))]) (M ++ [.lst (cs0.map .int)]) := by
    have hev : Ex.ev (call T n) (.sl (.slot 0) (.cons (.slot 1) .nil) (.cons (.cst (.int 63)) .nil)) [some (.scr ns), some (.d (.int 4)), some (.ref M.length), none, none] (M ++ [.lst (cs0.map .int)]) = .ok (.d (.lst (cs1.map .int))) (M ++ [.lst (cs0.map .int)]) := by
      clear hf hcs l0 l1 s4 s4' s0
      walk_at "vi"
    rw [It.ev, hev, bind_ok]
    have hLIM : LIM = 100000 := rfl
    show (if (cs1.map D.int).length ≤ LIM then _ else _) = _
    rw [if_pos (by rw [List.length_map]; omega), zipIdx_range D.non, List.map_map, List.length_map]
    congr 1
    apply List.map_congr_left
    intro i hi
    have hi := List.mem_range.mp hi
    show Itm.p [.d (.int (i : Int)), .d (((cs1.map D.int)[i]?).getD D.non)] = _
    rw [List.getElem?_map, gv, List.getElem?_eq_getElem (by omega)]
    rfl
  refine ⟨cs, ?_, by omega⟩
  have hge := get_end M (.lst (cs.map .int))
  have hse := set_end M (.lst (cs.map .int)) .gone
  have hte := take_end M .gone
  clear hcs l0 l1 s4 s4' s0 c1
  unfold b_l_folded
  walk_at "vi"
theorem again_loop {F : Oracle} {e0 : VI.Env} {M : Mem} (f : Nat → Nat) (h : List Int) (hf : ∀ i, gv h i = (f i : Int)) (E0 E1 E2 E3 E4 E5 E6 E7 E8 E9 : Option Val) : ∀ (is : List Nat) (A : List Int) (o11 o12 : Option Val), A.length + (copies f is).length ≤ LIM → ∃ w11 w12,
    forGo (.tup (.cons (.slot 11) (.cons (.slot 12) .nil))) (fun env M => Sts.ex F (.cons (.asg 10 (.bin .Add (.slot 10) (.bin .Mult (.lst (.cons (.slot 11) .nil)) (.slot 12)))) .nil) env M) (is.map fun i : Nat => .p [.d (.int (i : Int)), .d (.int (gv h i))])
      [E0, E1, E2, E3, E4, E5, E6, E7, E8, E9, some (.d (.lst (A.map .int))), o11, o12] M = .ok (.nx, [E0, E1, E2, E3, E4, E5, E6, E7, E8, E9, some (.d (.lst ((A ++ copies f is).map .int))), w11, w12]) M
  | [], A, o11, o12, _ => ⟨o11, o12, by simp [copies, forGo]⟩
  | i :: is, A, o11, o12, hl => by
    have hc : copies f (i :: is) = List.replicate (f i) (i : Int) ++ copies f is := by unfold copies; rw [List.map_cons, List.flatten_cons]
    rw [hc, List.length_append, List.length_replicate] at hl
    have hLIM : LIM = 100000 := rfl
    obtain ⟨w11, w12, e⟩ := again_loop (F := F) (e0 := e0) (M := M) f h hf E0 E1 E2 E3 E4 E5 E6 E7 E8 E9 is (A ++ List.replicate (f i) (i : Int)) (some (.d (.int (i : Int)))) (some (.d (.int (gv h i)))) (by rw [List.length_append, List.length_replicate]; omega)
    refine ⟨w11, w12, ?_⟩
    have hm : binD .Mult (.lst [.int (i : Int)]) (.int (gv h i)) = some (.lst ((List.replicate (f i) (i : Int)).map .int)) := by
      rw [hf i]
      have hc : -(2 ^ 62) < (f i : Int) ∧ (f i : Int) < 2 ^ 62 ∧ [D.int (i : Int)].length * ((f i : Int)).toNat ≤ LIM := by
        refine ⟨by omega, by omega, ?_⟩
        rw [List.length_singleton]
        omega
      rw [bin_rep hc, Int.toNat_natCast, rep_ints]
    have ha : binD .Add (.lst (A.map .int)) (.lst ((List.replicate (f i) (i : Int)).map .int)) = some (.lst ((A ++ List.replicate (f i) (i : Int)).map .int)) := by
      rw [bin_cat (by rw [List.length_map, List.length_map, List.length_replicate]; omega), List.map_append]
    rw [hc, ← List.append_assoc, List.map_cons, forGo]
    generalize List.replicate (f i) (i : Int) = R at *
    clear hl hc hf hLIM
    walk_at "vi"
theorem beats_loop (n : Nat) (M : Mem) (ps : List Int) (x : D) (hx : x = .lst (ps.map .int) ∨ x = .tup (ps.map .int)) (hp : ∀ p ∈ ps, 0 ≤ p ∧ p < ps.length) (hl : ps.length ≤ 100) (first : Int) (E0 E1 E2 E3 E8 E9 E10 E11 E12 : Option Val) : ∀ (m t0 : Nat) (o7 : Option Val), t0 + m ≤ 100 → ∃ w7,
    forGo (.slot 7) (fun env M => Sts.ex (call T (n + 3)) (.cons (.ifs (.and_ (.cmp .Eq (.slot 7) (.slot 6)) (.not_ (.call "_law_same" (.cons (.call "heights_behind" (.cons (.slot 4) (.cons (.slot 7) .nil))) (.cons (.slot 5) .nil))))) (.cons (.ret (.cst (.bl false))) .nil) .nil) (.cons (.asg 5 (.call "_law_gone_on" (.cons (.slot 5) .nil))) .nil)) env M) ((List.range' t0 m).map fun (k : Nat) => .v (.d (.int (0 + (k : Int)))))
      [E0, E1, E2, E3, some (.d x), some (.d (.lst ((itN t0 (cnt ps)).map .int))), some (.d (.int first)), o7, E8, E9, E10, E11, E12] M = .ok (.nx, [E0, E1, E2, E3, some (.d x), some (.d (.lst ((itN (t0 + m) (cnt ps)).map .int))), some (.d (.int first)), w7, E8, E9, E10, E11, E12]) M
  | 0, t0, o7, _ => ⟨o7, rfl⟩
  | m + 1, t0, o7, h => by
    obtain ⟨w7, e⟩ := beats_loop n M ps x hx hp hl first E0 E1 E2 E3 E8 E9 E10 E11 E12 m (t0 + 1) (some (.d (.int (0 + (t0 : Int))))) (by omega)
    rw [itN_succ, show t0 + 1 + m = t0 + (m + 1) by omega] at e
    have eb := behind_run (n + 1) M ps x hx hp hl t0 (by omega)
    rw [show ((t0 : Nat) : Int) = 0 + (t0 : Int) by omega] at eb
    have hlen : (itN t0 (cnt ps)).length ≤ 100 := by rw [itN_len, cnt, List.length_map, List.length_range]; exact hl
    have es := same_is (n + 1) M (itN t0 (cnt ps)) (Nat.le_trans hlen (by decide))
    have eg := gone_run (n + 2) M (itN t0 (cnt ps)) hlen
    refine ⟨w7, ?_⟩
    rw [List.range'_succ, List.map_cons, forGo]
    clear hp hx hl hlen h
    cases hq : ((0 + (t0 : Int)) == first) <;> walk_at "vi"
theorem right_run {K : Nat} (n : Nat) (M : Mem) (b : Nat) (h : At M b K) (hK : K < 900000) :
    ∃ (M' : Mem), call T (n + 4) "_law_right" [.ref b] M = .ok (.d (.bl true)) M' ∧ At M' b (K + 24) ∧ M'.length = M.length := by
  have hLIM : LIM = 100000 := rfl
  rw [show (("_law_right" : Str)) = r_l_right.x from rfl]
  simp only [fun M => call_body rows_nd (r := r_l_right) (by simp [rows]) (n + 3) [.ref b] M [some (.ref b), none, none, none, none, none, none, none, none, none, none, none, none] rfl rfl]
  show ∃ (M' : Mem), (b_l_right.ex _ _ _).bind _ = _ ∧ _
  obtain ⟨k, M1, e1, hk1, hk2, a1, l1⟩ := size_run (n + 1) M b h (by omega)
  obtain ⟨ps, M2, e2, hps, hin, a2, l2⟩ := places_run (n + 1) M1 b k a1 (by omega) hk1 hk2
  obtain ⟨v3, M3, e3, p3, q3, a3, l3, _⟩ := takes (hasTake (n + 2)) M2 b 5 a2 (by omega) (by decide) (by decide)
  obtain ⟨v4, M4, e4, p4, q4, a4, l4, _⟩ := takes (hasTake (n + 2)) M3 b 41 a3 (by omega) (by decide) (by decide)
  obtain ⟨v5, M5, e5, p5, q5, a5, l5, _⟩ := takes (hasTake (n + 2)) M4 b 3 a4 (by omega) (by decide) (by decide)
  obtain ⟨B, hB, hB2⟩ : ∃ B : Nat, atI [D.int v3, .int v4, .int 40] v5 = some (.int (B : Int)) ∧ B ≤ 40 := by
    have : v5 = 0 ∨ v5 = 1 ∨ v5 = 2 := by omega
    rcases this with rfl | rfl | rfl
    · exact ⟨v3.toNat, by rw [atI_0, Int.toNat_of_nonneg p3]; rfl, by omega⟩
    · exact ⟨v4.toNat, by rw [atI_1, Int.toNat_of_nonneg p4]; rfl, by omega⟩
    · exact ⟨40, rfl, by omega⟩
  obtain ⟨v6, M6, e6, p6, q6, a6, l6, _⟩ := takes (hasTake (n + 2)) M5 b 2 a5 (by omega) (by decide) (by decide)
  obtain ⟨v7, M7, e7, p7, q7, a7, l7, _⟩ := takes (hasTake (n + 2)) M6 b ((B : Int) + 1) a6 (by omega) (by omega) (by omega)
  obtain ⟨f, rfl⟩ := Int.eq_ofNat_of_zero_le p7
  have t7 : List.take M.length M7 = M7 := List.take_of_length_le (by omega)
  obtain ⟨x, hx, hi, hls⟩ : ∃ x : D, (x = .lst (ps.map .int) ∨ x = .tup (ps.map .int)) ∧ atI [D.lst (ps.map .int), D.tup (ps.map .int)] v6 = some x ∧ biD .list [x] = some (.lst (ps.map .int)) := by
    have : v6 = 0 ∨ v6 = 1 := by omega
    rcases this with rfl | rfl
    · exact ⟨_, .inl rfl, rfl, rfl⟩
    · exact ⟨_, .inr rfl, rfl, rfl⟩
  have hp : ∀ p ∈ ps, 0 ≤ p ∧ p < ps.length := fun p hq => by rw [hps]; exact hin p hq
  have hl : ps.length ≤ 100 := by omega
  have cl : (cnt ps).length = ps.length := by rw [cnt, List.length_map, List.length_range]
  have ilen : ∀ j, (itN j (cnt ps)).length = ps.length := fun j => by rw [itN_len, cl]
  have isum : ∀ j, (itN j (cnt ps)).sum = ps.length := fun j => by rw [sum_itN j (cnt_nn ps), sum_cnt hp]
  have inn := fun j => itN_nn j (cnt ps) (cnt_nn ps)
  have ec := counted_run (n + 2) M6 ps hl
  have eh := heights_run (n + 2) M7 ps x hx hp hl
  rw [heights_cnt hp] at eh
  have eb0 := behind_run (n + 1) M7 ps x hx hp hl 0 (by omega)
  have ebB := behind_run (n + 1) M7 ps x hx hp hl B (by omega)
  have ebf := behind_run (n + 1) M7 ps x hx hp hl f (by omega)
  have s0 := same_l (n + 2) M7 [.lst ((cnt ps).map .int), .lst ((cnt ps).map .int)] (show 2 ≤ LIM from by decide) (fun y hy => by
    have hy : y = .lst ((cnt ps).map .int) := by simpa using hy
    rw [hy]
    exact same_is n M7 (cnt ps) (by rw [cl]; omega))
  obtain ⟨w7, eloop⟩ := beats_loop n M7 ps x hx hp hl (f : Int) (some (.ref b)) (some (.d (.int (k : Int)))) (some (.d (.lst (ps.map .int)))) (some (.d (.int (B : Int)))) none none none none none B 0 none (by omega)
  rw [Nat.zero_add] at eloop
  have sB := same_is (n + 1) M7 (itN B (cnt ps)) (by rw [ilen]; omega)
  have hsum : biD .sum [.lst ((itN B (cnt ps)).map .int)] = some (.int (k : Int)) := by
    show (intsOf _).map _ = _
    rw [intsOf_map, omap, isum, hps]
  have dps : cmpD .NotEq (.lst (ps.map .int)) (.lst (ps.map .int)) = some false := cmp_ne_self (by rw [D.dep, deps_int]; decide)
  have dk : cmpD .NotEq (.int (k : Int)) (.int (k : Int)) = some false := cmp_ne_self (by rw [dep_int]; decide)
  have hqc := cnt_again (inn f) (by rw [isum, ilen])
  have hql : (again (itN f (cnt ps))).reverse.length = ps.length := by
    have := again_len (inn f)
    rw [isum] at this
    rw [List.length_reverse]
    omega
  have hqm : ∀ p ∈ (again (itN f (cnt ps))).reverse, 0 ≤ p ∧ p < (again (itN f (cnt ps))).reverse.length := fun p hq => by
    rw [hql]
    have := copies_mem (List.mem_reverse.mp hq)
    rw [ilen] at this
    exact this
  have ebr := behind_run (n + 1) M7 (again (itN f (cnt ps))).reverse _ (.inl rfl) hqm (by rw [hql]; exact hl) (B - f) (by omega)
  rw [hqc, ← itN_add, show f + (B - f) = B by omega, show ((B - f : Nat) : Int) = (B : Int) - (f : Int) by omega, List.map_reverse] at ebr
  have hal : (again (itN f (cnt ps))).length ≤ 12 := by
    rw [List.length_reverse] at hql
    omega
  obtain ⟨w11, w12, ea⟩ := again_loop (F := call T (n + 3)) (e0 := []) (M := M7) (fun i => (gv (itN f (cnt ps)) i).toNat) (itN f (cnt ps)) (fun i => (Int.toNat_of_nonneg (inn f i)).symm) (some (.ref b)) (some (.d (.int (k : Int)))) (some (.d (.lst (ps.map .int)))) (some (.d (.int (B : Int)))) (some (.d x)) (some (.d (.lst ((itN B (cnt ps)).map .int)))) (some (.d (.int (f : Int)))) w7 (some (.d (.lst ((itN B (cnt ps)).map .int)))) (some (.d (.lst ((itN f (cnt ps)).map .int)))) (List.range (itN f (cnt ps)).length) [] none none (by
    show 0 + (again (itN f (cnt ps))).length ≤ LIM
    omega)
  rw [List.nil_append, List.map_nil, show copies (fun i => (gv (itN f (cnt ps)) i).toNat) (List.range (itN f (cnt ps)).length) = again (itN f (cnt ps)) from rfl] at ea
  have i2 : It.ev (call T (n + 3)) (.enm (.slot 9)) [some (.ref b), some (.d (.int (k : Int))), some (.d (.lst (ps.map .int))), some (.d (.int (B : Int))), some (.d x), some (.d (.lst ((itN B (cnt ps)).map .int))), some (.d (.int (f : Int))), w7, some (.d (.lst ((itN B (cnt ps)).map .int))), some (.d (.lst ((itN f (cnt ps)).map .int))), some (.d (.lst [])), none, none] M7 = .ok ((List.range (itN f (cnt ps)).length).map fun i : Nat => .p [.d (.int (i : Int)), .d (.int (gv (itN f (cnt ps)) i))]) M7 := by
    rw [It.ev]
    simp only [Ex.ev.eq_1, List.getElem?_cons_zero, List.getElem?_cons_succ, bind_ok]
    rw [if_pos (by rw [List.length_map, ilen]; omega), zipIdx_range D.non, List.map_map, List.length_map]
    refine congrArg (fun l => Res.ok l M7) (List.map_congr_left fun i hi => ?_)
    have hi := List.mem_range.mp hi
    show Itm.p [.d (.int (i : Int)), .d ((((itN f (cnt ps)).map D.int)[i]?).getD D.non)] = _
    rw [List.getElem?_map, gv, List.getElem?_eq_getElem hi]
    rfl
  have i1 : It.ev (call T (n + 3)) (.rng1 (.slot 3)) [some (.ref b), some (.d (.int (k : Int))), some (.d (.lst (ps.map .int))), some (.d (.int (B : Int))), some (.d x), some (.d (.lst ((cnt ps).map .int))), some (.d (.int (f : Int))), none, none, none, none, none, none] M7 = .ok ((List.range' 0 B).map fun (k : Nat) => .v (.d (.int (0 + (k : Int))))) M7 := by
    have := rng1_ev (F := call T (n + 3)) (a := .slot 3) (env := [some (.ref b), some (.d (.int (k : Int))), some (.d (.lst (ps.map .int))), some (.d (.int (B : Int))), some (.d x), some (.d (.lst ((cnt ps).map .int))), some (.d (.int (f : Int))), none, none, none, none, none, none]) (M := M7) (M1 := M7) (j := (B : Int)) B (by simp only [Ex.ev.eq_1, List.getElem?_cons_zero, List.getElem?_cons_succ]) rfl (by omega)
    rw [this]
    show Res.ok ((List.range B).map _) M7 = _
    rw [List.range_eq_range']
  have lim0 : (0 ≤ LIM) = True := eq_true (Nat.zero_le _)
  refine ⟨M7, ?_, a7.up (by omega), by omega⟩
  have eb0' : itN 0 (cnt ps) = cnt ps := rfl
  rw [eb0', show ((0 : Nat) : Int) = 0 from rfl] at eb0
  rw [eb0'] at eloop
  clear hLIM hp hx hl cl ilen isum inn hqc hql hqm hal hin eb0' p7 q7
  unfold b_l_right
  walk_at "vi"
theorem law_run : ∀ ns : List Int, ns.length ≤ 63 → ∃ M, call (tab rows) 100 r_law.x [.scr ns] [] = .ok (.d (.bl true)) M := by
  intro ns hns
  rw [call_body rows_nd (r := r_law) (by simp [rows]) 99 [.scr ns] [] [some (.scr ns), none, none, none, none] rfl rfl]
  show ∃ M, (b_law.ex _ _ _).bind _ = _
  unfold b_law
  obtain ⟨cs, ec, hcs⟩ := folded_run 98 [] ns hns
  obtain ⟨t, ht, ht4⟩ : ∃ t : Nat, max2I 1 (cs.length : Int) = (t : Int) ∧ t ≤ 4 := by
    refine ⟨(max2I 1 (cs.length : Int)).toNat, ?_, ?_⟩
    · unfold max2I
      split <;> omega
    · unfold max2I
      split <;> omega
  obtain ⟨env', M', hf, ⟨o1, o2, o3, rfl⟩⟩ := for_inv (tg := .slot 2) (body := fun env M => Sts.ex (call T 99) (.cons (.asg 3 (.call "_law_box" (.cons (.slot 1) (.cons (.slot 2) .nil)))) (.cons (.ifs (.not_ (.bi .all (.cons (.comp (.rng1 (.cst (.int 4))) (.slot 4) [4] .nil (.call "_law_right" (.cons (.slot 3) .nil))) .nil))) (.cons (.ret (.cst (.bl false))) .nil) .nil) .nil)) env M)
    (fun env _ => ∃ o1 o2 o3, env = [some (.scr ns), some (.d (.lst (cs.map .int))), o1, o2, o3]) (fun it => ∃ k : Nat, k < 100 ∧ it = .v (.d (.int (0 + (k : Int))))) (fun it env M hq hi => by
      obtain ⟨o1, o2, o3, rfl⟩ := hi
      obtain ⟨k, hk, rfl⟩ := hq
      obtain ⟨a, c, eb, hc1, hc2⟩ := box_run 98 M cs k hk
      rw [show (k : Int) = 0 + (k : Int) by omega] at eb
      have hat : At (M ++ [.lst [.int a, .int c, .int 0]]) M.length 0 := ⟨⟨a, c, 0⟩, by rw [List.getElem?_append_right (Nat.le_refl _), Nat.sub_self]; rfl, hc1, hc2, Int.le_refl 0, Int.le_refl 0⟩
      generalize hM1 : M ++ [.lst [.int a, .int c, .int 0]] = M1 at *
      obtain ⟨ys, M4, hc, hl, hp, a4⟩ := lc_inv (tg := .slot 4) (own := [4]) (env := [some (.scr ns), some (.d (.lst (cs.map .int))), some (.d (.int (0 + (k : Int)))), some (.ref M.length), o3]) (tst := fun env M => Exs.tst (call T 99) .nil env M) (el := fun env M => Ex.ev (call T 99) (.call "_law_right" (.cons (.slot 3) .nil)) env M)
        4 (fun k M' => At M' M.length (24 * k)) (fun x => ∃ k : Int, x = .v (.d (.int k))) (fun y => y = .bl true) (fun x k M' hk hx hM => by
          obtain ⟨j, rfl⟩ := hx
          obtain ⟨M3, e3, a3, l3⟩ := right_run 95 M' M.length hM (by omega)
          refine ⟨_, M', .bl true, M3, rfl, by walk_at "vi", by walk_at "vi", rfl, a3.up (by omega)⟩) (upto 4) [] 0 M1 (fun x hx => by
            obtain ⟨k, _, rfl⟩ := upto_mem hx
            exact ⟨_, rfl⟩) (by rw [upto_len, List.length_nil]; decide) (by rw [upto_len]; omega) hat
      have hv := comp_ev (F := call T 99) (rng1_ev (j := 4) (F := call T 99) (a := .cst (.int 4)) (env := [some (.scr ns), some (.d (.lst (cs.map .int))), some (.d (.int (0 + (k : Int)))), some (.ref M.length), o3]) (M := M1) 4 (by walk_at "vi") rfl (by omega)) hc
      have hal := bi_all hp
      rw [List.nil_append] at hv
      refine ⟨_, [some (.scr ns), some (.d (.lst (cs.map .int))), some (.d (.int (0 + (k : Int)))), some (.ref M.length), o3], M4, rfl, by walk_at "vi", ⟨_, _, _, rfl⟩⟩) (upto t) [some (.scr ns), some (.d (.lst (cs.map .int))), none, none, none] [] (fun z hz => by
        obtain ⟨k, h, rfl⟩ := upto_mem hz
        exact ⟨k, by omega, rfl⟩) ⟨_, _, _, rfl⟩
  have hi : It.ev (call T 99) (.rng1 (.bi .max (.cons (.cst (.int 1)) (.cons (.bi .len (.cons (.slot 1) .nil)) .nil)))) [some (.scr ns), some (.d (.lst (cs.map .int))), none, none, none] [] = .ok (upto t) [] := rng1_ev (j := (t : Int)) t (by walk_at "vi") rfl (by omega)
  refine ⟨M'.take 0, ?_⟩
  walk_at "vi"
end Law

end
open PySem PySem.W PyProof.Rows
set_option maxRecDepth 100000 in
set_option maxHeartbeats 0 in
theorem PySem.Challenge.cw_crossgrants_k25_heights_of_pointers_holds : PySem.Challenge.rw_crossgrants_k25_heights_of_pointers.Holds := by
  w_on; o_law; k_head; (case hw => w_witness2)
  k_fill
  refine VI.law_walk (l := PySem.Challenge.rw_crossgrants_k25_heights_of_pointers) Law.rows Law.noms 100 Law.r_law "_law_script" rfl rfl ⟨rfl, by decide, by decide⟩ (fun w h Y => PySem.W.kIn_of Y) ?F (by simp [Law.rows]) rfl rfl Law.rows_nd Law.rows_ok Law.law_run
  case F =>
    intro w mg fa h KX G hmg
    refine' Law.tops_mk KX G ?a1 ?l1 ?c1 ?k1 ?a2 ?l2 ?c2 ?k2 ?a3 ?l3 ?c3 ?k3 ?a4 ?l4 ?c4 ?k4 ?a5 ?l5 ?c5 ?k5 ?a6 ?l6 ?c6 ?k6 ?a7 ?l7 ?c7 ?k7 ?a8 ?l8 ?c8 ?k8 ?a9 ?l9 ?c9 ?k9 ?a10 ?l10 ?c10 ?k10 ?a11 ?l11 ?c11 ?k11 ?a12 ?l12 ?c12 ?k12 ?a13 ?l13 ?c13 ?k13 ?z1 ?z2 ?z3 ?z4 ?z5 ?z6 ?z7 ?z8 ?z9 ?z10 ?z11 ?z12 ?z13 ?z14 ?z15 ?z16
    (case a1 => k_is)
    (case l1 => k_is)
    (case c1 => k_is)
    (case k1 => k_is)
    (case a2 => k_is)
    (case l2 => k_is)
    (case c2 => k_is)
    (case k2 => k_is)
    (case a3 => k_is)
    (case l3 => k_is)
    (case c3 => k_is)
    (case k3 => k_is)
    (case a4 => k_is)
    (case l4 => k_is)
    (case c4 => k_is)
    (case k4 => k_is)
    (case a5 => k_is)
    (case l5 => k_is)
    (case c5 => k_is)
    (case k5 => k_is)
    (case a6 => k_is)
    (case l6 => k_is)
    (case c6 => k_is)
    (case k6 => k_is)
    (case a7 => k_is)
    (case l7 => k_is)
    (case c7 => k_is)
    (case k7 => k_is)
    (case a8 => k_is)
    (case l8 => k_is)
    (case c8 => k_is)
    (case k8 => k_is)
    (case a9 => k_is)
    (case l9 => k_is)
    (case c9 => k_is)
    (case k9 => k_is)
    (case a10 => k_is)
    (case l10 => k_is)
    (case c10 => k_is)
    (case k10 => k_is)
    (case a11 => k_is)
    (case l11 => k_is)
    (case c11 => k_is)
    (case k11 => k_is)
    (case a12 => k_is)
    (case l12 => k_is)
    (case c12 => k_is)
    (case k12 => k_is)
    (case a13 => k_is)
    (case l13 => k_is)
    (case c13 => k_is)
    (case k13 => k_is)
    (case z1 => k_is)
    (case z2 => k_is)
    (case z3 => k_is)
    (case z4 => k_is)
    (case z5 => k_is)
    (case z6 => k_is)
    (case z7 => k_is)
    (case z8 => k_is)
    (case z9 => k_is)
    (case z10 => k_is)
    (case z11 => k_is)
    (case z12 => k_is)
    (case z13 => k_is)
    (case z14 => k_is)
    (case z15 => k_is)
    (case z16 => k_is)
