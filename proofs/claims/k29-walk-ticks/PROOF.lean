import PyProof.Rows.All
import Wide.All
import OpenK.AllK
import Wide.FinOn
import HandS.ForMost
import HandS.TupAny
import HandS.Deep
import HandS.Exc
import HandS.ExcOwn
import HandS.IsInst
import HandS.Wide
import HandS.TupMul
import HandS.Flow
import HandS.Text
import HandS.Comp
import HandS.Iter
import HandS.Walk
import HandS.More
import HandS.Dict
import OpenK.KMore
import HandS.Property
import HandS.Style
import HandS.Defaults
import HandS.HeadHook4
import HandS.HeadEnd
import HandS.Head2
import HandS.Ends
import PySem.Challenge.RW_stillinstep_k29_walk_ticks_whole
set_option Elab.async false
set_option linter.all false
set_option maxRecDepth 100000
/-! Ev0: pure data, the core language and its evaluator -/
namespace Ev
open PySem

/-- pure data: what a value stands for (lists, dicts, instances as they are, never to be changed) -/
inductive P where
  | none | bool (b : Bool) | int (i : Int) | str (s : List Nat)
  | tup (xs : List P) | lst (xs : List P) | dic (ks vs : List P)
  | ins (c : Nat) (fs : List P) | scr (ns : List Int)
  deriving Inhabited

def ieq (i j : Int) : Bool := decide (i = j)
mutual
/-- Python's == on data -/
def P.eqB : P → P → Bool
  | .none, .none => true
  | .bool a, .bool b => a == b
  | .bool a, .int j => decide ((if a then 1 else 0) = j)
  | .int i, .bool b => decide (i = (if b then 1 else 0))
  | .int i, .int j => ieq i j
  | .str x, .str y => decide (x = y)
  | .lst xs, .lst ys => P.eqL xs ys
  | .tup xs, .tup ys => P.eqL xs ys
  | _, _ => false
def P.eqL : List P → List P → Bool
  | [], [] => true
  | x :: xs, y :: ys => P.eqB x y && P.eqL xs ys
  | _, _ => false
end
mutual
/-- none, boolsOf, intsOf, texts, lists and tuples of these -/
def P.dat : P → Bool
  | .none | .bool _ | .int _ | .str _ => true
  | .lst xs | .tup xs => P.datL xs
  | _ => false
def P.datL : List P → Bool
  | [] => true
  | x :: xs => P.dat x && P.datL xs
end
mutual
def P.dep : P → Nat
  | .lst xs | .tup xs => 1 + P.depL xs
  | _ => 0
def P.depL : List P → Nat
  | [] => 0
  | x :: xs => max (P.dep x) (P.depL xs)
end
mutual
/-- no list, dict or instance within -/
def P.flat : P → Bool
  | .none | .bool _ | .int _ | .str _ => true
  | .tup xs => P.flatL xs
  | _ => false
def P.flatL : List P → Bool
  | [] => true
  | x :: xs => P.flat x && P.flatL xs
end

def P.isN : P → Bool
  | .none => true
  | _ => false
def P.sc : P → Bool
  | .none | .bool _ | .int _ | .str _ => true
  | _ => false

/-- what a slot holds -/
inductive VP where
  | p (x : P) | ref (n : Nat)
  deriving Inhabited
/-- a thing that this frame may change -/
inductive Cell where
  | lst (xs : List P) | dic (ks vs : List P) | obj (c : Nat) (fs : List P)
  | lock (x : P)            -- may not be changed now (a loop walks it)
  | frz (x : P)             -- never to be changed again
  deriving Inhabited
def Cell.view : Cell → P
  | .lst xs => .lst xs | .dic ks vs => .dic ks vs | .obj c fs => .ins c fs | .lock x => x | .frz x => x
def Cell.isMut : Cell → Bool
  | .lst _ | .dic _ _ | .obj _ _ => true
  | _ => false
def Cell.flat : Cell → Bool
  | .lst xs => P.flatL xs | .dic ks vs => P.flatL ks && P.flatL vs | .obj _ fs => P.flatL fs | _ => false

abbrev Env := List (Option VP)
abbrev Cells := List Cell

/-- an expression's end -/
inductive R (α : Type) where
  | ok (a : α) (cs : Cells)
  | exc (c : Nat) (fs : List P) (cs : Cells)
  | stk
def R.bind {α β : Type} : R α → (α → Cells → R β) → R β
  | .ok a cs, f => f a cs
  | .exc c fs cs, _ => .exc c fs cs
  | .stk, _ => .stk
def R.opt {α : Type} (cs : Cells) : Option α → R α
  | some a => .ok a cs
  | Option.none => .stk
/-- an argument of a call: a value, or a thing that may be changed -/
inductive Arg where
  | imm (x : P) | mu (c : Cell)
/-- a call's end: the value (own: a new list of which nobody else knows), the things that may have been changed -/
inductive CR where
  | ok (x : P) (own : Bool) (outs : Cells)
  | exc (c : Nat) (fs : List P) (outs : Cells)
  | stk
inductive RS where
  | nx (ρ : Env) (cs : Cells)
  | rt (x : P) (own : Bool) (cs : Cells)
  | bk (ρ : Env) (cs : Cells)
  | ct (ρ : Env) (cs : Cells)
  | exc (c : Nat) (fs : List P) (ρ : Env) (cs : Cells)
  | stk

inductive BOp where
  | add | sub | mul | fdiv | mod | pow
  deriving DecidableEq
inductive COp where
  | eq | ne | lt | le | gt | ge | isx | isn | inn | nin
  deriving DecidableEq
/-- built-in functions and classes, called by name -/
inductive BI where
  | len | int | abs | min | max | sum | all | any | tuple | list | str | sorted | bool
  deriving DecidableEq
/-- methods of built-in types that change nothing -/
inductive PM where
  | join | split | count | index | get | startswith | strip
  deriving DecidableEq
/-- methods that change a list or a dict -/
inductive MM where
  | append | extend | insert | pop | popAt
  deriving DecidableEq
inductive Ty where
  | int | bool | str | tuple | list | dict | own (c : Nat)
  deriving DecidableEq

mutual
inductive TG where
  | nm (i : Nat) | tp (ts : TGs)
inductive TGs where
  | nil | cons (t : TG) (ts : TGs)
end

mutual
inductive CE where
  | none | bool (b : Bool) | int (i : Int) | str (s : List Nat)
  | var (i : Nat) | gl (g : Nat)
  | bin (o : BOp) (a b : CE) | neg (a : CE) | not (a : CE)
  | bop (conj : Bool) (es : CEs)
  | cmp (o : COp) (a b : CE) | chain (o o' : COp) (a b c : CE)
  | ite (c a b : CE)
  | ix (a i : CE) | sl (a : CE) (lo hi : CO)
  | tup (es : CEs)
  | l (e : CL)
  | call (f : Nat) (as : CAs)
  | callK (f : Nat) (as : CAs) (ks : List Nat)
  | mk (c : Nat) (as : CAs)
  | bi (b : BI) (es : CEs)
  | isi (a : CE) (ts : List Ty)
  | fld (a : CE) (f : Nat)
  | rev (a : CE)
  | pm (m : PM) (a : CE) (es : CEs)
  | mth (i : Nat) (m : MM) (es : CEs)
  | dic (ks : List (List Nat)) (es : CEs)
/-- expressions that make a new list -/
inductive CL where
  | lst (es : CEs)
  | lc (g : TG) (own : List Nat) (it : CI) (ts : CEs) (e : CE)
  | lof (e : CE)
  | call (f : Nat) (as : CAs)
inductive CO where
  | none | some (e : CE)
inductive CEs where
  | nil | cons (e : CE) (es : CEs)
inductive CAs where
  | nil | imm (e : CE) (as : CAs) | mv (i : Nat) (as : CAs) | ml (e : CL) (as : CAs)
/-- what a loop walks -/
inductive CI where
  | sq (e : CE) | r1 (a : CE) | r2 (a b : CE) | r3 (a b c : CE) | en (e : CE) | zp (a b : CE)
end

mutual
inductive CS where
  | ex (e : CE) | set (t : TG) (e : CE) | setL (i : Nat) (e : CL)
  | sti (i : Nat) (ie e : CE) | stf (i : Nat) (f : Nat) (e : CE)
  | aug (i : Nat) (o : BOp) (e : CE) | par (i j : Nat) (a b : CE)
  | iff (t : CE) (a b : CSs) | fr (t : TG) (it : CI) (b : CSs) | whl (n : Nat) (t : CE) (b : CSs)
  | ret (e : CE) | retL (e : CL) | retN | pass | brk | cnt
  | stk
inductive CSs where
  | nil | cons (s : CS) (ss : CSs) | kill (is : List Nat) (ss : CSs)
end

mutual
def TG.ixs : TG → List Nat
  | .nm i => [i]
  | .tp ts => TGs.ixs ts
def TGs.ixs : TGs → List Nat
  | .nil => []
  | .cons t ts => TG.ixs t ++ TGs.ixs ts
end
def TGs.size : TGs → Nat
  | .nil => 0
  | .cons _ ts => ts.size + 1
/-! ### shapes of the text -/
def notSet : Expr → Bool
  | .Set .. => false
  | _ => true
def notSlice : Expr → Bool
  | .Slice .. => false
  | _ => true
def notStar : Expr → Bool
  | .Starred .. => false
  | _ => true
/-- its test is its value's truth -/
def plainT : Expr → Bool
  | .UnaryOp .Not _ _ => false
  | .BoolOp .. => false
  | .IfExp .. => false
  | .Compare .. => false
  | _ => true
/-! ### operators on data (closed to cbv where a number may not be known) -/
def iadd (i j : Int) : Int := i + j
def isub (i j : Int) : Int := i - j
def imul (i j : Int) : Int := i * j
def idiv (i j : Int) : Int := i.fdiv j
def imod (i j : Int) : Int := i.fmod j
def ipow (i j : Int) : Int := i ^ j.toNat
def ineg (i : Int) : Int := -i
def iabs (i : Int) : Int := if i < 0 then -i else i
def imin (i j : Int) : Int := if j < i then j else i
def imax (i j : Int) : Int := if j > i then j else i
def isum (l : List Int) : Int := l.sum
def ilt (i j : Int) : Bool := decide (i < j)
def ile (i j : Int) : Bool := decide (i ≤ j)
def bint (b : Bool) : Int := if b then 1 else 0
abbrev SZ : Nat := 16777216
def mulOk (i j : Int) : Prop := (-(2 ^ 64) < i ∧ i < 2 ^ 64) ∨ (-(2 ^ 64) < j ∧ j < 2 ^ 64) ∨ i.natAbs.log2 + j.natAbs.log2 < 100000000
instance (i j : Int) : Decidable (mulOk i j) := by unfold mulOk; infer_instance
def divOk (j : Int) : Prop := j ≠ 0 ∧ j.natAbs < 2 ^ 9000
instance (j : Int) : Decidable (divOk j) := by unfold divOk; infer_instance
def powOk (i j : Int) : Prop := 0 ≤ j ∧ j ≤ 1000000 ∧ i.natAbs < 2 ^ 64
instance (i j : Int) : Decidable (powOk i j) := by unfold powOk; infer_instance
def mulB (i j : Int) : Bool := decide (mulOk i j)
def divB (j : Int) : Bool := decide (divOk j)
def modB (j : Int) : Bool := decide (j ≠ 0)
def powB (i j : Int) : Bool := decide (powOk i j)
def rep {α : Type} (xs : List α) (k : Int) : List α := (List.replicate k.toNat xs).flatten
def binP : BOp → P → P → Option P
  | .add, .int i, .int j => some (.int (iadd i j))
  | .sub, .int i, .int j => some (.int (isub i j))
  | .mul, .int i, .int j => if mulB i j then some (.int (imul i j)) else Option.none
  | .fdiv, .int i, .int j => if divB j then some (.int (idiv i j)) else Option.none
  | .mod, .int i, .int j => if modB j then some (.int (imod i j)) else Option.none
  | .pow, .int i, .int j => if powB i j then some (.int (ipow i j)) else Option.none
  | .add, .str s, .str t => if s.length + t.length ≤ SZ then some (.str (s ++ t)) else Option.none
  | .add, .tup xs, .tup ys => if xs.length + ys.length ≤ SZ then some (.tup (xs ++ ys)) else Option.none
  | .add, .lst xs, .lst ys => if xs.length + ys.length ≤ SZ then some (.lst (xs ++ ys)) else Option.none
  | .mul, .lst xs, .int k => if -(2 ^ 63) ≤ k ∧ k < 2 ^ 63 ∧ xs.length * k.toNat ≤ SZ then some (.lst (rep xs k)) else Option.none
  | .mul, .tup xs, .int k => if xs.isEmpty = false ∧ 1 ≤ k ∧ k ≤ 1000 ∧ xs.length ≤ 1000 then some (.tup (rep xs k)) else Option.none
  | _, _, _ => Option.none

def lexLt : List Nat → List Nat → Bool
  | _, [] => false
  | [], _ :: _ => true
  | x :: xs, y :: ys => if x < y then true else if x = y then lexLt xs ys else false
def eqOk (a b : P) : Bool := a.dat && b.dat && decide (a.dep ≤ 64) && decide (b.dep ≤ 64)
def inL (x : P) : List P → Bool
  | [] => false
  | y :: ys => P.eqB y x || inL x ys
def cmpP : COp → P → P → Option Bool
  | .eq, a, b => if eqOk a b then some (P.eqB a b) else Option.none
  | .ne, a, b => if eqOk a b then some (!P.eqB a b) else Option.none
  | .lt, .int i, .int j => some (ilt i j)
  | .le, .int i, .int j => some (ile i j)
  | .gt, .int i, .int j => some (ilt j i)
  | .ge, .int i, .int j => some (ile j i)
  | .lt, .str s, .str t => some (lexLt s t)
  | .isx, a, .none => some a.isN
  | .isn, a, .none => some (!a.isN)
  | .inn, .str [c], .str t => some (decide (c ∈ t))
  | .nin, .str [c], .str t => some (!decide (c ∈ t))
  | .inn, x, .lst ys => if eqOk x (.lst ys) then some (inL x ys) else Option.none
  | .nin, x, .lst ys => if eqOk x (.lst ys) then some (!inL x ys) else Option.none
  | .inn, x, .tup ys => if x.sc && ys.all P.sc then some (inL x ys) else Option.none
  | .nin, x, .tup ys => if x.sc && ys.all P.sc then some (!inL x ys) else Option.none
  | _, _, _ => Option.none
def truP : P → Option Bool
  | .none => some false
  | .bool b => some b
  | .int i => some (!ieq i 0)
  | .str s => some (!s.isEmpty)
  | .tup xs => some (!xs.isEmpty)
  | .lst xs => some (!xs.isEmpty)
  | _ => Option.none

/-- the item at an index of any sign -/
def ixAt {α : Type} (xs : List α) (i : Int) : Option α :=
  if 0 ≤ i then xs[i.toNat]? else if -(xs.length : Int) ≤ i then xs[(i + xs.length).toNat]? else Option.none
def ixSet {α : Type} (xs : List α) (i : Int) (v : α) : Option (List α) :=
  if 0 ≤ i then (if i < xs.length then some (xs.set i.toNat v) else Option.none)
  else if -(xs.length : Int) ≤ i then some (xs.set (i + xs.length).toNat v) else Option.none
def dicGet : List P → List P → P → Option P
  | k :: ks, v :: vs, x => if P.eqB k x then some v else dicGet ks vs x
  | _, _, _ => Option.none
def ixP : P → P → Option P
  | .tup xs, .int i => ixAt xs i
  | .lst xs, .int i => ixAt xs i
  | .str s, .int i => (ixAt s i).map fun c => .str [c]
  | .scr ns, .int i => (ixAt ns i).map .int
  | .dic ks vs, .str s => dicGet ks vs (.str s)
  | .dic ks vs, .int i => dicGet ks vs (.int i)
  | _, _ => Option.none
/-- where a slice begins or ends -/
def sIx (n d : Nat) : Option Int → Nat
  | Option.none => d
  | some v => if v < 0 then (v + n).toNat else min v.toNat n
def cut {α : Type} (xs : List α) (lo hi : Option Int) : List α := (xs.drop (sIx xs.length 0 lo)).take (sIx xs.length xs.length hi - sIx xs.length 0 lo)
def slP : P → Option Int → Option Int → Option P
  | .tup xs, lo, hi => some (.tup (cut xs lo hi))
  | .lst xs, lo, hi => some (.lst (cut xs lo hi))
  | .str s, lo, hi => some (.str (cut s lo hi))
  | .scr ns, lo, hi => some (.lst ((cut ns lo hi).map .int))
  | _, _, _ => Option.none

def rngV (a : Int) : Nat → List P
  | 0 => []
  | n + 1 => .int a :: rngV (a + 1) n
def itP : P → Option (List P)
  | .lst xs => some xs
  | .tup xs => some xs
  | .str s => some (s.map fun c => .str [c])
  | .scr ns => some (ns.map .int)
  | _ => Option.none
def enumV : Int → List P → List P
  | _, [] => []
  | i, x :: xs => .tup [.int i, x] :: enumV (i + 1) xs
def zipV : List P → List P → List P
  | x :: xs, y :: ys => .tup [x, y] :: zipV xs ys
  | _, _ => []
def intsOf : List P → Option (List Int)
  | [] => some []
  | .int i :: r => (intsOf r).map (i :: ·)
  | _ :: _ => Option.none
def boolsOf : List P → Option (List Bool)
  | [] => some []
  | .bool i :: r => (boolsOf r).map (i :: ·)
  | _ :: _ => Option.none
def maxI : Int → List Int → Int
  | m, [] => m
  | m, x :: xs => maxI (if x > m then x else m) xs
def minI : Int → List Int → Int
  | m, [] => m
  | m, x :: xs => minI (if x < m then x else m) xs
def biP : BI → List P → Option P
  | .len, [.lst xs] => some (.int xs.length)
  | .len, [.tup xs] => some (.int xs.length)
  | .len, [.str xs] => some (.int xs.length)
  | .len, [.scr xs] => some (.int xs.length)
  | .int, [.int i] => some (.int i)
  | .int, [.bool b] => some (.int (bint b))
  | .abs, [.int i] => some (.int (iabs i))
  | .min, [.int i, .int j] => some (.int (imin i j))
  | .max, [.int i, .int j] => some (.int (imax i j))
  | .min, [.lst xs] => match intsOf xs with | some (x :: r) => some (.int (minI x r)) | _ => Option.none
  | .max, [.lst xs] => match intsOf xs with | some (x :: r) => some (.int (maxI x r)) | _ => Option.none
  | .sum, [.lst xs] => (intsOf xs).map fun ns => .int (isum ns)
  | .all, [.lst xs] => (boolsOf xs).map fun bs => .bool (bs.all id)
  | .any, [.lst xs] => (boolsOf xs).map fun bs => .bool (bs.any id)
  | .tuple, [.lst xs] => some (.tup xs)
  | .tuple, [.tup xs] => some (.tup xs)
  | _, _ => Option.none
def isT : Ty → P → Bool
  | .int, .int _ | .int, .bool _ => true
  | .bool, .bool _ => true
  | .str, .str _ => true
  | .tuple, .tup _ => true
  | .list, .lst _ => true
  | .dict, .dic _ _ => true
  | .own c, .ins d _ => c == d
  | _, _ => false

/-- the built-in kind of a value -/
def kindP : P → Option String
  | .none => some "NoneType" | .bool _ => some "bool" | .int _ => some "int" | .str _ => some "str" | .tup _ => some "tuple" | .lst _ => some "list" | _ => Option.none
/-! ### the program -/
structure ClsD where
  flds : List Nat           -- ids of its fields' names
  prps : List (Nat × Nat)   -- ids of its properties' names, their functions
/-- what is called as a function: a class (its __init__), a property (its getter) -/
inductive MkD where
  | cls (c i : Nat) | prop (g : Nat)
structure FnD where
  np : Nat                  -- parameters
  muts : List Bool          -- which of them may be changed
  ns : Nat                  -- slots
  body : CSs
structure Glob where
  fns : Nat → Option FnD
  cls : Nat → Option ClsD
  gls : Nat → Option P
  mks : Nat → Option MkD

def asgT : TG → P → Env → Option Env
  | .nm i, x, ρ => some (ρ.set i (some (.p x)))
  | .tp ts, .tup xs, ρ => asgTs ts xs ρ
  | .tp _, _, _ => Option.none
where asgTs : TGs → List P → Env → Option Env
  | .nil, [], ρ => some ρ
  | .cons t ts, x :: xs, ρ => (asgT t x ρ).bind fun ρ' => asgTs ts xs ρ'
  | _, _, _ => Option.none

def wipe (ρ : Env) : List Nat → Env
  | [] => ρ
  | v :: vs => (wipe ρ vs).set v Option.none

def viewV (cs : Cells) : VP → Option P
  | .p x => some x
  | .ref n => (cs[n]?).map Cell.view
/-- a value that stays: a thing of this frame's is never changed again -/
def escV (cs : Cells) : VP → R P
  | .p x => .ok x cs
  | .ref n => match cs[n]? with
    | some (.frz x) => .ok x cs
    | some c => if c.isMut then .ok c.view (cs.set n (.frz c.view)) else .stk
    | Option.none => .stk

/-! arguments as they are evaluated: a value, a thing read, a thing that may be changed, a new thing -/
inductive AR where
  | val (x : P) | bor (n : Nat) | mu (n : Nat) | tmp (xs : List P)
def argOf (cs : Cells) : AR → Option Arg
  | .val x => some (.imm x)
  | .bor n => (cs[n]?).map fun c => .imm c.view
  | .mu n => (cs[n]?).bind fun c => if c.isMut then some (.mu c) else Option.none
  | .tmp xs => some (.mu (.lst xs))
def argsOf (cs : Cells) : List AR → Option (List Arg)
  | [] => some []
  | a :: as => (argOf cs a).bind fun x => (argsOf cs as).map (x :: ·)
def mutIx : List AR → List Nat
  | [] => []
  | .mu n :: r => n :: mutIx r
  | _ :: r => mutIx r
def borIx : List AR → List Nat
  | [] => []
  | .bor n :: r => n :: borIx r
  | _ :: r => borIx r
/-- the things handed out come back -/
def back : List AR → Cells → Cells → Cells
  | .mu n :: r, o :: outs, cs => back r outs (cs.set n o)
  | .tmp _ :: r, _ :: outs, cs => back r outs cs
  | .mu _ :: _, [], cs => cs
  | .tmp _ :: _, [], cs => cs
  | _ :: r, outs, cs => back r outs cs
  | [], _, cs => cs
def frzAll : List Nat → Cells → Option Cells
  | [], cs => some cs
  | n :: r, cs => match cs[n]? with
    | some (.frz _) => frzAll r cs
    | some c => if c.isMut then frzAll r (cs.set n (.frz c.view)) else Option.none
    | Option.none => Option.none
def disjB (as bs : List Nat) : Bool := as.all fun a => !bs.contains a
def nodupB : List Nat → Bool
  | [] => true
  | x :: r => !r.contains x && nodupB r
def settle (as : List AR) (fl : Bool) (outs : Cells) (cs : Cells) : Option Cells :=
  match fl && outs.all Cell.flat with
  | true => some (back as outs cs)
  | false => frzAll (borIx as) (back as outs cs)
def resFlat (x : P) (own : Bool) : Bool :=
  if own then (match x with | .lst xs => P.flatL xs | _ => false) else x.flat
/-- a call with evaluated arguments -/
def doCall (call : Nat → List Arg → CR) (f : Nat) (as : List AR) (cs : Cells) : R (P × Bool) :=
  if nodupB (mutIx as) && disjB (mutIx as) (borIx as) then
    match argsOf cs as with
    | Option.none => .stk
    | some xs => match call f xs with
      | .ok r own outs => R.opt cs (settle as (resFlat r own) outs cs) |>.bind fun cs' _ => .ok (r, own) cs'
      | .exc c fs outs => match settle as (P.flatL fs) outs cs with
        | some cs' => .exc c fs cs'
        | Option.none => .stk
      | .stk => .stk
  else .stk

def AR.simple : AR → Bool
  | .val _ | .bor _ => true
  | _ => false
/-- the items at these places -/
def perm {α : Type} (pm : List Nat) (l : List α) : List α := pm.filterMap fun i => l[i]?
/-- which thing of this frame a loop walks -/
def lockIx (it : CI) (ρ : Env) (cs : Cells) : Option Nat :=
  match it with
  | .sq (.var i) | .en (.var i) => match ρ[i]? with
    | some (some (.ref n)) => match cs[n]? with
      | some (.lst _) => some n
      | _ => Option.none
    | _ => Option.none
  | _ => Option.none
def lockC (o : Option Nat) (cs : Cells) : Cells :=
  match o with
  | some n => match cs[n]? with
    | some c => cs.set n (.lock c.view)
    | Option.none => cs
  | Option.none => cs
def unlockC (o : Option Nat) (old cs : Cells) : Cells :=
  match o with
  | some n => match old[n]? with
    | some c => cs.set n c
    | Option.none => cs
  | Option.none => cs
def R.unlock {α : Type} (o : Option Nat) (old : Cells) : R α → R α
  | .ok a cs => .ok a (unlockC o old cs)
  | .exc c fs cs => .exc c fs (unlockC o old cs)
  | .stk => .stk
def RS.unlock (o : Option Nat) (old : Cells) : RS → RS
  | .nx ρ cs => .nx ρ (unlockC o old cs)
  | .rt x w cs => .rt x w (unlockC o old cs)
  | .bk ρ cs => .bk ρ (unlockC o old cs)
  | .ct ρ cs => .ct ρ (unlockC o old cs)
  | .exc c fs ρ cs => .exc c fs ρ (unlockC o old cs)
  | .stk => .stk
/-- a value that is looked at only -/
def vw (r : R VP) : R P := r.bind fun v cs => R.opt cs (viewV cs v)
def tv (r : R VP) : R Bool := (vw r).bind fun x cs => R.opt cs (truP x)
/-- a value that stays -/
def ev (r : R VP) : R P := r.bind fun v cs => escV cs v
def viewAll (cs : Cells) : List VP → Option (List P)
  | [] => some []
  | v :: vs => (viewV cs v).bind fun x => (viewAll cs vs).map (x :: ·)
def escAll : List VP → Cells → R (List P)
  | [], cs => .ok [] cs
  | v :: vs, cs => (escV cs v).bind fun x cs => (escAll vs cs).bind fun xs cs => .ok (x :: xs) cs
/-- an operator on two values, seen when both are there -/
def op2 {α : Type} (f : P → P → Option α) (va vb : VP) (cs : Cells) : R α :=
  (R.opt cs (viewV cs va)).bind fun x cs => (R.opt cs (viewV cs vb)).bind fun y cs => R.opt cs (f x y)
/-- a loop walks a thing of this frame only by its name -/
def seqOk : CE → VP → Bool
  | .var _, _ => true
  | _, .p _ => true
  | _, .ref _ => false
def r2P : P → P → Option (List P)
  | .int i, .int j => if (-(2 ^ 62) ≤ i ∧ i < 2 ^ 62 ∧ -(2 ^ 62) ≤ j ∧ j < 2 ^ 62) ∧ j - i ≤ SZ then some (rngV i (j - i).toNat) else Option.none
  | _, _ => Option.none
def enP : P → Option (List P)
  | .lst xs => some (enumV 0 xs)
  | _ => Option.none
/-- a store into a thing -/
def stoC : Cell → P → P → Option Cell
  | .lst xs, .int i, v => (ixSet xs i v).map .lst
  | _, _, _ => Option.none
def mthL : MM → List P → List P → Option (List P × P)
  | .append, xs, ys => match ys with
    | [x] => if xs.length < SZ then some (xs ++ [x], .none) else Option.none
    | _ => Option.none
  | .extend, xs, ys => match ys with
    | [.lst zs] => if xs.length + zs.length ≤ SZ then some (xs ++ zs, .none) else Option.none
    | _ => Option.none
  | .pop, xs, ys => match ys with
    | [] => (xs[xs.length - 1]?).map fun y => (xs.dropLast, y)
    | _ => Option.none
  | .popAt, xs, ys => match ys with
    | [.int i] => if 0 ≤ i ∧ i < 2 ^ 63 then (xs[i.toNat]?).map fun y => (xs.eraseIdx i.toNat, y) else Option.none
    | _ => Option.none
  | .insert, xs, ys => match ys with
    | [.int i, y] => if xs.length < SZ ∧ 0 ≤ i ∧ i < 2 ^ 63 then some (xs.take i.toNat ++ y :: xs.drop i.toNat, .none) else Option.none
    | _ => Option.none
def mthC (o : MM) (c : Cell) (ys : List P) : Option (Cell × P) :=
  match c with
  | .lst xs => (mthL o xs ys).map fun r => (.lst r.1, r.2)
  | _ => Option.none
def stfC (G : Glob) : Cell → Nat → P → Option Cell
  | .obj c fs, f, v => (G.cls c).bind fun d => match d.flds.idxOf? f with
    | some j => if j < fs.length then some (.obj c (fs.set j v)) else if j = fs.length then some (.obj c (fs ++ [v])) else Option.none
    | Option.none => Option.none
  | _, _, _ => Option.none
/-- a thing in a slot is changed -/
def onCell {α : Type} (i : Nat) (ρ : Env) (cs : Cells) (f : Cell → Option (Cell × α)) : R α :=
  match ρ[i]? with
  | some (some (.ref n)) => match cs[n]? with
    | some c => if c.isMut then (match f c with | some (c', a) => .ok a (cs.set n c') | Option.none => .stk) else .stk
    | Option.none => .stk
  | _ => .stk
def lstAt (i : Nat) (ρ : Env) (cs : Cells) : Bool :=
  match ρ[i]? with
  | some (some (.ref n)) => match cs[n]? with
    | some (.lst _) => true
    | _ => false
  | _ => false
/-- name op= e -/
def augP : BOp → P → P → Option P
  | .add, .int i, .int j => some (.int (iadd i j))
  | .sub, .int i, .int j => some (.int (isub i j))
  | _, _, _ => Option.none
/-- the things made in a loop's turn are gone behind it -/
def trimE (n : Nat) (ρ : Env) : Env := ρ.map fun o => match o with
  | some (.ref k) => if k < n then o else Option.none
  | _ => o
section
variable (G : Glob) (call : Nat → List Arg → CR)
/-- the items of a comprehension -/
def lcLoop (f : P → Cells → R (Option P)) : List P → Cells → List P → R (List P)
  | [], cs, acc => .ok acc cs
  | x :: xs, cs, acc => match f x cs with
    | .ok (some y) cs' => lcLoop f xs cs' (acc ++ [y])
    | .ok Option.none cs' => lcLoop f xs cs' acc
    | _ => .stk
def fldP (x : P) (f : Nat) : Option (P ⊕ Nat) :=
  match x with
  | .ins c fs => (G.cls c).bind fun d => match d.flds.idxOf? f with
    | some j => (fs[j]?).map .inl
    | Option.none => (d.prps.lookup f).map .inr
  | _ => Option.none
mutual
def evE : CE → Env → Cells → R VP
  | .none, _, cs => .ok (.p .none) cs
  | .bool b, _, cs => .ok (.p (.bool b)) cs
  | .int i, _, cs => .ok (.p (.int i)) cs
  | .str s, _, cs => .ok (.p (.str s)) cs
  | .var i, ρ, cs => match ρ[i]? with | some (some v) => .ok v cs | _ => .stk
  | .gl g, _, cs => (R.opt cs (G.gls g)).bind fun x cs => .ok (.p x) cs
  | .bin o a b, ρ, cs => (evE a ρ cs).bind fun x cs => (evE b ρ cs).bind fun y cs => (op2 (binP o) x y cs).bind fun z cs => .ok (.p z) cs
  | .neg a, ρ, cs => (vw (evE a ρ cs)).bind fun x cs => match x with | .int i => .ok (.p (.int (ineg i))) cs | _ => .stk
  | .not a, ρ, cs => (tv (evE a ρ cs)).bind fun b cs => .ok (.p (.bool (!b))) cs
  | .bop k es, ρ, cs => evBo k es ρ cs
  | .cmp o a b, ρ, cs => (evE a ρ cs).bind fun x cs => (evE b ρ cs).bind fun y cs => (op2 (cmpP o) x y cs).bind fun z cs => .ok (.p (.bool z)) cs
  | .chain o o' a b c, ρ, cs => (evE a ρ cs).bind fun x cs => (evE b ρ cs).bind fun y cs => (op2 (cmpP o) x y cs).bind fun z cs =>
      if z then (evE c ρ cs).bind fun w cs => (op2 (cmpP o') y w cs).bind fun z cs => .ok (.p (.bool z)) cs else .ok (.p (.bool false)) cs
  | .ite c a b, ρ, cs => (tv (evE c ρ cs)).bind fun k cs => if k then evE a ρ cs else evE b ρ cs
  | .ix a i, ρ, cs => (evE a ρ cs).bind fun x cs => (evE i ρ cs).bind fun y cs => (op2 ixP x y cs).bind fun z cs => .ok (.p z) cs
  | .sl a lo hi, ρ, cs => (evE a ρ cs).bind fun x cs => (evO lo ρ cs).bind fun l cs => (evO hi ρ cs).bind fun h cs => (R.opt cs ((viewV cs x).bind fun x => slP x l h)).bind fun z cs => .ok (.p z) cs
  | .tup es, ρ, cs => (evXs es ρ cs).bind fun vs cs => (escAll vs cs).bind fun xs cs => if xs.length ≤ SZ then .ok (.p (.tup xs)) cs else .stk
  | .l e, ρ, cs => (evL e ρ cs).bind fun xs cs => .ok (.p (.lst xs)) cs
  | .call f as, ρ, cs => (evAs as ρ cs).bind fun as cs => (doCall call f as cs).bind fun r cs => .ok (.p r.1) cs
  | .callK f as pm, ρ, cs => (evAs as ρ cs).bind fun as cs => if as.all AR.simple then (doCall call f (perm pm as) cs).bind fun r cs => .ok (.p r.1) cs else .stk
  | .mk c as, ρ, cs => .stk
  | .bi b es, ρ, cs => (evXs es ρ cs).bind fun vs cs => (R.opt cs ((viewAll cs vs).bind (biP b))).bind fun z cs => .ok (.p z) cs
  | .isi a ts, ρ, cs => (vw (evE a ρ cs)).bind fun x cs => (R.opt cs (kindP x)).bind fun _ cs => .ok (.p (.bool (ts.any fun t => isT t x))) cs
  | .fld a f, ρ, cs => (evE a ρ cs).bind fun v cs => (R.opt cs (viewV cs v)).bind fun x cs => match fldP G x f with
      | some (.inl y) => .ok (.p y) cs
      | some (.inr g) => match v with
        | .p _ => (match call g [.imm x] with
          | .ok r false _ => .ok (.p r) cs
          | _ => .stk)
        | .ref _ => .stk
      | Option.none => .stk
  | .rev a, ρ, cs => (vw (evE a ρ cs)).bind fun x cs => match x with | .lst xs => .ok (.p (.lst xs.reverse)) cs | _ => .stk
  | .pm m a es, ρ, cs => .stk
  | .dic ks es, ρ, cs => (evXs es ρ cs).bind fun vs cs => (escAll vs cs).bind fun xs cs => if ks.length = xs.length ∧ ks.length ≤ 15 ∧ ks.Nodup then .ok (.p (.dic (ks.map .str) xs)) cs else .stk
  | .mth i o es, ρ, cs => if lstAt i ρ cs then (evXs es ρ cs).bind fun vs cs => (escAll vs cs).bind fun ys cs => (onCell i ρ cs fun c => mthC o c ys).bind fun y cs => .ok (.p y) cs else .stk
def evL : CL → Env → Cells → R (List P)
  | .lst es, ρ, cs => (evXs es ρ cs).bind fun vs cs => (escAll vs cs).bind fun xs cs => if xs.length ≤ SZ then .ok xs cs else .stk
  | .lc g own it ts e, ρ, cs => (evI it ρ cs).bind fun xs cs => if xs.length ≤ SZ then
      (lcLoop (fun x cs => match asgT g x (wipe ρ own) with
        | some ρ' => (evTs ts ρ' cs).bind fun k cs => if k then (evE e ρ' cs).bind fun v cs => (escV cs v).bind fun y cs => .ok (some y) cs else .ok Option.none cs
        | Option.none => .stk) xs (lockC (lockIx it ρ cs) cs) []).unlock (lockIx it ρ cs) cs else .stk
  | .lof e, ρ, cs => (vw (evE e ρ cs)).bind fun x cs => match x with | .lst xs => .ok xs cs | .tup xs => .ok xs cs | _ => .stk
  | .call f as, ρ, cs => (evAs as ρ cs).bind fun as cs => (doCall call f as cs).bind fun r cs => match r with | (.lst xs, true) => .ok xs cs | _ => .stk
def evO : CO → Env → Cells → R (Option Int)
  | .none, _, cs => .ok Option.none cs
  | .some e, ρ, cs => (vw (evE e ρ cs)).bind fun x cs => match x with | .int i => .ok (some i) cs | _ => .stk
def evBo : Bool → CEs → Env → Cells → R VP
  | _, .nil, _, _ => .stk
  | k, .cons e es, ρ, cs => (evE e ρ cs).bind fun v cs => match es with
    | .nil => .ok v cs
    | .cons _ _ => (R.opt cs ((viewV cs v).bind truP)).bind fun b cs => if b == k then evBo k es ρ cs else .ok v cs
def evXs : CEs → Env → Cells → R (List VP)
  | .nil, _, cs => .ok [] cs
  | .cons e es, ρ, cs => (evE e ρ cs).bind fun v cs => (evXs es ρ cs).bind fun vs cs => .ok (v :: vs) cs
def evTs : CEs → Env → Cells → R Bool
  | .nil, _, cs => .ok true cs
  | .cons e es, ρ, cs => (tv (evE e ρ cs)).bind fun b cs => if b then evTs es ρ cs else .ok false cs
def evAs : CAs → Env → Cells → R (List AR)
  | .nil, _, cs => .ok [] cs
  | .imm e as, ρ, cs => (evE e ρ cs).bind fun v cs => (evAs as ρ cs).bind fun as cs => match v with | .p x => .ok (.val x :: as) cs | .ref n => .ok (.bor n :: as) cs
  | .mv i as, ρ, cs => match ρ[i]? with | some (some (.ref n)) => (evAs as ρ cs).bind fun as cs => .ok (.mu n :: as) cs | _ => .stk
  | .ml e as, ρ, cs => (evL e ρ cs).bind fun xs cs => (evAs as ρ cs).bind fun as cs => .ok (.tmp xs :: as) cs
def evI : CI → Env → Cells → R (List P)
  | .sq e, ρ, cs => (evE e ρ cs).bind fun v cs => if seqOk e v then R.opt cs ((viewV cs v).bind itP) else .stk
  | .r1 a, ρ, cs => (vw (evE a ρ cs)).bind fun x cs => match x with | .int n => if -(2 ^ 62) ≤ n ∧ n ≤ SZ then .ok (rngV 0 n.toNat) cs else .stk | _ => .stk
  | .r2 a b, ρ, cs => (evE a ρ cs).bind fun x cs => (evE b ρ cs).bind fun y cs => op2 r2P x y cs
  | .r3 a b c, ρ, cs => .stk
  | .en e, ρ, cs => (evE e ρ cs).bind fun v cs => if seqOk e v then R.opt cs ((viewV cs v).bind enP) else .stk
  | .zp a b, ρ, cs => .stk
end
end

section
def RS.seq : RS → (Env → Cells → RS) → RS
  | .nx ρ cs, f => f ρ cs
  | r, _ => r
def R.toS {α : Type} (ρ : Env) : R α → (α → Cells → RS) → RS
  | .ok a cs, f => f a cs
  | .exc c fs cs, _ => .exc c fs ρ cs
  | .stk, _ => .stk
def forL (body : P → Env → Cells → RS) : List P → Env → Cells → RS
  | [], ρ, cs => .nx ρ cs
  | x :: xs, ρ, cs => match body x ρ cs with
    | .nx ρ' cs' => forL body xs (trimE cs.length ρ') (cs'.take cs.length)
    | .ct ρ' cs' => forL body xs (trimE cs.length ρ') (cs'.take cs.length)
    | .bk ρ' cs' => .nx ρ' cs'
    | r => r
def whL (test : Env → Cells → R Bool) (body : Env → Cells → RS) : Nat → Env → Cells → RS
  | 0, _, _ => .stk
  | n + 1, ρ, cs => (test ρ cs).toS ρ fun b cs => if b then (match body ρ cs with
    | .nx ρ' cs' => whL test body n (trimE cs.length ρ') (cs'.take cs.length)
    | .ct ρ' cs' => whL test body n (trimE cs.length ρ') (cs'.take cs.length)
    | .bk ρ' cs' => .nx ρ' cs'
    | r => r) else .nx ρ cs
variable (G : Glob) (call : Nat → List Arg → CR) (m : Nat)
mutual
def evS : CS → Env → Cells → RS
  | .ex e, ρ, cs => (evE G call e ρ cs).toS ρ fun _ cs => .nx ρ cs
  | .set (.nm i) e, ρ, cs => (evE G call e ρ cs).toS ρ fun v cs => .nx (ρ.set i (some v)) cs
  | .set (.tp ts) e, ρ, cs => (evE G call e ρ cs).toS ρ fun v cs => match v with
    | .p x => match asgT (.tp ts) x ρ with
      | some ρ' => .nx ρ' cs
      | Option.none => .stk
    | _ => .stk
  | .setL i e, ρ, cs => (evL G call e ρ cs).toS ρ fun xs cs => .nx (ρ.set i (some (.ref cs.length))) (cs ++ [.lst xs])
  | .sti i ie e, ρ, cs => (evE G call e ρ cs).toS ρ fun v cs => if lstAt i ρ cs then (evE G call ie ρ cs).toS ρ fun k cs => (R.opt cs (viewV cs k)).toS ρ fun k cs => (escV cs v).toS ρ fun v cs =>
      (onCell i ρ cs fun c => (stoC c k v).map (·, ())).toS ρ fun _ cs => .nx ρ cs else .stk
  | .stf i f e, ρ, cs => (ev (evE G call e ρ cs)).toS ρ fun v cs => (onCell i ρ cs fun c => (stfC G c f v).map (·, ())).toS ρ fun _ cs => .nx ρ cs
  | .aug i o e, ρ, cs => match ρ[i]? with
    | some (some (.p x)) => (vw (evE G call e ρ cs)).toS ρ fun y cs => (R.opt cs (augP o x y)).toS ρ fun z cs => .nx (ρ.set i (some (.p z))) cs
    | _ => .stk
  | .par i j a b, ρ, cs => (evXs G call (.cons a (.cons b .nil)) ρ cs).toS ρ fun vs cs => (escAll vs cs).toS ρ fun xs cs => match xs with
    | [x, y] => .nx ((ρ.set i (some (.p x))).set j (some (.p y))) cs
    | _ => .stk
  | .iff t a b, ρ, cs => (tv (evE G call t ρ cs)).toS ρ fun k cs => if k then evSs a ρ cs else evSs b ρ cs
  | .fr t it b, ρ, cs => (evI G call it ρ cs).toS ρ fun xs cs =>
      (forL (fun x ρ cs => match asgT t x ρ with | some ρ' => evSs b ρ' cs | Option.none => .stk) xs ρ (lockC (lockIx it ρ cs) cs)).unlock (lockIx it ρ cs) cs
  | .whl n t b, ρ, cs => whL (fun ρ cs => tv (evE G call t ρ cs)) (fun ρ cs => evSs b ρ cs) n ρ cs
  | .ret e, ρ, cs => (evE G call e ρ cs).toS ρ fun v cs => match v with
    | .p x => .rt x false cs
    | .ref n => match cs[n]? with
      | some (.lst xs) => if m ≤ n then .rt (.lst xs) true cs else (escV cs v).toS ρ fun x cs => .rt x false cs
      | _ => (escV cs v).toS ρ fun x cs => .rt x false cs
  | .retL e, ρ, cs => (evL G call e ρ cs).toS ρ fun xs cs => .rt (.lst xs) true cs
  | .retN, ρ, cs => .rt .none false cs
  | .pass, ρ, cs => .nx ρ cs
  | .brk, ρ, cs => .bk ρ cs
  | .cnt, ρ, cs => .ct ρ cs
  | .stk, _, _ => .stk
def evSs : CSs → Env → Cells → RS
  | .nil, ρ, cs => .nx ρ cs
  | .cons s ss, ρ, cs => (evS s ρ cs).seq fun ρ cs => evSs ss ρ cs
  | .kill is ss, ρ, cs => evSs ss (wipe ρ is) cs
end
end

section
variable (G : Glob) (call : Nat → List Arg → CR) (m : Nat)
end
def argEnv : List Arg → Nat → Env
  | [], _ => []
  | .imm x :: r, n => some (.p x) :: argEnv r n
  | .mu _ :: r, n => some (.ref n) :: argEnv r (n + 1)
def argCells : List Arg → Cells
  | [] => []
  | .imm _ :: r => argCells r
  | .mu c :: r => c :: argCells r
def endC (m : Nat) : RS → CR
  | .nx _ cs => .ok .none false (cs.take m)
  | .rt x w cs => .ok x w (cs.take m)
  | .exc c fs _ cs => .exc c fs (cs.take m)
  | _ => .stk
def runFn (G : Glob) (call : Nat → List Arg → CR) (d : FnD) (args : List Arg) : CR :=
  if args.length = d.np then
    endC (argCells args).length (evSs G call (argCells args).length d.body (argEnv args 0 ++ List.replicate (d.ns - d.np) Option.none) (argCells args))
  else .stk
def runMk (call : Nat → List Arg → CR) (c i : Nat) (args : List Arg) : CR :=
  match call i (.mu (.obj c []) :: args) with
  | .ok .none false (.obj c' fs :: outs) => if c' = c then .ok (.ins c fs) false outs else .stk
  | .exc e fs (_ :: outs) => .exc e fs outs
  | _ => .stk
def evCall (G : Glob) : Nat → Nat → List Arg → CR
  | 0, _, _ => .stk
  | k + 1, f, args => match G.fns f with
    | some d => runFn G (evCall G k) d args
    | Option.none => match G.mks f with
      | some (.cls c i) => runMk (evCall G k) c i args
      | some (.prop g) => evCall G k g args
      | Option.none => .stk
end Ev
set_option maxRecDepth 100000
/-! Ev1: what stands for what -/
namespace Ev
open PySem L2

abbrev mkS (cs : List Nat) : Str := ⟨cs.toArray⟩
/-- the classes of the text: their addresses, the names of their fields -/
abbrev ClsA := Nat → Option (Addr × List Str)

/-- a list that stands still for ever -/
def Scr (K : PySem.W.Frag) (H : Hp) (a : Addr) (us : List V) : Prop := (∃ o, H a = some (.frz o (.lst us))) ∨
    ∃ (o : Obj) (its : Array Value) (n : Nat), K.lookup a = some o ∧ o.cls = .type "list" ∧ o.dict = none ∧ o.data = .seq its n ∧ its.size ≤ sizeLine ∧ Vals us its.toList
theorem Scr.sqL {K : PySem.W.Frag} {H : Hp} {a : Addr} {us : List V} (h : Scr K H a us) : SqL K H a us := h.elim (fun z => .inl (.inr z)) .inr
/-- a key of a dict -/
def keyP : P → Option Key
  | .int i => some (.inl i)
  | .str s => some (.inr (mkS s))
  | _ => Option.none
mutual
inductive RP (C : ClsA) (K : PySem.W.Frag) (M : Addr → Prop) (H : Hp) : V → P → Prop
  | none : RP C K M H .non .none
  | bool (b : Bool) : RP C K M H (.bl b) (.bool b)
  | int (i : Int) : RP C K M H (.int i) (.int i)
  | str (s : List Nat) : PySem.PyData.strOk (mkS s) = true → s.length ≤ SZ → RP C K M H (.str (mkS s)) (.str s)
  | tup {a : Addr} {us : List V} {ps : List P} : SqT K H a us → RPs C K M H us ps → RP C K M H (.ref a) (.tup ps)
  | lst {a : Addr} {us : List V} {ps : List P} : H a = some (.lst us) → ¬ M a → RPs C K M H us ps → RP C K M H (.ref a) (.lst ps)
  | ins {a A dx : Addr} {c : Nat} {ns : List Str} {fs : List (Str × V)} {ps : List P} : C c = some (A, ns) → H a = some (.ins A dx fs) → ¬ M a → fs.map (·.1) = ns.take fs.length → RPs C K M H (fs.map (·.2)) ps → RP C K M H (.ref a) (.ins c ps)
  | dic {a : Addr} {kvs : List (Key × V)} {ks ps : List P} : H a = some (.dK kvs) → ¬ M a → ks.map keyP = kvs.map (fun q => some q.1) → RPs C K M H (kvs.map (·.2)) ps → RP C K M H (.ref a) (.dic ks ps)
  | scr {a : Addr} {ns : List Int} : Scr K H a (ns.map V.int) → RP C K M H (.ref a) (.scr ns)
inductive RPs (C : ClsA) (K : PySem.W.Frag) (M : Addr → Prop) (H : Hp) : List V → List P → Prop
  | nil : RPs C K M H [] []
  | cons {u : V} {us : List V} {p : P} {ps : List P} : RP C K M H u p → RPs C K M H us ps → RPs C K M H (u :: us) (p :: ps)
end

section
variable {C : ClsA} {K : PySem.W.Frag} {M M' : Addr → Prop} {H H' : Hp}
theorem RPs.length : ∀ {us : List V} {ps : List P}, RPs C K M H us ps → us.length = ps.length
  | _, _, .nil => rfl
  | _, _, .cons _ t => by simp [RPs.length t]
theorem RPs.get : ∀ {us : List V} {ps : List P} {i : Nat} {p : P}, RPs C K M H us ps → ps[i]? = some p → ∃ u, us[i]? = some u ∧ RP C K M H u p
  | _, _, _, _, .nil, e => by simp at e
  | _, _, 0, _, .cons r _, e => by simp at e; subst e; exact ⟨_, rfl, r⟩
  | _, _, i + 1, _, .cons _ t, e => by
    obtain ⟨u, h1, h2⟩ := RPs.get (i := i) t (by simpa using e)
    exact ⟨u, by simpa using h1, h2⟩
theorem RPs.set {x : V} {y : P} (r : RP C K M H x y) : ∀ {us : List V} {ps : List P} (i : Nat), RPs C K M H us ps → RPs C K M H (us.set i x) (ps.set i y)
  | _, _, _, .nil => .nil
  | _, _, 0, .cons _ t => .cons r t
  | _, _, i + 1, .cons q t => .cons q (RPs.set r i t)
theorem RPs.append : ∀ {us ws : List V} {ps qs : List P}, RPs C K M H us ps → RPs C K M H ws qs → RPs C K M H (us ++ ws) (ps ++ qs)
  | _, _, _, _, .nil, s => s
  | _, _, _, _, .cons r t, s => .cons r (RPs.append t s)
theorem RPs.take : ∀ {us : List V} {ps : List P} (n : Nat), RPs C K M H us ps → RPs C K M H (us.take n) (ps.take n)
  | _, _, 0, _ => .nil
  | _, _, _ + 1, .nil => .nil
  | _, _, n + 1, .cons r t => .cons r (RPs.take n t)
theorem RPs.drop : ∀ {us : List V} {ps : List P} (n : Nat), RPs C K M H us ps → RPs C K M H (us.drop n) (ps.drop n)
  | _, _, 0, r => r
  | _, _, _ + 1, .nil => .nil
  | _, _, n + 1, .cons _ t => RPs.drop n t
theorem RPs.nil_iff {us : List V} {ps : List P} (r : RPs C K M H us ps) : us = [] ↔ ps = [] := by
  cases r <;> simp
theorem RPs.one {us : List V} {p : P} (r : RPs C K M H us [p]) : ∃ u, us = [u] ∧ RP C K M H u p := by
  cases r with | cons r t => cases t; exact ⟨_, rfl, r⟩
theorem RPs.two {us : List V} {p q : P} (r : RPs C K M H us [p, q]) : ∃ u v, us = [u, v] ∧ RP C K M H u p ∧ RP C K M H v q := by
  cases r with | cons r t => cases t with | cons s t => cases t; exact ⟨_, _, rfl, r, s⟩
end

/-- all that is tracked stays, but for M; tuples and what is locked stay anyway -/
structure Keep (M : Addr → Prop) (H H' : Hp) : Prop where
  obj : ∀ b o, H b = some o → ¬ M b → H' b = some o
  tup : ∀ b xs, H b = some (.tup xs) → H' b = some (.tup xs)
  frz : ∀ b o u, H b = some (.frz o u) → H' b = some (.frz o u)
  dom : ∀ b, H b ≠ none → H' b ≠ none
section
variable {C : ClsA} {K : PySem.W.Frag} {M M' : Addr → Prop} {H H' H2 : Hp}
theorem Keep.refl : Keep M H H := ⟨fun _ _ h _ => h, fun _ _ h => h, fun _ _ _ h => h, fun _ h => h⟩
theorem Keep.trans (a : Keep M H H') (b : Keep M H' H2) : Keep M H H2 :=
  ⟨fun x o h n => b.obj x o (a.obj x o h n) n, fun x xs h => b.tup x xs (a.tup x xs h), fun x o u h => b.frz x o u (a.frz x o u h), fun x h => b.dom x (a.dom x h)⟩
theorem Keep.mono (a : Keep M H H') (h : ∀ b, M b → M' b) : Keep M' H H' := ⟨fun x o e n => a.obj x o e fun z => n (h x z), a.tup, a.frz, a.dom⟩
theorem Keep.sqT (k : Keep M H H') {a : Addr} {us : List V} (h : SqT K H a us) : SqT K H' a us := by
  rcases h with (h | ⟨o, h⟩) | h
  · exact .inl (.inl (k.tup _ _ h))
  · exact .inl (.inr ⟨o, k.frz _ _ _ h⟩)
  · exact .inr h
theorem Keep.sqL (k : Keep M H H') {a : Addr} {us : List V} (n : ¬ M a) (h : SqL K H a us) : SqL K H' a us := by
  rcases h with (h | ⟨o, h⟩) | h
  · exact .inl (.inl (k.obj _ _ h n))
  · exact .inl (.inr ⟨o, k.frz _ _ _ h⟩)
  · exact .inr h
/-- a new object -/
theorem upd_dom {a b : Addr} {o : HO} (h : H b ≠ none) : upd H a o b ≠ none := by
  by_cases e : b = a
  · subst e; rw [upd_same]; simp
  · rw [upd_ne e]; exact h
theorem Keep.new {a : Addr} {o : HO} (h : H a = none) : Keep M H (upd H a o) :=
  ⟨fun b u e _ => by rw [upd_ne (ne_of_none e h)]; exact e, fun b u e => by rw [upd_ne (ne_of_none e h)]; exact e, fun b u x e => by rw [upd_ne (ne_of_none e h)]; exact e, fun _ => upd_dom⟩
/-- a thing of M is changed -/
theorem Keep.chg {a : Addr} {o u : HO} (m : M a) (e : H a = some u) (nt : ∀ xs, u ≠ .tup xs) (nf : ∀ x y, u ≠ .frz x y) : Keep M H (upd H a o) := by
  refine ⟨fun b w h n => ?_, fun b xs h => ?_, fun b x y h => ?_, fun _ => upd_dom⟩
  · rw [upd_ne (fun z => n (by rw [z]; exact m))]; exact h
  · rw [upd_ne (fun z => nt xs (by rw [z, e] at h; exact Option.some.inj h))]; exact h
  · rw [upd_ne (fun z => nf x y (by rw [z, e] at h; exact Option.some.inj h))]; exact h

mutual
theorem RP.mono (k : Keep M H H') (m : ∀ b, H b ≠ none → M' b → M b) : ∀ {v : V} {p : P}, RP C K M H v p → RP C K M' H' v p
  | _, _, .none => .none
  | _, _, .bool b => .bool b
  | _, _, .int i => .int i
  | _, _, .str s a b => .str s a b
  | _, _, .tup h r => .tup (k.sqT h) (RPs.mono k m r)
  | _, _, .lst h n r => .lst (k.obj _ _ h n) (fun z => n (m _ (by rw [h]; simp) z)) (RPs.mono k m r)
  | _, _, .ins h e n f r => .ins h (k.obj _ _ e n) (fun z => n (m _ (by rw [e]; simp) z)) f (RPs.mono k m r)
  | _, _, .dic h n e r => .dic (k.obj _ _ h n) (fun z => n (m _ (by rw [h]; simp) z)) e (RPs.mono k m r)
  | _, _, .scr h => .scr (h.elim (fun ⟨o, z⟩ => .inl ⟨o, k.frz _ _ _ z⟩) .inr)
theorem RPs.mono (k : Keep M H H') (m : ∀ b, H b ≠ none → M' b → M b) : ∀ {vs : List V} {ps : List P}, RPs C K M H vs ps → RPs C K M' H' vs ps
  | _, _, .nil => .nil
  | _, _, .cons r t => .cons (RP.mono k m r) (RPs.mono k m t)
end
mutual
theorem RP.flat : ∀ {v : V} {p : P}, p.flat = true → RP C K M H v p → RP C K M' H v p
  | _, _, _, .none => .none
  | _, _, _, .bool b => .bool b
  | _, _, _, .int i => .int i
  | _, _, _, .str s a b => .str s a b
  | _, _, f, .tup h r => .tup h (RPs.flat (by simpa [P.flat] using f) r)
  | _, _, f, .lst h n r => by simp [P.flat] at f
  | _, _, f, .ins h e n q r => by simp [P.flat] at f
  | _, _, f, .dic h n e r => by simp [P.flat] at f
  | _, _, f, .scr h => by simp [P.flat] at f
theorem RPs.flat : ∀ {vs : List V} {ps : List P}, P.flatL ps = true → RPs C K M H vs ps → RPs C K M' H vs ps
  | _, _, _, .nil => .nil
  | _, _, f, .cons r t => by
    rw [P.flatL, Bool.and_eq_true] at f
    exact .cons (RP.flat f.1 r) (RPs.flat f.2 t)
end
end

/-! ### slots and things -/
def RV (C : ClsA) (K : PySem.W.Frag) (M : Addr → Prop) (js : List Addr) (H : Hp) (u : V) : VP → Prop
  | .p x => RP C K M H u x
  | .ref n => ∃ a, js[n]? = some a ∧ u = .ref a
inductive RC (C : ClsA) (K : PySem.W.Frag) (M : Addr → Prop) (H : Hp) (a : Addr) : Cell → Prop
  | lst {us : List V} {ps : List P} : M a → H a = some (.lst us) → RPs C K M H us ps → RC C K M H a (.lst ps)
  | obj {A dx : Addr} {c : Nat} {ns : List Str} {fs : List (Str × V)} {ps : List P} : M a → C c = some (A, ns) → H a = some (.ins A dx fs) → fs.map (·.1) = ns.take fs.length → RPs C K M H (fs.map (·.2)) ps → RC C K M H a (.obj c ps)
  | lock {us : List V} {ps : List P} : M a → H a = some (.lst us) → RPs C K M H us ps → RC C K M H a (.lock (.lst ps))
  | frz {x : P} : RP C K M H (.ref a) x → H a ≠ none → ¬ M a → RC C K M H a (.frz x)
/-- the addresses of the things that may be changed -/
def Ow (js : List Addr) (cs : Cells) (a : Addr) : Prop := ∃ (n : Nat) (c : Cell), js[n]? = some a ∧ cs[n]? = some c ∧ c.isMut = true
structure SR (C : ClsA) (K : PySem.W.Frag) (M : Addr → Prop) (js : List Addr) (ρ : Env) (cs : Cells) (σ : St) (H : Hp) : Prop where
  dom : ∀ a, M a → H a ≠ none
  env : ∀ (i : Nat) (v : VP), ρ[i]? = some (some v) → ∃ u, σ[i]? = some (some u) ∧ RV C K M js H u v
  sl : ρ.length = σ.length
  len : js.length = cs.length
  nd : js.Nodup
  cel : ∀ (n : Nat) (a : Addr) (c : Cell), js[n]? = some a → cs[n]? = some c → RC C K M H a c
/-- from one state to the next, the slots the same; N: new lists that nobody else knows -/
structure TrN (N : List Addr) (M : Addr → Prop) (js : List Addr) (cs : Cells) (H : Hp) (M' : Addr → Prop) (cs' : Cells) (H' : Hp) : Prop where
  keep : Keep (Ow js cs) H H'
  subN : ∀ b, M' b → M b ∨ H b = none
  sup : ∀ b, M b → M' b ∨ Ow js cs b
  ow : ∀ a, Ow js cs' a → Ow js cs a
  new : ∀ a, a ∈ N → H a = none ∧ M' a
abbrev Tr := TrN []
abbrev TrL (a : Addr) := TrN [a]
section
variable {C : ClsA} {K : PySem.W.Frag} {M M' M2 : Addr → Prop} {js : List Addr} {ρ : Env} {cs cs' cs2 : Cells} {σ : St} {H H' H2 : Hp} {N N' : List Addr}
theorem Keep.pure {a : Addr} (k : Keep M H H') (h : H' a = none) : H a = none := by
  cases e : H a with
  | none => rfl
  | some o => exact (k.dom a (by rw [e]; simp) h).elim
theorem Tr.mk (k : Keep (Ow js cs) H H') (s : ∀ b, M' b → M b ∨ H b = none) (p : ∀ b, M b → M' b ∨ Ow js cs b) (o : ∀ a, Ow js cs' a → Ow js cs a) : Tr M js cs H M' cs' H' := ⟨k, s, p, o, fun a h => by simp at h⟩
theorem Tr.refl : Tr M js cs H M cs H := Tr.mk Keep.refl (fun _ h => .inl h) (fun _ h => .inl h) fun _ h => h
theorem Tr.trans (a : Tr M js cs H M' cs' H') (b : Tr M' js cs' H' M2 cs2 H2) : Tr M js cs H M2 cs2 H2 :=
  Tr.mk (a.keep.trans (b.keep.mono a.ow)) (fun x h => (b.subN x h).elim (a.subN x) fun z => .inr (a.keep.pure z)) (fun x h => (a.sup x h).elim (fun z => (b.sup x z).imp id (a.ow x)) .inr) fun x h => a.ow x (b.ow x h)
theorem SR.ow (s : SR C K M js ρ cs σ H) {a : Addr} (o : Ow js cs a) : M a := by
  obtain ⟨n, c, h1, h2, h3⟩ := o
  have := s.cel n a c h1 h2
  cases this with
  | lst m _ _ => exact m
  | obj m _ _ _ _ => exact m
  | lock m _ _ => exact m
  | frz _ _ _ => simp [Cell.isMut] at h3
theorem TrN.kp (s : SR C K M js ρ cs σ H) (t : TrN N M js cs H M' cs' H') : Keep M H H' := t.keep.mono fun _ o => s.ow o
theorem TrN.un (t : TrN N M js cs H M' cs' H') (b : Addr) (h : H b ≠ none) (m : M' b) : M b := (t.subN b m).elim id fun z => (h z).elim
/-- what was told before still holds -/
theorem SR.rp (s : SR C K M js ρ cs σ H) (t : TrN N M js cs H M' cs' H') {u : V} {p : P} (r : RP C K M H u p) : RP C K M' H' u p := r.mono (t.kp s) t.un
theorem SR.rps (s : SR C K M js ρ cs σ H) (t : TrN N M js cs H M' cs' H') {u : List V} {p : List P} (r : RPs C K M H u p) : RPs C K M' H' u p := r.mono (t.kp s) t.un
theorem SR.rv (s : SR C K M js ρ cs σ H) (t : TrN N M js cs H M' cs' H') {u : V} {v : VP} (r : RV C K M js H u v) : RV C K M' js H' u v := by
  cases v with
  | p x => exact s.rp t r
  | ref n => exact r

/-- from one state to a later one, whatever happened between -/
structure TrJ (js : List Addr) (M : Addr → Prop) (cs : Cells) (H : Hp) (js' : List Addr) (M' : Addr → Prop) (cs' : Cells) (H' : Hp) : Prop where
  keep : Keep (Ow js cs) H H'
  sub : ∀ b, M' b → M b ∨ H b = none
  sup : ∀ b, M b → M' b ∨ Ow js cs b ∨ H b = none
  ow : ∀ a, Ow js' cs' a → Ow js cs a ∨ H a = none
  owM : ∀ a, Ow js' cs' a → M' a
  pre : ∃ l, js' = js ++ l ∧ ∀ a, a ∈ l → H a = none
theorem TrN.j (t : TrN N M js cs H M' cs' H') (s : SR C K M' js ρ cs' σ H') : TrJ js M cs H js M' cs' H' :=
  ⟨t.keep, t.subN, fun b h => (t.sup b h).imp id .inl, fun a h => .inl (t.ow a h), fun a h => s.ow h, [], by simp, fun _ h => by simp at h⟩
theorem TrJ.trans {js' js2 : List Addr} (a : TrJ js M cs H js' M' cs' H') (b : TrJ js' M' cs' H' js2 M2 cs2 H2) : TrJ js M cs H js2 M2 cs2 H2 := by
  have no : ∀ x, H x ≠ none → ¬ Ow js cs x → ¬ Ow js' cs' x := fun x h n o => (a.ow x o).elim n h
  refine ⟨⟨fun x o h n => b.keep.obj x o (a.keep.obj x o h n) (no x (by rw [h]; simp) n), fun x xs h => b.keep.tup x xs (a.keep.tup x xs h), fun x o u h => b.keep.frz x o u (a.keep.frz x o u h), fun x h => b.keep.dom x (a.keep.dom x h)⟩,
    fun x h => (b.sub x h).elim (a.sub x) fun z => .inr (a.keep.pure z), fun x h => ?_, fun x h => (b.ow x h).elim (a.ow x) fun z => .inr (a.keep.pure z), b.owM, ?_⟩
  · rcases a.sup x h with z | z
    · rcases b.sup x z with w | w | w
      · exact .inl w
      · exact .inr (a.ow x w)
      · exact .inr (.inr (a.keep.pure w))
    · exact .inr z
  · obtain ⟨l, rfl, f1⟩ := a.pre
    obtain ⟨l2, rfl, f2⟩ := b.pre
    exact ⟨l ++ l2, by simp, fun x h => (List.mem_append.mp h).elim (f1 x) fun z => a.keep.pure (f2 x z)⟩
end
end Ev
set_option maxRecDepth 100000
/-! Ev2: readings by the evaluator -/
namespace Ev
open PySem L2

def R.sat {α : Type} (r : R α) (φ : α → Cells → Prop) (ε : Nat → List P → Cells → Prop) : Prop :=
  match r with
  | .ok a cs => φ a cs
  | .exc c fs cs => ε c fs cs
  | .stk => False
theorem R.sat_bind {α β : Type} {r : R α} {f : α → Cells → R β} {φ : β → Cells → Prop} {ε : Nat → List P → Cells → Prop} :
    (r.bind f).sat φ ε ↔ r.sat (fun a cs => (f a cs).sat φ ε) ε := by
  cases r <;> exact Iff.rfl
theorem R.bind_assoc {α β γ : Type} {r : R α} {f : α → Cells → R β} {g : β → Cells → R γ} : (r.bind f).bind g = r.bind fun a cs => (f a cs).bind g := by
  cases r <;> rfl
theorem R.ok_bind {α β : Type} {a : α} {cs : Cells} {f : α → Cells → R β} : (R.ok a cs).bind f = f a cs := rfl
theorem R.exc_bind {α β : Type} {c : Nat} {fs : List P} {cs : Cells} {f : α → Cells → R β} : (R.exc c fs cs).bind f = R.exc c fs cs := rfl
theorem R.stk_bind {α β : Type} {f : α → Cells → R β} : (R.stk).bind f = R.stk := rfl
theorem R.ite_bind {α β : Type} {c : Prop} [Decidable c] {a b : R α} {f : α → Cells → R β} : (if c then a else b).bind f = if c then a.bind f else b.bind f := by split <;> rfl
theorem R.opt_some {α : Type} {a : α} {cs : Cells} : R.opt cs (some a) = .ok a cs := rfl
theorem R.opt_none {α : Type} {cs : Cells} : R.opt cs (none : Option α) = .stk := rfl
theorem R.sat_opt {α : Type} {o : Option α} {cs : Cells} {φ : α → Cells → Prop} {ε : Nat → List P → Cells → Prop} :
    (R.opt cs o).sat φ ε ↔ ∃ a, o = some a ∧ φ a cs := by
  cases o with
  | none => exact ⟨fun h => h.elim, fun ⟨_, h, _⟩ => by cases h⟩
  | some a => exact ⟨fun h => ⟨a, rfl, h⟩, fun ⟨_, h, q⟩ => by cases h; exact q⟩
theorem R.sat_ok {α : Type} {a : α} {cs : Cells} {φ : α → Cells → Prop} {ε : Nat → List P → Cells → Prop} : (R.ok a cs).sat φ ε ↔ φ a cs := Iff.rfl
theorem R.sat.mono {α : Type} {r : R α} {φ φ' : α → Cells → Prop} {ε ε' : Nat → List P → Cells → Prop} (h : r.sat φ ε) (h1 : ∀ a cs, φ a cs → φ' a cs) (h2 : ∀ c fs cs, ε c fs cs → ε' c fs cs) : r.sat φ' ε' := by
  cases r with
  | ok a cs => exact h1 _ _ h
  | exc c fs cs => exact h2 _ _ _ h
  | stk => exact h
theorem sat_op2 {α : Type} {f : P → P → Option α} {va vb : VP} {cs : Cells} {φ : α → Cells → Prop} {ε : Nat → List P → Cells → Prop} :
    (op2 f va vb cs).sat φ ε ↔ ∃ x y z, viewV cs va = some x ∧ viewV cs vb = some y ∧ f x y = some z ∧ φ z cs := by
  unfold op2
  rw [R.sat_bind, R.sat_opt]
  constructor
  · rintro ⟨x, hx, h⟩
    rw [R.sat_bind, R.sat_opt] at h
    obtain ⟨y, hy, h⟩ := h
    rw [R.sat_opt] at h
    obtain ⟨z, hz, h⟩ := h
    exact ⟨x, y, z, hx, hy, hz, h⟩
  · rintro ⟨x, y, z, hx, hy, hz, h⟩
    refine ⟨x, hx, ?_⟩
    rw [R.sat_bind, R.sat_opt]
    refine ⟨y, hy, ?_⟩
    rw [R.sat_opt]
    exact ⟨z, hz, h⟩
theorem sat_vw {r : R VP} {φ : P → Cells → Prop} {ε : Nat → List P → Cells → Prop} : (vw r).sat φ ε ↔ r.sat (fun v cs => ∃ x, viewV cs v = some x ∧ φ x cs) ε := by
  unfold vw
  rw [R.sat_bind]
  constructor
  · intro h; exact h.mono (fun v cs h => R.sat_opt.mp h) fun _ _ _ h => h
  · intro h; exact h.mono (fun v cs h => R.sat_opt.mpr h) fun _ _ _ h => h
theorem sat_tv {r : R VP} {φ : Bool → Cells → Prop} {ε : Nat → List P → Cells → Prop} : (tv r).sat φ ε ↔ r.sat (fun v cs => ∃ x b, viewV cs v = some x ∧ truP x = some b ∧ φ b cs) ε := by
  unfold tv
  rw [R.sat_bind, sat_vw]
  constructor
  · intro h
    refine h.mono (fun v cs ⟨x, hx, h⟩ => ?_) fun _ _ _ h => h
    obtain ⟨b, hb, h⟩ := R.sat_opt.mp h
    exact ⟨x, b, hx, hb, h⟩
  · intro h
    refine h.mono (fun v cs ⟨x, b, hx, hb, h⟩ => ?_) fun _ _ _ h => h
    exact ⟨x, hx, R.sat_opt.mpr ⟨b, hb, h⟩⟩

/-! ### the wider frame: what holds of the things through a def's run -/
abbrev JT := List Addr → (Addr → Prop) → Cells → Hp → Prop
/-- what stands at an exception -/
abbrev EcA := Nat → Option (Addr × List Str)
def ExR (C : ClsA) (EC : EcA) (K : PySem.W.Frag) (M : Addr → Prop) (H : Hp) (c : Nat) (fs : List P) (cls : Value) (d : Option Addr) : Prop :=
  ∃ A ns, EC c = some (A, ns) ∧ cls = .ref A ∧ ((ns = [] ∧ fs = []) ∨ ∃ dx kvs, d = some dx ∧ H dx = some (.xd kvs) ∧ kvs.length = ns.length ∧ fs.length = ns.length ∧
    ∀ (i : Nat) (n : Str) (p : P), ns[i]? = some n → fs[i]? = some p → ∃ u, kvs.lookup n = some u ∧ RP C K M H u p)
/-- the fixed things of a frame -/
structure Fx where
  C : ClsA
  EC : EcA
  G : Glob
  call : Nat → List Arg → CR
  m : Nat
  J : JT
  st : ∀ {js js' : List Addr} {M M' : Addr → Prop} {cs cs' : Cells} {H H' : Hp}, J js M cs H → TrJ js M cs H js' M' cs' H' → J js' M' cs' H'

section
variable {C : ClsA} {K : PySem.W.Frag} {M M' : Addr → Prop} {js : List Addr} {ρ : Env} {cs cs' : Cells} {σ : St} {H H' : Hp} {a : Addr} {o : HO} {u : V} {p : P} {us : List V} {ps : List P}
abbrev No : Addr → Prop := fun _ => False
theorem RP.kept (r : RP C K M H u p) (k : Keep No H H') : RP C K M H' u p := r.mono (k.mono fun _ z => z.elim) fun _ _ z => z
theorem RPs.kept (r : RPs C K M H us ps) (k : Keep No H H') : RPs C K M H' us ps := r.mono (k.mono fun _ z => z.elim) fun _ _ z => z
theorem RV.kept {v : VP} (r : RV C K M js H u v) (k : Keep No H H') : RV C K M js H' u v := by
  cases v with
  | p x => exact RP.kept r k
  | ref n => exact r
theorem RC.kept {c : Cell} (r : RC C K M H a c) (k : Keep No H H') : RC C K M H' a c := by
  cases r with
  | lst m h q => exact .lst m (k.obj _ _ h id) (q.kept k)
  | obj m c h f q => exact .obj m c (k.obj _ _ h id) f (q.kept k)
  | lock m h q => exact .lock m (k.obj _ _ h id) (q.kept k)
  | frz q d n => exact .frz (q.kept k) (k.dom _ d) n
/-- everything tracked stays -/
theorem SR.same (s : SR C K M js ρ cs σ H) (k : Keep No H H') : SR C K M js ρ cs σ H' where
  dom := fun a m z => by
    cases e : H a with
    | none => exact s.dom a m e
    | some o => rw [k.obj _ _ e id] at z; cases z
  env := fun i v h => let ⟨u, h1, h2⟩ := s.env i v h; ⟨u, h1, h2.kept k⟩
  sl := s.sl
  len := s.len
  nd := s.nd
  cel := fun n a c h1 h2 => (s.cel n a c h1 h2).kept k
theorem Tr.same (k : Keep No H H') : Tr M js cs H M cs H' := Tr.mk (k.mono fun _ z => z.elim) (fun _ h => .inl h) (fun _ h => .inl h) fun _ h => h
/-- a new address is in nobody's M -/
theorem SR.fresh (s : SR C K M js ρ cs σ H) (h : H a = none) : ¬ M a := fun m => s.dom a m h
/-- a thing as it is seen -/
theorem SR.view (s : SR C K M js ρ cs σ H) {v : VP} {x : P} (r : RV C K M js H u v) (h : viewV cs v = some x) :
    (∃ y, v = .p y ∧ x = y ∧ RP C K M H u x) ∨ (∃ a c, u = .ref a ∧ x = Cell.view c ∧ RC C K M H a c) := by
  cases v with
  | p y => simp only [viewV, Option.some.injEq] at h; subst h; exact .inl ⟨_, rfl, rfl, r⟩
  | ref n =>
    obtain ⟨a, h1, rfl⟩ := r
    simp only [viewV, Option.map_eq_some_iff] at h
    obtain ⟨c, h2, rfl⟩ := h
    exact .inr ⟨a, c, rfl, rfl, s.cel n a c h1 h2⟩
end
/-- what is seen of a value: as RP, but a list may be one that may be changed -/
inductive RS1 (C : ClsA) (K : PySem.W.Frag) (M : Addr → Prop) (H : Hp) : V → P → Prop
  | rp {u : V} {p : P} : RP C K M H u p → RS1 C K M H u p
  | lst {a : Addr} {us : List V} {ps : List P} : H a = some (.lst us) → RPs C K M H us ps → RS1 C K M H (.ref a) (.lst ps)
  | ins {a A dx : Addr} {c : Nat} {ns : List Str} {fs : List (Str × V)} {ps : List P} : C c = some (A, ns) → H a = some (.ins A dx fs) → fs.map (·.1) = ns.take fs.length → RPs C K M H (fs.map (·.2)) ps → RS1 C K M H (.ref a) (.ins c ps)
section
variable {C : ClsA} {K : PySem.W.Frag} {M M' : Addr → Prop} {js : List Addr} {ρ : Env} {cs cs' : Cells} {σ : St} {H H' : Hp} {a : Addr} {u : V}
theorem SR.seen (s : SR C K M js ρ cs σ H) {v : VP} {x : P} (r : RV C K M js H u v) (h : viewV cs v = some x) : RS1 C K M H u x := by
  rcases s.view r h with ⟨y, _, _, q⟩ | ⟨a, c, rfl, rfl, q⟩
  · exact .rp q
  · cases q with
    | lst m h1 q => exact .lst h1 q
    | obj m c h1 f q => exact .ins c h1 f q
    | lock m h1 q => exact .lst h1 q
    | frz q d n => exact .rp q
theorem RS1.int {i : Int} (h : RS1 C K M H u (.int i)) : u = .int i := by cases h with | rp h => cases h; rfl
theorem RS1.bool {b : Bool} (h : RS1 C K M H u (.bool b)) : u = .bl b := by cases h with | rp h => cases h; rfl
theorem RS1.none (h : RS1 C K M H u .none) : u = .non := by cases h with | rp h => cases h; rfl
theorem RS1.str {t : List Nat} (h : RS1 C K M H u (.str t)) : u = .str (mkS t) ∧ PySem.PyData.strOk (mkS t) = true ∧ t.length ≤ SZ := by cases h with | rp h => cases h with | str _ h1 h2 => exact ⟨rfl, h1, h2⟩
theorem RS1.tup {xs : List P} (h : RS1 C K M H u (.tup xs)) : ∃ a us, u = .ref a ∧ SqT K H a us ∧ RPs C K M H us xs := by cases h with | rp h => cases h with | tup h1 h2 => exact ⟨_, _, rfl, h1, h2⟩
theorem RS1.list {xs : List P} (h : RS1 C K M H u (.lst xs)) : ∃ a us, u = .ref a ∧ H a = some (.lst us) ∧ RPs C K M H us xs := by
  cases h with
  | rp h => cases h with | lst h1 _ h2 => exact ⟨_, _, rfl, h1, h2⟩
  | lst h1 h2 => exact ⟨_, _, rfl, h1, h2⟩
theorem RS1.dic {ks ps : List P} (h : RS1 C K M H u (.dic ks ps)) : ∃ a kvs, u = .ref a ∧ H a = some (.dK kvs) ∧ ks.map keyP = kvs.map (fun q => some q.1) ∧ RPs C K M H (kvs.map (·.2)) ps := by cases h with | rp h => cases h with | dic h1 _ h2 h3 => exact ⟨_, _, rfl, h1, h2, h3⟩
theorem RS1.scr {ns : List Int} (h : RS1 C K M H u (.scr ns)) : ∃ a, u = .ref a ∧ Scr K H a (ns.map V.int) := by cases h with | rp h => cases h with | scr h1 => exact ⟨_, rfl, h1⟩
end

section
variable (F : Fx) (K : PySem.W.Frag) (W : WX)
def Fx.Eps (js : List Addr) (ρ : Env) (σ : St) (c : Nat) (fs : List P) (cs : Cells) : Prop :=
  ∀ cls d M H, SR F.C K M js ρ cs σ H → F.J js M cs H → ExR F.C F.EC K M H c fs cls d → W cls d σ H
/-- a reading of an expression by what the evaluator gives -/
def trG {α : Type} (f : Env → Cells → R α) (rel : (Addr → Prop) → List Addr → Hp → V → α → Prop) : TE := fun σ H Q =>
  ∃ M js ρ cs, SR F.C K M js ρ cs σ H ∧ F.J js M cs H ∧ (f ρ cs).sat (fun v cs' => ∀ u M' H', SR F.C K M' js ρ cs' σ H' → Tr M js cs H M' cs' H' → rel M' js H' u v → Q u H') (F.Eps K W js ρ σ)
def trE (e : CE) : TE := trG F K W (evE F.G F.call e) fun M js H u v => RV F.C K M js H u v
end
theorem _root_.L2.PE.imp {X : Cx} {e : Expr} {t t' : TE} (h : PE X e t) (i : ∀ σ H Q, t' σ H Q → t σ H Q) : PE X e t' := ⟨fun pins s σ H Q I q => h.run pins s σ H Q I (i _ _ _ q)⟩
theorem _root_.L2.PT.imp {X : Cx} {e : Expr} {t t' : TT} (h : PT X e t) (i : ∀ σ H Q, t' σ H Q → t σ H Q) : PT X e t' := ⟨fun pins s σ H Q I q => h.run pins s σ H Q I (i _ _ _ q)⟩
theorem _root_.L2.PA.imp {X : Cx} {e : List Expr} {t t' : TA} (h : PA X e t) (i : ∀ σ H Q, t' σ H Q → t σ H Q) : PA X e t' := ⟨fun pos pins s σ H Q I q => h.run pos pins s σ H Q I (i _ _ _ q)⟩
theorem _root_.L2.PS.imp {X : Cx} {e : Stmt} {t t' : TS} (h : PS X e t) (i : ∀ D σ H, t' D σ H → t D σ H) : PS X e t' := ⟨fun pins s σ H Q I q => h.run pins s σ H Q I (i _ _ _ q)⟩
theorem _root_.L2.PSs.imp {X : Cx} {e : List Stmt} {t t' : TS} (h : PSs X e t) (i : ∀ D σ H, t' D σ H → t D σ H) : PSs X e t' := ⟨fun pins s σ H Q I q => h.run pins s σ H Q I (i _ _ _ q)⟩

/-! ### leaves -/
section
variable {F : Fx} {W : WX} {X : Cx} {pos : Pos} {a b : Expr} {ca cb : CE}
theorem s_var {i : Nat} {x : Str} (hN : X.N[i]? = some x) (hv : Vis X.env.scope x) (hd : (x == ("__debug__" : Str)) = false) (hcd : (x == ("__classdict__" : Str)) = false) : PE X (.Name x pos) (trE F X.K W (.var i)) := by
  refine (pe_var hN hv hd hcd).imp ?_
  rintro σ H Q ⟨M, js, ρ, cs, s, j, h⟩
  simp only [evE] at h
  split at h
  · rename_i v hv
    obtain ⟨u, h1, h2⟩ := s.env i v hv
    exact ⟨u, h1, h u M H s Tr.refl h2⟩
  · exact h.elim
theorem s_int {i : Int} {j : Nat} : PE X (.Constant (.int i) j pos) (trE F X.K W (.int i)) :=
  pe_int.imp fun σ H Q ⟨M, js, ρ, cs, s, j, h⟩ => h _ M H s Tr.refl (.int i)
theorem s_bool {i : Bool} {j : Nat} : PE X (.Constant (.bool i) j pos) (trE F X.K W (.bool i)) :=
  pe_bl.imp fun σ H Q ⟨M, js, ρ, cs, s, j, h⟩ => h _ M H s Tr.refl (.bool i)
theorem s_none {j : Nat} : PE X (.Constant .none j pos) (trE F X.K W .none) :=
  pe_non.imp fun σ H Q ⟨M, js, ρ, cs, s, j, h⟩ => h _ M H s Tr.refl .none
theorem s_str {t : List Nat} {j : Nat} (h1 : PySem.PyData.strOk (mkS t) = true) (h2 : t.length ≤ SZ) : PE X (.Constant (.str (mkS t)) j pos) (trE F X.K W (.str t)) :=
  pe_str.imp fun σ H Q ⟨M, js, ρ, cs, s, j, h⟩ => h _ M H s Tr.refl (.str t h1 h2)
end
end Ev
set_option maxRecDepth 100000
set_option maxHeartbeats 1000000
/-! Ev3: operators -/
namespace Ev
open PySem L2 PyProof.Rows

/-! ### == -/
mutual
def P.toD : P → PyData
  | .none => .none | .bool b => .bool b | .int i => .int i | .str s => .str (mkS s)
  | .lst xs => .list (P.toDs xs) | .tup xs => .tuple (P.toDs xs)
  | _ => .none
def P.toDs : List P → List PyData
  | [] => []
  | x :: xs => P.toD x :: P.toDs xs
end
theorem mkS_inj {s t : List Nat} : mkS s = mkS t ↔ s = t := by
  constructor
  · intro h; injection h with h; simpa using h
  · rintro rfl; rfl
mutual
theorem eqB_eqv : ∀ (a b : P), a.dat = true → b.dat = true → PyData.eqv a.toD b.toD = a.eqB b := by
  intro a b ha hb
  cases a <;> cases b <;> simp only [P.dat, Bool.false_eq_true] at ha hb <;> simp only [P.toD, PyData.eqv, P.eqB]
  all_goals first
    | rfl
    | exact eqL_eqv _ _ ha hb
    | (rw [Bool.eq_iff_iff]; simp [mkS_inj])
theorem eqL_eqv : ∀ (a b : List P), P.datL a = true → P.datL b = true → PyData.eqvAll (P.toDs a) (P.toDs b) = P.eqL a b := by
  intro a b ha hb
  cases a <;> cases b <;> simp only [P.toDs, PyData.eqvAll, P.eqL]
  rename_i x xs y ys
  rw [P.datL, Bool.and_eq_true] at ha hb
  rw [eqB_eqv x y ha.1 hb.1, eqL_eqv xs ys ha.2 hb.2]
end
mutual
theorem dep_toD : ∀ (a : P), a.toD.depth ≤ a.dep := by
  intro a
  cases a <;> simp only [P.toD, P.dep, PyData.depth, Nat.le_refl]
  all_goals (rename_i xs; have := depL_toD xs; omega)
theorem depL_toD : ∀ (a : List P), PyData.depthAll (P.toDs a) ≤ P.depL a := by
  intro a
  cases a <;> simp only [P.toDs, P.depL, PyData.depthAll, Nat.le_refl]
  rename_i x xs
  have h1 := dep_toD x
  have h2 := depL_toD xs
  omega
end
section
variable {C : ClsA} {K : PySem.W.Frag} {M : Addr → Prop} {H : Hp}
mutual
theorem RP.dp : ∀ {v : V} {p : P}, p.dat = true → RP C K M H v p → Dp K H v p.toD ∧ p.toD.canLay0 = true
  | _, _, _, .none => ⟨.non, rfl⟩
  | _, _, _, .bool b => ⟨.bl b, rfl⟩
  | _, _, _, .int i => ⟨.int i, rfl⟩
  | _, _, _, .str s a b => ⟨.str _, by simp only [P.toD, PyData.canLay0]; exact a⟩
  | _, _, f, .tup h r => let q := RPs.dp (by simpa [P.dat] using f) r; ⟨.tup h q.1, by simp only [P.toD, PyData.canLay0]; exact q.2⟩
  | _, _, f, .lst h n r => let q := RPs.dp (by simpa [P.dat] using f) r; ⟨.lst (SqL.of h) q.1, by simp only [P.toD, PyData.canLay0]; exact q.2⟩
  | _, _, f, .ins h e n q r => by simp [P.dat] at f
  | _, _, f, .dic h n e r => by simp [P.dat] at f
  | _, _, f, .scr h => by simp [P.dat] at f
theorem RPs.dp : ∀ {vs : List V} {ps : List P}, P.datL ps = true → RPs C K M H vs ps → DpAll K H vs (P.toDs ps) ∧ PyData.canLayAll0 (P.toDs ps) = true
  | _, _, _, .nil => ⟨.nil, rfl⟩
  | _, _, f, .cons r t => by
    rw [P.datL, Bool.and_eq_true] at f
    have h1 := RP.dp f.1 r
    have h2 := RPs.dp f.2 t
    exact ⟨.cons h1.1 h2.1, by simp only [P.toDs, PyData.canLayAll0, h1.2, h2.2, Bool.and_self]⟩
end
theorem RS1.dp {v : V} {p : P} (f : p.dat = true) (h : RS1 C K M H v p) : Dp K H v p.toD ∧ p.toD.canLay0 = true := by
  cases h with
  | rp h => exact h.dp f
  | lst h r => exact let q := RPs.dp (by simpa [P.dat] using f) r; ⟨.lst (SqL.of h) q.1, by simp only [P.toD, PyData.canLay0]; exact q.2⟩
  | ins h e q r => simp [P.dat] at f
theorem shaped_of {p : P} (h : p.toD.canLay0 = true) (d : p.dep ≤ 64) : SeqAt.shaped p.toD = true := by
  unfold SeqAt.shaped
  rw [h, decide_eq_true (Nat.le_trans (dep_toD p) d)]; rfl
end

/-- an operator on values does what f says -/
def OpOk (F : Fx) (K : PySem.W.Frag) {α : Type} (f : P → P → Option α) (inj : α → P) (r : R2) : Prop :=
  ∀ M js ρ cs σ H x y z u w Q, SR F.C K M js ρ cs σ H → RS1 F.C K M H u x → RS1 F.C K M H w y → f x y = some z → (∀ u' H', Keep No H H' → RP F.C K M H' u' (inj z) → Q u' H') → r u w H Q

section
variable {F : Fx} {K : PySem.W.Frag} {W : WX} {ca cb : CE}
/-- two operands, then an operator -/
theorem imp_op2 {α : Type} {f : P → P → Option α} {inj : α → P} {r : R2} (ho : OpOk F K f inj r) {σ : L2.St} {H : Hp} {Q : VK}
    (h : trG F K W (fun ρ cs => (evE F.G F.call ca ρ cs).bind fun x cs => (evE F.G F.call cb ρ cs).bind fun y cs => op2 f x y cs) (fun M js H u z => RP F.C K M H u (inj z)) σ H Q) : tOp r (trE F K W ca) (trE F K W cb) σ H Q := by
  obtain ⟨M, js, ρ, cs, s, j, h⟩ := h
  refine ⟨M, js, ρ, cs, s, j, ?_⟩
  rw [R.sat_bind] at h
  refine h.mono (fun v cs1 h u M1 H1 s1 t1 r1 => ?_) fun _ _ _ h => h
  refine ⟨M1, js, ρ, cs1, s1, F.st j (t1.j s1), ?_⟩
  rw [R.sat_bind] at h
  refine h.mono (fun v2 cs2 h u2 M2 H2 s2 t2 r2 => ?_) fun _ _ _ h => h
  rw [sat_op2] at h
  obtain ⟨x, y, z, hx, hy, hz, h⟩ := h
  exact ho M2 js ρ cs2 σ H2 x y z u u2 Q s2 (s2.seen (s1.rv t2 r1) hx) (s2.seen r2 hy) hz fun u' H' k q => h u' M2 H' (s2.same k) (t1.trans (t2.trans (Tr.same k))) q
/-- from data to a value -/
theorem trE_of {α : Type} {e : CE} {f : Env → Cells → R α} {inj : α → P} (he : ∀ ρ cs, evE F.G F.call e ρ cs = (f ρ cs).bind fun z cs => .ok (.p (inj z)) cs) {σ : L2.St} {H : Hp} {Q : VK} (h : trE F K W e σ H Q) :
    trG F K W f (fun M js H u z => RP F.C K M H u (inj z)) σ H Q := by
  obtain ⟨M, js, ρ, cs, s, j, h⟩ := h
  rw [he, R.sat_bind] at h
  exact ⟨M, js, ρ, cs, s, j, h.mono (fun z cs' h => h) fun _ _ _ h => h⟩
end
section
variable {F : Fx} {W : WX} {X : Cx} {pos : Pos} {a b : Expr} {ca cb : CE}
theorem mulOk.ok {i j : Int} (h : mulOk i j) : IntMulOk i j := by
  rcases h with ⟨h1, h2⟩ | ⟨h1, h2⟩ | h
  · exact .of_left (intBits_le_64 h1 h2)
  · exact .of_right (intBits_le_64 h1 h2)
  · have b : ∀ x : Int, Builtin.Int.intBits x ≤ x.natAbs.log2 + 1 := fun x => by
      unfold Builtin.Int.intBits
      split <;> omega
    have h1 := b i
    have h2 := b j
    have e : bitsLine = 134217728 := by decide
    unfold IntMulOk
    intro z
    rw [Bool.and_eq_true] at z
    have z2 := z.2
    unfold Builtin.Int.intTooBig at z2
    have z3 := of_decide_eq_true z2
    rw [e] at z3
    omega
theorem op_mulA : OpR X (binaryOp .Mult) (rI mulOk fun i j => .int (i * j)) := opI fun _ _ _ _ _ _ _ hc q => mul_int q hc.ok
theorem op_fdivA : OpR X (binaryOp .FloorDiv) (rI (fun _ j => divOk j) fun i j => .int (i.fdiv j)) := opI fun _ _ _ _ _ _ _ hc q => floordiv_int hc.1 q (.inl (PyProof.noPylong_of_log2 (PySem.Flt.log2_lt_of (by decide) hc.2)))
/-! a tuple, repeated once -/
theorem tuple_mul1W (l : Addr) (items : Array Value) (n : Nat) (dd : Option Addr) (sl : Array (Option Value)) (x : Int) (u : Tok) (c0 : (decide (x < -(2 ^ 63)) || decide (x ≥ 2 ^ 63)) = false) (c1 : (items.isEmpty || x == 1) = true) :
    Meets (Builtin.«tuple.__mul__» ⟨[.ref l, .int x u], []⟩) (fun _ R s => s.heap.get? l = some { cls := .type "tuple", dict := dd, data := .seq items n, slots := sl } ∧
      R (.ok (.ret (Value.ref l))) s) :=
  .of_wp fun prog w A R s h => by
    obtain ⟨hp, g, d, tk, os⟩ := s
    obtain ⟨hl, h⟩ := h
    have f1 := AutoSeq1.idx_int
    wp_walk using wpAny_loadPart' hl
    repeat (first
      | (refine wpAny_ite_false (decide_eq_false (by rw [c0]; exact Bool.false_ne_true)) ?_; wp_walk using wpAny_loadPart' hl)
      | (refine wpAny_ite_true (decide_eq_true (by rw [c1])) ?_; wp_walk using wpAny_loadPart' hl))
    exact ⟨_, rfl, h⟩
def rRep1 (K : PySem.W.Frag) : R2 := fun x y H Q => ∃ l xs, x = .ref l ∧ y = .int 1 ∧ SqT K H l xs ∧ Q (.ref l) H
theorem op_rep1 : OpR X (binaryOp .Mult) (rRep1 X.K) := by
  intro pins s σ H x y v u Q I rx ry h
  obtain ⟨l, xs, rfl, rfl, hT, q⟩ := h
  cases rx
  obtain ⟨t, rfl⟩ := ry
  obtain ⟨its, r, ⟨⟨cls, dd, data, sl⟩, ho, hc, n, hd⟩, hs⟩ := I.tuple hT
  simp only at hc hd
  subst hc hd
  refine wpAny_binaryOp_repeat_ref (T := "tuple") (U := "int") (by decide) ⟨_, ho, rfl⟩ (fun s' => typeIs_int s' 1 t) noFill_tuple_mul F.fills_int_mul F.slot_int_rmul repeat_tuple F.slot_int_index.lookup
    (call_meets F.slot_int_rmul (typeIs_int s 1 t) F.entry_int_rmul (F.args_int_rmul_2 _ _) (int_rmul_tuple 1 t l its.toArray n dd sl)
      ⟨ho, rfl, ⟨_, ho, rfl⟩, call_meets F.slot_tuple_mul ⟨_, ho, rfl⟩ F.entry_tuple_mul (F.args_tuple_mul_2 _ _) (tuple_mul1W l its.toArray n dd sl 1 t (by decide) (by cases its.toArray.isEmpty <;> rfl)) ⟨ho, ?_⟩⟩)
  exact ⟨.ref l, H, I, rfl, q⟩
def opOf : BOp → Operator
  | .add => .Add | .sub => .Sub | .mul => .Mult | .fdiv => .FloorDiv | .mod => .Mod | .pow => .Pow
def rBin (K : PySem.W.Frag) : BOp → R2
  | .add => fun x y H Q => (rI0 fun i j => .int (i + j)) x y H Q ∨ ((fun x y H Q => ∃ i j, x = .str i ∧ y = .str j ∧ i.length + j.length ≤ sizeLine ∧ Q (.str (i ++ j)) H) : R2) x y H Q ∨ rCatA K x y H Q ∨ rCat x y H Q
  | .sub => rI0 fun i j => .int (i - j)
  | .mul => fun x y H Q => (rI mulOk fun i j => .int (i * j)) x y H Q ∨ rRep x y H Q ∨ rRepT K x y H Q ∨ rRep1 K x y H Q
  | .fdiv => rI (fun _ j => divOk j) fun i j => .int (i.fdiv j)
  | .mod => rI (fun _ j => j ≠ 0) fun i j => .int (i.fmod j)
  | .pow => rI CPow fun i j => .int (i ^ j.toNat)
theorem bin_ok (o : BOp) : OpR X (binaryOp (opOf o)) (rBin X.K o) := by
  cases o with
  | add => exact op_add.or (op_add_str.or (op_catA.or op_cat))
  | sub => exact op_sub
  | mul => exact op_mulA.or (op_rep.or (op_repT.or op_rep1))
  | fdiv => exact op_fdivA
  | mod => exact op_modN
  | pow => exact op_pow
end
theorem RPs.rep {C : ClsA} {K : PySem.W.Frag} {M : Addr → Prop} {H : Hp} {us : List V} {ps : List P} (h : RPs C K M H us ps) : ∀ n : Nat, RPs C K M H (List.replicate n us).flatten (List.replicate n ps).flatten
  | 0 => .nil
  | n + 1 => by simp only [List.replicate_succ, List.flatten_cons]; exact h.append (RPs.rep h n)
theorem mkS_append (s t : List Nat) : mkS s ++ mkS t = mkS (s ++ t) := by
  show Str.mk _ = _
  simp
theorem strOk_iff (s : List Nat) : PySem.PyData.strOk (mkS s) = s.all (fun c => decide (c < 0x110000)) := by
  unfold PySem.PyData.strOk
  simp [mkS]
theorem strOk_append {s t : List Nat} (h1 : PySem.PyData.strOk (mkS s) = true) (h2 : PySem.PyData.strOk (mkS t) = true) : PySem.PyData.strOk (mkS (s ++ t)) = true := by
  rw [strOk_iff] at *
  rw [List.all_append, h1, h2]; rfl
theorem binP_ok (F : Fx) (K : PySem.W.Frag) (o : BOp) : OpOk F K (binP o) id (rBin K o) := by
  intro M js ρ cs σ H x y z u w Q s hx hy hz q
  have szl : (sizeLine : Nat) = SZ := sizeLine_eq
  unfold binP at hz
  split at hz
  · cases hz; exact .inl ⟨_, _, hx.int, hy.int, q _ _ Keep.refl (.int _)⟩
  · cases hz; exact ⟨_, _, hx.int, hy.int, q _ _ Keep.refl (.int _)⟩
  · split at hz
    · cases hz; exact .inl ⟨_, _, hx.int, hy.int, of_decide_eq_true (by assumption), q _ _ Keep.refl (.int _)⟩
    · cases hz
  · split at hz
    · cases hz; exact ⟨_, _, hx.int, hy.int, of_decide_eq_true (by assumption), q _ _ Keep.refl (.int _)⟩
    · cases hz
  · split at hz
    · cases hz; exact ⟨_, _, hx.int, hy.int, of_decide_eq_true (by assumption), q _ _ Keep.refl (.int _)⟩
    · cases hz
  · split at hz
    · rename_i hc; cases hz; exact ⟨_, _, hx.int, hy.int, of_decide_eq_true (p := powOk _ _) hc, q _ _ Keep.refl (.int _)⟩
    · cases hz
  · split at hz
    · rename_i hc
      cases hz
      obtain ⟨rfl, h1, h2⟩ := hx.str
      obtain ⟨rfl, h3, h4⟩ := hy.str
      refine .inr (.inl ⟨_, _, rfl, rfl, ?_, ?_⟩)
      · rw [szl]; simpa [Str.length] using hc
      · rw [mkS_append]
        exact q _ _ Keep.refl (.str _ (strOk_append h1 h3) (by simpa using hc))
    · cases hz
  · split at hz
    · rename_i hc
      cases hz
      obtain ⟨a, us, rfl, h1, h2⟩ := hx.tup
      obtain ⟨b, ws, rfl, h3, h4⟩ := hy.tup
      refine .inr (.inr (.inl ⟨a, b, us, ws, rfl, rfl, h1, h3, by rw [szl, h2.length, h4.length]; exact hc, fun e => ?_, fun e1 e2 => ?_, fun e1 e2 p hp => ?_⟩))
      · have := h2.nil_iff.mp e; subst this
        exact q _ _ Keep.refl (.tup h3 h4)
      · have := h4.nil_iff.mp e2; subst this
        refine q _ _ Keep.refl ?_
        simp only [id, List.append_nil]
        exact .tup h1 h2
      · have k : Keep No H (upd H p (.tup (us ++ ws))) := Keep.new hp
        exact q _ _ k (.tup (SqT.of upd_same) ((h2.append h4).kept k))
    · cases hz
  · split at hz
    · rename_i hc
      cases hz
      obtain ⟨a, us, rfl, h1, h2⟩ := hx.list
      obtain ⟨b, ws, rfl, h3, h4⟩ := hy.list
      refine .inr (.inr (.inr ⟨a, b, us, ws, rfl, rfl, h1, h3, by rw [szl, h2.length, h4.length]; exact hc, fun p hp => ?_⟩))
      have k : Keep No H (upd H p (.lst (us ++ ws))) := Keep.new hp
      exact q _ _ k (.lst upd_same (s.fresh hp) ((h2.append h4).kept k))
    · cases hz
  · split at hz
    · rename_i hc
      cases hz
      obtain ⟨a, us, rfl, h1, h2⟩ := hx.list
      have e := hy.int
      subst e
      refine .inr (.inl ⟨a, _, us, rfl, rfl, h1, hc.1, hc.2.1, by rw [szl, h2.length]; exact hc.2.2, fun p hp => ?_⟩)
      exact q _ _ (Keep.new hp) (.lst upd_same (s.fresh hp) ((h2.rep _).kept (Keep.new hp)))
    · cases hz
  · split at hz
    · rename_i hc
      cases hz
      obtain ⟨a, us, rfl, h1, h2⟩ := hx.tup
      have e := hy.int
      subst e
      have hne : us ≠ [] := fun e => by
        have := h2.nil_iff.mp e
        subst this
        simp at hc
      rename_i xs k
      by_cases hk : k = 1
      · subst hk
        refine .inr (.inr (.inr ⟨a, us, rfl, rfl, h1, ?_⟩))
        have e : rep xs 1 = xs := by simp [rep]
        rw [e] at q
        exact q _ _ Keep.refl (.tup h1 h2)
      · refine .inr (.inr (.inl ⟨a, k, us, rfl, rfl, h1, hne, by omega, hc.2.2.1, by rw [h2.length]; exact hc.2.2.2, fun p hp => ?_⟩))
        exact q _ _ (Keep.new hp) (.tup (SqT.of upd_same) ((h2.rep _).kept (Keep.new hp)))
    · cases hz
  · cases hz
section
variable {F : Fx} {W : WX} {X : Cx} {pos : Pos} {a b : Expr} {ca cb : CE}
theorem s_bin {o : BOp} (ha : PE X a (trE F X.K W ca)) (hb : PE X b (trE F X.K W cb)) : PE X (.BinOp a (opOf o) b pos) (trE F X.K W (.bin o ca cb)) :=
  (pe_op (bin_ok o) ha hb).imp fun _ _ _ h => imp_op2 (binP_ok F X.K o) (trE_of (inj := id) (fun ρ cs => by simp only [evE, R.bind_assoc, id]) h)
end

/-! ### comparisons -/
theorem lexLt_eq : ∀ s t : List Nat, lexLt s t = decide (s < t)
  | [], [] => by simp [lexLt]
  | _ :: _, [] => by simp [lexLt]
  | [], _ :: _ => by simp [lexLt]
  | x :: xs, y :: ys => by
    rw [lexLt, lexLt_eq xs ys]
    by_cases h : x < y
    · simp [h, List.cons_lt_cons_iff]
    · by_cases e : x = y
      · subst e; simp [List.cons_lt_cons_iff]
      · simp [h, e, List.cons_lt_cons_iff]
def copOf : COp → CmpOp
  | .eq => .Eq | .ne => .NotEq | .lt => .Lt | .le => .LtE | .gt => .Gt | .ge => .GtE | .isx => .Is | .isn => .IsNot | .inn => .In | .nin => .NotIn
section
variable {X : Cx}
def rCmp (K : PySem.W.Frag) : COp → R2
  | .eq => rEqD K
  | .ne => rNeD K
  | .lt => fun x y H Q => (rI0 fun i j => .bl (decide (i < j))) x y H Q ∨ ((fun x y H Q => ∃ i j, x = .str i ∧ y = .str j ∧ Q (.bl (decide (i.cps.toList < j.cps.toList))) H) : R2) x y H Q
  | .le => rI0 fun i j => .bl (decide (i ≤ j))
  | .gt => rI0 fun i j => .bl (decide (j < i))
  | .ge => rI0 fun i j => .bl (decide (j ≤ i))
  | .isx => fun x y H Q => y = .non ∧ Q (.bl (decide (x = .non))) H
  | .isn => fun x y H Q => y = .non ∧ Q (.bl (!decide (x = .non))) H
  | .inn => fun x y H Q => ((fun x y H Q => ∃ (c : Nat) (z : Str), x = .str ⟨#[c]⟩ ∧ y = .str z ∧ Q (.bl (decide (c ∈ z.cps.toList))) H) : R2) x y H Q ∨ rInD K x y H Q ∨ rIn K false x y H Q
  | .nin => fun x y H Q => ((fun x y H Q => ∃ (c : Nat) (z : Str), x = .str ⟨#[c]⟩ ∧ y = .str z ∧ Q (.bl (!decide (c ∈ z.cps.toList))) H) : R2) x y H Q ∨ rNotInD K x y H Q ∨ rIn K true x y H Q
theorem cmp_ok (o : COp) (hu : X.A.units + 65 < cLine) : OpR X (compareOp (copOf o)) (rCmp X.K o) := by
  have hu4 : X.A.units + 64 < cLine := by omega
  cases o with
  | eq => exact op_eqD hu4
  | ne => exact op_neD hu4
  | lt => exact op_lt.or op_lt_str
  | le => exact op_le
  | gt => exact op_gt
  | ge => exact op_ge
  | isx => exact op_isN
  | isn => exact op_notN
  | inn => exact op_in_sign.or ((op_inD hu).or op_in_seq)
  | nin => exact op_notIn_sign.or ((op_notInD hu).or op_notIn_seq)
end
theorem RS1.isN {C : ClsA} {K : PySem.W.Frag} {M : Addr → Prop} {H : Hp} {u : V} {p : P} (h : RS1 C K M H u p) : decide (u = V.non) = p.isN := by
  cases h with
  | rp h => cases h <;> rfl
  | lst h r => rfl
  | ins h e q r => rfl
theorem inL_any (x : P) : ∀ ys : List P, x.dat = true → P.datL ys = true → inL x ys = (P.toDs ys).any fun z => PyData.eqv z x.toD
  | [], _, _ => rfl
  | y :: ys, hx, hy => by
    rw [P.datL, Bool.and_eq_true] at hy
    rw [inL, inL_any x ys hx hy.2, P.toDs, List.any_cons, eqB_eqv y x hy.1 hx]
theorem sc_V {C : ClsA} {K : PySem.W.Frag} {M : Addr → Prop} {H : Hp} {u v : V} {x y : P} (hx : RP C K M H u x) (hy : RP C K M H v y) (sx : x.sc = true) (sy : y.sc = true) : flatV u = true ∧ eqV v u = y.eqB x := by
  cases hx <;> simp only [P.sc, Bool.false_eq_true] at sx <;> cases hy <;> simp only [P.sc, Bool.false_eq_true] at sy <;> refine ⟨rfl, ?_⟩ <;> simp only [eqV, P.eqB]
  all_goals first
    | rfl
    | (rw [Bool.eq_iff_iff]; simp [mkS_inj])
theorem inL_V {C : ClsA} {K : PySem.W.Frag} {M : Addr → Prop} {H : Hp} {u : V} {x : P} (hx : RP C K M H u x) (sx : x.sc = true) : ∀ {us : List V} {ys : List P}, RPs C K M H us ys → ys.all P.sc = true → us.all flatV = true ∧ inV u us = inL x ys
  | _, _, .nil, _ => ⟨rfl, rfl⟩
  | _, _, .cons r t, f => by
    rw [List.all_cons, Bool.and_eq_true] at f
    obtain ⟨h1, h2⟩ := inL_V hx sx t f.2
    obtain ⟨h3, h4⟩ := sc_V hx r sx f.1
    have h5 := (sc_V r r f.1 f.1).1
    refine ⟨by rw [List.all_cons, h5, h1]; rfl, ?_⟩
    rw [inL, ← h2, ← h4]
    rfl
theorem eqOk_iff {a b : P} (h : eqOk a b = true) : a.dat = true ∧ b.dat = true ∧ a.dep ≤ 64 ∧ b.dep ≤ 64 := by
  unfold eqOk at h
  simp only [Bool.and_eq_true, decide_eq_true_eq] at h
  exact ⟨h.1.1.1, h.1.1.2, h.1.2, h.2⟩
theorem sc_rs {C : ClsA} {K : PySem.W.Frag} {M : Addr → Prop} {H : Hp} {u : V} {x : P} (h : RS1 C K M H u x) (sx : x.sc = true) : RP C K M H u x := by
  cases h with
  | rp h => exact h
  | lst h r => cases sx
  | ins h e q r => cases sx
theorem cmpP_ok (F : Fx) (K : PySem.W.Frag) (o : COp) : OpOk F K (cmpP o) P.bool (rCmp K o) := by
  intro M js ρ cs σ H x y z u w Q s hx hy hz q
  have fin : ∀ {b c : Bool}, Q (.bl b) H → b = c → Q (.bl c) H := fun h e => e ▸ h
  unfold cmpP at hz
  split at hz
  · split at hz
    · rename_i hc
      cases hz
      obtain ⟨d1, d2, p1, p2⟩ := eqOk_iff hc
      obtain ⟨g1, c1⟩ := hx.dp d1
      obtain ⟨g2, c2⟩ := hy.dp d2
      exact ⟨_, _, g1, g2, shaped_of c1 p1, shaped_of c2 p2, by rw [eqB_eqv _ _ d1 d2]; exact q _ _ Keep.refl (.bool _)⟩
    · cases hz
  · split at hz
    · rename_i hc
      cases hz
      obtain ⟨d1, d2, p1, p2⟩ := eqOk_iff hc
      obtain ⟨g1, c1⟩ := hx.dp d1
      obtain ⟨g2, c2⟩ := hy.dp d2
      exact ⟨_, _, g1, g2, shaped_of c1 p1, shaped_of c2 p2, by rw [eqB_eqv _ _ d1 d2]; exact q _ _ Keep.refl (.bool _)⟩
    · cases hz
  · cases hz; exact .inl ⟨_, _, hx.int, hy.int, q _ _ Keep.refl (.bool _)⟩
  · cases hz; exact ⟨_, _, hx.int, hy.int, q _ _ Keep.refl (.bool _)⟩
  · cases hz; exact ⟨_, _, hx.int, hy.int, q _ _ Keep.refl (.bool _)⟩
  · cases hz; exact ⟨_, _, hx.int, hy.int, q _ _ Keep.refl (.bool _)⟩
  · cases hz
    refine .inr ⟨_, _, hx.str.1, hy.str.1, ?_⟩
    have := lexLt_eq
    exact fin (q _ _ Keep.refl (.bool _)) (by rw [lexLt_eq])
  · cases hz; exact ⟨hy.none, fin (q _ _ Keep.refl (.bool _)) hx.isN.symm⟩
  · cases hz
    exact ⟨hy.none, fin (q _ _ Keep.refl (.bool _)) (by rw [hx.isN])⟩
  · cases hz; exact .inl ⟨_, _, hx.str.1, hy.str.1, q _ _ Keep.refl (.bool _)⟩
  · cases hz; exact .inl ⟨_, _, hx.str.1, hy.str.1, q _ _ Keep.refl (.bool _)⟩
  · split at hz
    · rename_i hc
      cases hz
      obtain ⟨d1, d2, p1, p2⟩ := eqOk_iff hc
      obtain ⟨g1, c1⟩ := hx.dp d1
      obtain ⟨g2, c2⟩ := hy.dp d2
      refine .inr (.inl ⟨_, _, g1, g2, shaped_of c1 p1, shaped_of c2 p2, fin (q _ _ Keep.refl (.bool _)) ?_⟩)
      exact inL_any _ _ d1 (by simpa [P.dat] using d2)
    · cases hz
  · split at hz
    · rename_i hc
      cases hz
      obtain ⟨d1, d2, p1, p2⟩ := eqOk_iff hc
      obtain ⟨g1, c1⟩ := hx.dp d1
      obtain ⟨g2, c2⟩ := hy.dp d2
      refine .inr (.inl ⟨_, _, g1, g2, shaped_of c1 p1, shaped_of c2 p2, fin (q _ _ Keep.refl (.bool _)) ?_⟩)
      rw [inL_any _ _ d1 (by simpa [P.dat] using d2)]
    · cases hz
  · split at hz
    · rename_i hc
      cases hz
      rw [Bool.and_eq_true] at hc
      obtain ⟨a, us, rfl, h1, h2⟩ := hy.tup
      have hx' := sc_rs hx hc.1
      obtain ⟨h3, h4⟩ := inL_V hx' hc.1 h2 hc.2
      refine .inr (.inr ⟨a, us, rfl, .inr h1, (sc_V hx' hx' hc.1 hc.1).1, h3, ?_⟩)
      rw [if_neg Bool.false_ne_true, h4]
      exact q _ _ Keep.refl (.bool _)
    · cases hz
  · split at hz
    · rename_i hc
      cases hz
      rw [Bool.and_eq_true] at hc
      obtain ⟨a, us, rfl, h1, h2⟩ := hy.tup
      have hx' := sc_rs hx hc.1
      obtain ⟨h3, h4⟩ := inL_V hx' hc.1 h2 hc.2
      refine .inr (.inr ⟨a, us, rfl, .inr h1, (sc_V hx' hx' hc.1 hc.1).1, h3, ?_⟩)
      rw [if_pos rfl, h4]
      exact q _ _ Keep.refl (.bool _)
    · cases hz
  · cases hz
end Ev
set_option maxRecDepth 100000
set_option maxHeartbeats 1000000
/-! Ev4: tests, places, displays -/
namespace Ev
open PySem L2 PyProof.Rows

/-! ### tests -/
section
variable (F : Fx) (K : PySem.W.Frag) (W : WX)
def trF (f : Env → Cells → R Bool) : TT := fun σ H Q =>
  ∃ M js ρ cs, SR F.C K M js ρ cs σ H ∧ F.J js M cs H ∧ (f ρ cs).sat (fun b cs' => ∀ M' H', SR F.C K M' js ρ cs' σ H' → Tr M js cs H M' cs' H' → Q b H') (F.Eps K W js ρ σ)
def trT (e : CE) : TT := trF F K W fun ρ cs => tv (evE F.G F.call e ρ cs)
abbrev trB (f : Env → Cells → R Bool) : TE := trG F K W f fun M js H u z => RP F.C K M H u (.bool z)
end
section
variable {F : Fx} {K : PySem.W.Frag} {W : WX} {X : Cx} {pos : Pos} {a b c e : Expr} {ca cb cc ce : CE}
theorem tv_bool {r : R Bool} : tv (r.bind fun z cs => .ok (.p (.bool z)) cs) = r := by
  cases r <;> rfl
/-- a test of an expression that gives a bool -/
theorem test_of {f : Env → Cells → R Bool} {σ : L2.St} {H : Hp} {Q : Bool → Hp → Prop} (h : trF F K W f σ H Q) : tTest (trB F K W f) σ H Q := by
  obtain ⟨M, js, ρ, cs, s, j, h⟩ := h
  refine ⟨M, js, ρ, cs, s, j, h.mono (fun z cs' h u M' H' s' t r => ?_) fun _ _ _ h => h⟩
  cases r
  exact ⟨z, rfl, h M' H' s' t⟩
theorem trT_of {f : Env → Cells → R Bool} (he : ∀ ρ cs, evE F.G F.call ce ρ cs = (f ρ cs).bind fun z cs => .ok (.p (.bool z)) cs) {σ : L2.St} {H : Hp} {Q : Bool → Hp → Prop} (h : trT F K W ce σ H Q) : trF F K W f σ H Q := by
  obtain ⟨M, js, ρ, cs, s, j, h⟩ := h
  dsimp only at h
  rw [he, tv_bool] at h
  exact ⟨M, js, ρ, cs, s, j, h⟩
theorem evE_cmp {o : COp} {ρ : Env} {cs : Cells} : evE F.G F.call (.cmp o ca cb) ρ cs = ((evE F.G F.call ca ρ cs).bind fun x cs => (evE F.G F.call cb ρ cs).bind fun y cs => op2 (cmpP o) x y cs).bind fun z cs => .ok (.p (.bool z)) cs := by
  simp only [evE, R.bind_assoc]
theorem noBehind {op : CmpOp} {b : Expr} (h : notSet b = true) : behindInMarks op b = false := by cases b <;> first | rfl | cases h
theorem s_cmp {o : COp} (hu : X.A.units + 65 < cLine) (ha : PE X a (trE F X.K W ca)) (hb : PE X b (trE F X.K W cb)) (hm : notSet b = true) : PE X (.Compare a [copOf o] [b] pos) (trE F X.K W (.cmp o ca cb)) :=
  (pe_cmpR (cmp_ok o hu) ha hb (noBehind hm)).imp fun _ _ _ h => imp_op2 (cmpP_ok F X.K o) (trE_of (inj := P.bool) (fun ρ cs => evE_cmp) h)
theorem imp_op2T {f : P → P → Option Bool} {r : R2} (ho : OpOk F K f P.bool r) {σ : L2.St} {H : Hp} {Q : Bool → Hp → Prop}
    (h : trF F K W (fun ρ cs => (evE F.G F.call ca ρ cs).bind fun x cs => (evE F.G F.call cb ρ cs).bind fun y cs => op2 f x y cs) σ H Q) : tTest (tOp r (trE F K W ca) (trE F K W cb)) σ H Q :=
  imp_op2 ho (test_of h)
theorem s_cmpT {o : COp} (hu : X.A.units + 65 < cLine) (ha : PE X a (trE F X.K W ca)) (hb : PE X b (trE F X.K W cb)) (hm : notSet b = true) : PT X (.Compare a [copOf o] [b] pos) (trT F X.K W (.cmp o ca cb)) :=
  (pt_cmpR (cmp_ok o hu) ha hb (noBehind hm)).imp fun _ _ _ h => imp_op2T (cmpP_ok F X.K o) (trT_of (fun ρ cs => evE_cmp) h)

/-! a op b op' c -/
def chainF (F : Fx) (o o' : COp) (ca cb cc : CE) (ρ : Env) (cs : Cells) : R Bool := (evE F.G F.call ca ρ cs).bind fun x cs => (evE F.G F.call cb ρ cs).bind fun y cs => (op2 (cmpP o) x y cs).bind fun z cs =>
      if z then (evE F.G F.call cc ρ cs).bind fun w cs => op2 (cmpP o') y w cs else .ok false cs
theorem evE_chain {o o' : COp} {ρ : Env} {cs : Cells} : evE F.G F.call (.chain o o' ca cb cc) ρ cs = (chainF F o o' ca cb cc ρ cs).bind fun z cs => .ok (.p (.bool z)) cs := by
  simp only [evE, chainF, R.bind_assoc]
  congr 1; funext x cs; congr 1; funext y cs; congr 1; funext z cs
  rw [R.ite_bind, R.bind_assoc, R.ok_bind]
theorem imp_chain {o o' : COp} {σ : L2.St} {H : Hp} {Q : VK} (h : trB F K W (chainF F o o' ca cb cc) σ H Q) : tChain (rCmp K o) (rCmp K o') (trE F K W ca) (trE F K W cb) (trE F K W cc) σ H Q := by
  obtain ⟨M, js, ρ, cs, s, j, h⟩ := h
  refine ⟨M, js, ρ, cs, s, j, ?_⟩
  unfold chainF at h
  rw [R.sat_bind] at h
  refine h.mono (fun v cs1 h u M1 H1 s1 t1 r1 => ?_) fun _ _ _ h => h
  refine ⟨M1, js, ρ, cs1, s1, F.st j (t1.j s1), ?_⟩
  rw [R.sat_bind] at h
  refine h.mono (fun v2 cs2 h u2 M2 H2 s2 t2 r2 => ?_) fun _ _ _ h => h
  rw [R.sat_bind, sat_op2] at h
  obtain ⟨x, y, z, hx, hy, hz, h⟩ := h
  refine cmpP_ok F K o M2 js ρ cs2 σ H2 x y z u u2 _ s2 (s2.seen (s1.rv t2 r1) hx) (s2.seen r2 hy) hz fun u' H' k q => ?_
  cases q
  refine ⟨z, rfl, ?_⟩
  have s3 := s2.same k
  have t3 := t1.trans (t2.trans (Tr.same k))
  cases z with
  | false => rw [if_neg Bool.false_ne_true]; exact h _ M2 H' s3 t3 (.bool _)
  | true =>
    rw [if_pos rfl]
    rw [if_pos rfl, R.sat_bind] at h
    refine ⟨M2, js, ρ, cs2, s3, F.st j (t3.j s3), ?_⟩
    refine h.mono (fun v4 cs4 h u4 M4 H4 s4 t4 r4 => ?_) fun _ _ _ h => h
    rw [sat_op2] at h
    obtain ⟨y', w, z', hy', hw, hz', h⟩ := h
    exact cmpP_ok F K o' M4 js ρ cs4 σ H4 y' w z' u2 u4 _ s4 (s4.seen (s3.rv t4 (r2.kept k)) hy') (s4.seen r4 hw) hz' fun u' H5 k5 q => h u' M4 H5 (s4.same k5) (t3.trans (t4.trans (Tr.same k5))) q
theorem noMarks {o o' : CmpOp} {b c : Expr} (h : notSet c = true) : lastMarks [o, o'] [b, c] = false := noBehind h
theorem s_chain {o o' : COp} (hu : X.A.units + 65 < cLine) (ha : PE X a (trE F X.K W ca)) (hb : PE X b (trE F X.K W cb)) (hc : PE X c (trE F X.K W cc)) (hm : notSet c = true) : PE X (.Compare a [copOf o, copOf o'] [b, c] pos) (trE F X.K W (.chain o o' ca cb cc)) :=
  (pe_chain (cmp_ok o hu) (cmp_ok o' hu) ha hb hc (noMarks hm)).imp fun _ _ _ h => imp_chain (trE_of (inj := P.bool) (fun ρ cs => evE_chain) h)
theorem s_chainT {o o' : COp} (hu : X.A.units + 65 < cLine) (ha : PE X a (trE F X.K W ca)) (hb : PE X b (trE F X.K W cb)) (hc : PE X c (trE F X.K W cc)) (hm : notSet c = true) : PT X (.Compare a [copOf o, copOf o'] [b, c] pos) (trT F X.K W (.chain o o' ca cb cc)) :=
  (pt_chain (cmp_ok o hu) (cmp_ok o' hu) ha hb hc (noMarks hm)).imp fun _ _ _ h => imp_chain (test_of (trT_of (fun ρ cs => evE_chain) h))

/-! ### truth -/
theorem RS1.tru {C : ClsA} {M : Addr → Prop} {H : Hp} {u : V} {x : P} {k : Bool} (h : RS1 C K M H u x) (e : truP x = some k) : TruV K u H k := by
  cases x <;> simp only [truP, Option.some.injEq, reduceCtorEq] at e
  · rw [h.none, ← e]; exact rfl
  · rw [h.bool, ← e]; exact rfl
  · rw [h.int, ← e]; exact rfl
  · rename_i t
    obtain ⟨rfl, _, hl⟩ := h.str
    refine ⟨by rw [sizeLine_eq]; simpa [Str.length] using hl, ?_⟩
    rw [← e]
    cases t <;> simp [Str.length] <;> omega
  · obtain ⟨a, us, rfl, h1, h2⟩ := h.tup
    refine .inr (.inl ⟨us, h1, ?_⟩)
    rw [← e]
    cases h2 <;> rfl
  · obtain ⟨a, us, rfl, h1, h2⟩ := h.list
    refine .inl ⟨us, SqL.of h1, ?_⟩
    rw [← e]
    cases h2 <;> rfl
theorem plain_truth {env : PySem.Env} (hp : plainT a = true) : ∀ whole, isTrue a env whole = (do let v ← whole; standAt a.pos; holding [v] (truthy v)) := by
  intro whole
  cases a with
  | UnaryOp op x pos => cases op <;> first | rfl | cases hp
  | _ => first | rfl | cases hp
/-- an expression whose test is its value's truth -/
theorem s_truth (ha : PE X a (trE F X.K W ca)) (hp : plainT a = true) : PT X a (trT F X.K W ca) := by
  refine (pt_truth ha (plain_truth hp)).imp fun σ H Q h => ?_
  obtain ⟨M, js, ρ, cs, s, j, h⟩ := h
  refine ⟨M, js, ρ, cs, s, j, ?_⟩
  dsimp only at h
  rw [sat_tv] at h
  refine h.mono (fun v cs1 h u M1 H1 s1 t1 r1 => ?_) fun _ _ _ h => h
  obtain ⟨x, k, hx, hk, h⟩ := h
  exact ⟨k, (s1.seen r1 hx).tru hk, h M1 H1 s1 t1⟩
theorem s_not (ha : PE X a (trE F X.K W ca)) : PE X (.UnaryOp .Not a pos) (trE F X.K W (.not ca)) := by
  refine (pe_notT ha).imp fun σ H Q h => ?_
  obtain ⟨M, js, ρ, cs, s, j, h⟩ := h
  refine ⟨M, js, ρ, cs, s, j, ?_⟩
  simp only [evE] at h
  rw [R.sat_bind, sat_tv] at h
  refine h.mono (fun v cs1 h u M1 H1 s1 t1 r1 => ?_) fun _ _ _ h => h
  obtain ⟨x, k, hx, hk, h⟩ := h
  exact ⟨k, (s1.seen r1 hx).tru hk, h _ M1 H1 s1 t1 (.bool _)⟩
theorem s_notT (ha : PT X a (trT F X.K W ca)) : PT X (.UnaryOp .Not a pos) (trT F X.K W (.not ca)) := by
  refine (pt_not ha).imp fun σ H Q h => ?_
  obtain ⟨M, js, ρ, cs, s, j, h⟩ := h
  refine ⟨M, js, ρ, cs, s, j, ?_⟩
  have e : tv (evE F.G F.call (.not ca) ρ cs) = (tv (evE F.G F.call ca ρ cs)).bind fun b cs => .ok (!b) cs := by
    simp only [evE]
    cases tv (evE F.G F.call ca ρ cs) <;> rfl
  dsimp only at h
  rw [e, R.sat_bind] at h
  exact h
/-! ### and, or -/
theorem s_bop1 {k : Bool} {op : BoolOp} (ha : PE X a (trE F X.K W ca)) : PE X (.BoolOp op [a] pos) (trE F X.K W (.bop k (.cons ca .nil))) := by
  refine (pe_one ha).imp fun σ H Q h => ?_
  obtain ⟨M, js, ρ, cs, s, j, h⟩ := h
  refine ⟨M, js, ρ, cs, s, j, ?_⟩
  have e : evE F.G F.call (.bop k (.cons ca .nil)) ρ cs = evE F.G F.call ca ρ cs := by
    simp only [evE, evBo]
    cases evE F.G F.call ca ρ cs <;> rfl
  dsimp only at h
  rw [e] at h
  exact h
theorem evBo_cons {k : Bool} {d : CE} {es : CEs} {ρ : Env} {cs : Cells} : evBo F.G F.call k (.cons ca (.cons d es)) ρ cs = (evE F.G F.call ca ρ cs).bind fun v cs => (R.opt cs ((viewV cs v).bind truP)).bind fun b cs => if b == k then evBo F.G F.call k (.cons d es) ρ cs else .ok v cs := by
  rw [evBo]
theorem s_and {b : Expr} {rest : List Expr} {d : CE} {es : CEs} (ha : PE X a (trE F X.K W ca)) (hb : PE X (.BoolOp .And (b :: rest) pos) (trE F X.K W (.bop true (.cons d es)))) : PE X (.BoolOp .And (a :: b :: rest) pos) (trE F X.K W (.bop true (.cons ca (.cons d es)))) := by
  refine (pe_andT ha hb).imp fun σ H Q h => ?_
  obtain ⟨M, js, ρ, cs, s, j, h⟩ := h
  refine ⟨M, js, ρ, cs, s, j, ?_⟩
  simp only [evE, evBo_cons] at h
  rw [R.sat_bind] at h
  refine h.mono (fun v cs1 h u M1 H1 s1 t1 r1 => ?_) fun _ _ _ h => h
  rw [R.sat_bind, R.sat_opt] at h
  obtain ⟨k, hk, h⟩ := h
  obtain ⟨x, hx, hk⟩ := Option.bind_eq_some_iff.mp hk
  refine ⟨k, (s1.seen r1 hx).tru hk, ?_⟩
  cases k with
  | true =>
    rw [if_pos rfl]
    refine ⟨M1, js, ρ, cs1, s1, F.st j (t1.j s1), ?_⟩
    exact h.mono (fun v cs2 h u M2 H2 s2 t2 r2 => h u M2 H2 s2 (t1.trans t2) r2) fun _ _ _ h => h
  | false =>
    rw [if_neg Bool.false_ne_true]
    exact h u M1 H1 s1 t1 r1
theorem s_or {b : Expr} {rest : List Expr} {d : CE} {es : CEs} (ha : PE X a (trE F X.K W ca)) (hb : PE X (.BoolOp .Or (b :: rest) pos) (trE F X.K W (.bop false (.cons d es)))) : PE X (.BoolOp .Or (a :: b :: rest) pos) (trE F X.K W (.bop false (.cons ca (.cons d es)))) := by
  refine (pe_orT ha hb).imp fun σ H Q h => ?_
  obtain ⟨M, js, ρ, cs, s, j, h⟩ := h
  refine ⟨M, js, ρ, cs, s, j, ?_⟩
  simp only [evE, evBo_cons] at h
  rw [R.sat_bind] at h
  refine h.mono (fun v cs1 h u M1 H1 s1 t1 r1 => ?_) fun _ _ _ h => h
  rw [R.sat_bind, R.sat_opt] at h
  obtain ⟨k, hk, h⟩ := h
  obtain ⟨x, hx, hk⟩ := Option.bind_eq_some_iff.mp hk
  refine ⟨k, (s1.seen r1 hx).tru hk, ?_⟩
  cases k with
  | false =>
    rw [if_neg Bool.false_ne_true]
    refine ⟨M1, js, ρ, cs1, s1, F.st j (t1.j s1), ?_⟩
    exact h.mono (fun v cs2 h u M2 H2 s2 t2 r2 => h u M2 H2 s2 (t1.trans t2) r2) fun _ _ _ h => h
  | true =>
    rw [if_pos rfl]
    exact h u M1 H1 s1 t1 r1
theorem PW.imp {X : Cx} {e : Expr} {t t' : TT} (h : PW X e t) (i : ∀ σ H Q, t' σ H Q → t σ H Q) : PW X e t' := ⟨fun w pins s σ H Q I q => h.run w pins s σ H Q I (i _ _ _ q)⟩
theorem tv_bop1 {k : Bool} {ρ : Env} {cs : Cells} : tv (evE F.G F.call (.bop k (.cons ca .nil)) ρ cs) = tv (evE F.G F.call ca ρ cs) := by
  simp only [evE, evBo]
  cases evE F.G F.call ca ρ cs <;> rfl
theorem s_bopT1 {k : Bool} (ha : PT X a (trT F X.K W ca)) : PW X (.BoolOp (if k then .And else .Or) [a] pos) (trT F X.K W (.bop k (.cons ca .nil))) := by
  have i : ∀ σ H Q, trT F X.K W (.bop k (.cons ca .nil)) σ H Q → trT F X.K W ca σ H Q := fun σ H Q ⟨M, js, ρ, cs, s, j, h⟩ => ⟨M, js, ρ, cs, s, j, by dsimp only at h ⊢; rw [tv_bop1] at h; exact h⟩
  cases k with
  | true => exact PW.imp (pw_and1 ha) i
  | false => exact PW.imp (pw_or1 ha) i
theorem tv_bop {k : Bool} {d : CE} {es : CEs} {ρ : Env} {cs : Cells} : tv (evE F.G F.call (.bop k (.cons ca (.cons d es))) ρ cs) = (tv (evE F.G F.call ca ρ cs)).bind fun b cs => if b == k then tv (evE F.G F.call (.bop k (.cons d es)) ρ cs) else .ok b cs := by
  simp only [evE, evBo_cons, tv, vw, R.bind_assoc]
  congr 1; funext v cs
  cases h : viewV cs v with
  | none => rfl
  | some x =>
    simp only [Option.bind_some, R.opt_some, R.ok_bind]
    cases hk : truP x with
    | none => rfl
    | some b => simp only [R.opt_some, R.ok_bind, R.ite_bind, h, hk]
theorem s_bopT {k : Bool} {b : Expr} {rest : List Expr} {d : CE} {es : CEs} (ha : PT X a (trT F X.K W ca)) (hb : PW X (.BoolOp (if k then .And else .Or) (b :: rest) pos) (trT F X.K W (.bop k (.cons d es)))) : PW X (.BoolOp (if k then .And else .Or) (a :: b :: rest) pos) (trT F X.K W (.bop k (.cons ca (.cons d es)))) := by
  have i : ∀ σ H Q, trT F X.K W (.bop k (.cons ca (.cons d es))) σ H Q → trT F X.K W ca σ H fun c H1 => if (c == k) = true then trT F X.K W (.bop k (.cons d es)) σ H1 Q else Q c H1 := fun σ H Q ⟨M, js, ρ, cs, s, j, h⟩ => by
    refine ⟨M, js, ρ, cs, s, j, ?_⟩
    dsimp only at h
    rw [tv_bop, R.sat_bind] at h
    refine h.mono (fun c cs1 h M1 H1 s1 t1 => ?_) fun _ _ _ h => h
    split at h
    · rename_i hc
      rw [if_pos hc]
      exact ⟨M1, js, ρ, cs1, s1, F.st j (t1.j s1), h.mono (fun b cs2 h M2 H2 s2 t2 => h M2 H2 s2 (t1.trans t2)) fun _ _ _ h => h⟩
    · rename_i hc
      rw [if_neg hc]
      exact h M1 H1 s1 t1
  have mono : ∀ {t : TT} {σ : L2.St} {H : Hp} {Q Q' : Bool → Hp → Prop}, trT F X.K W ca σ H Q → (∀ c H1, Q c H1 → Q' c H1) → trT F X.K W ca σ H Q' := fun {t σ H Q Q'} ⟨M, js, ρ, cs, s, j, h⟩ f => ⟨M, js, ρ, cs, s, j, h.mono (fun c cs1 h M1 H1 s1 t1 => f _ _ (h M1 H1 s1 t1)) fun _ _ _ h => h⟩
  cases k with
  | true => exact PW.imp (pw_and ha hb) fun σ H Q h => mono (t := tYes) (i σ H Q h) fun c H1 h => by cases c <;> simpa using h
  | false => exact PW.imp (pw_or ha hb) fun σ H Q h => mono (t := tYes) (i σ H Q h) fun c H1 h => by cases c <;> simpa using h
theorem s_ite (hc : PT X c (trT F X.K W cc)) (ha : PE X a (trE F X.K W ca)) (hb : PE X b (trE F X.K W cb)) : PE X (.IfExp c a b pos) (trE F X.K W (.ite cc ca cb)) := by
  refine (pe_ifExp hc ha hb).imp fun σ H Q h => ?_
  obtain ⟨M, js, ρ, cs, s, j, h⟩ := h
  refine ⟨M, js, ρ, cs, s, j, ?_⟩
  simp only [evE] at h
  rw [R.sat_bind] at h
  refine h.mono (fun k cs1 h M1 H1 s1 t1 => ?_) fun _ _ _ h => h
  cases k with
  | true =>
    rw [if_pos rfl]
    rw [if_pos rfl] at h
    exact ⟨M1, js, ρ, cs1, s1, F.st j (t1.j s1), h.mono (fun v cs2 h u M2 H2 s2 t2 r2 => h u M2 H2 s2 (t1.trans t2) r2) fun _ _ _ h => h⟩
  | false =>
    rw [if_neg Bool.false_ne_true]
    rw [if_neg Bool.false_ne_true] at h
    exact ⟨M1, js, ρ, cs1, s1, F.st j (t1.j s1), h.mono (fun v cs2 h u M2 H2 s2 t2 r2 => h u M2 H2 s2 (t1.trans t2) r2) fun _ _ _ h => h⟩
theorem s_neg (ha : PE X a (trE F X.K W ca)) : PE X (.UnaryOp .USub a pos) (trE F X.K W (.neg ca)) := by
  refine (pe_un un_neg ha).imp fun σ H Q h => ?_
  obtain ⟨M, js, ρ, cs, s, j, h⟩ := h
  refine ⟨M, js, ρ, cs, s, j, ?_⟩
  simp only [evE] at h
  rw [R.sat_bind, sat_vw] at h
  refine h.mono (fun v cs1 h u M1 H1 s1 t1 r1 => ?_) fun _ _ _ h => h
  obtain ⟨x, hx, h⟩ := h
  split at h
  · exact ⟨_, (s1.seen r1 hx).int, h _ M1 H1 s1 t1 (.int _)⟩
  · exact h.elim

/-! ### places -/
theorem ixAt_atI {α : Type} (xs : List α) (i : Int) : atI xs i = ixAt xs i := by
  unfold atI ixAt ixN
  split
  · split
    · rfl
    · rename_i h1 h2
      rw [List.getElem?_eq_none (by omega)]; rfl
  · split <;> rfl
theorem RPs.ix {C : ClsA} {M : Addr → Prop} {H : Hp} {us : List V} {ps : List P} {i : Int} {p : P} (h : RPs C K M H us ps) (e : ixAt ps i = some p) : ∃ u, atI us i = some u ∧ RP C K M H u p := by
  rw [ixAt_atI]
  unfold ixAt at *
  rw [h.length]
  split at e
  · rename_i hi
    obtain ⟨u, h1, h2⟩ := h.get e
    rw [if_pos hi]; exact ⟨u, h1, h2⟩
  · rename_i hi
    rw [if_neg hi]
    split at e
    · rename_i hj
      obtain ⟨u, h1, h2⟩ := h.get e
      rw [if_pos hj]; exact ⟨u, h1, h2⟩
    · cases e
/-- d[k] -/
def rIxD : R2 := fun x y H Q => ∃ a v, x = .ref a ∧ DGet H a y (some v) ∧ Q v H
theorem ix_dict (hu : X.A.units + 1 < cLine) : IxR X rIxD := by
  intro value slice pins s σ H x y v u Q I rx ry h hs
  obtain ⟨a, z, rfl, g, q⟩ := h
  obtain rfl : v = Value.ref a := rx
  exact tail_any (dict_typeIs I g) PySem.F.slot_dict_getitem.lookup (d_getItem hu I g ry fun w' s3 I3 rw' => ⟨z, H, I3, rw', q⟩) hs
def rIx' (K : PySem.W.Frag) : R2 := fun x y H Q => rIx K x y H Q ∨ rIxD x y H Q
theorem key_eq {a b : P} {k l : Key} (ha : keyP a = some k) (hb : keyP b = some l) : a.eqB b = decide (k = l) := by
  cases a <;> simp only [keyP, reduceCtorEq, Option.some.injEq] at ha <;> cases b <;> simp only [keyP, reduceCtorEq, Option.some.injEq] at hb <;> subst ha hb <;> simp only [P.eqB]
  · simp [ieq]
  · simp
  · simp
  · simp only [Sum.inr.injEq, mkS_inj]
theorem dic_get {C : ClsA} {M : Addr → Prop} {H : Hp} {x p : P} {k : Key} (hx : keyP x = some k) : ∀ {kvs : List (Key × V)} {ks ps : List P}, ks.map keyP = kvs.map (fun q => some q.1) → RPs C K M H (kvs.map (·.2)) ps → dicGet ks ps x = some p → ∃ u, valV kvs k = some u ∧ RP C K M H u p
  | [], [], ps, _, _, h => by cases ps <;> simp [dicGet] at h
  | q :: kvs, k0 :: ks, ps, e, r, h => by
    simp only [List.map_cons, List.cons.injEq] at e
    cases r with
    | @cons u us p0 ps r t =>
      simp only [dicGet] at h
      rw [key_eq e.1 hx] at h
      by_cases hk : q.1 = k
      · rw [if_pos (decide_eq_true hk)] at h
        cases h
        exact ⟨_, valV_pos hk, r⟩
      · rw [if_neg (by simp [hk])] at h
        obtain ⟨u, h1, h2⟩ := dic_get hx e.2 t h
        exact ⟨u, by rw [valV_neg hk]; exact h1, h2⟩
theorem ixP_ok (F : Fx) (K : PySem.W.Frag) : OpOk F K ixP id (rIx' K) := by
  intro M js ρ cs σ H x y z u w Q s hx hy hz q
  unfold ixP at hz
  split at hz
  · have := hy.int; subst this
    obtain ⟨a, us, rfl, h1, h2⟩ := hx.tup
    obtain ⟨v, h3, h4⟩ := h2.ix hz
    exact .inl (.inr (.inl ⟨a, us, _, v, rfl, rfl, h1, h3, q _ _ Keep.refl h4⟩))
  · have := hy.int; subst this
    obtain ⟨a, us, rfl, h1, h2⟩ := hx.list
    obtain ⟨v, h3, h4⟩ := h2.ix hz
    exact .inl (.inl ⟨a, us, _, v, rfl, rfl, SqL.of h1, h3, q _ _ Keep.refl h4⟩)
  · have := hy.int; subst this
    obtain ⟨rfl, ho, hl⟩ := hx.str
    obtain ⟨c, hc, rfl⟩ := Option.map_eq_some_iff.mp hz
    refine .inl (.inr (.inr ⟨_, _, c, rfl, rfl, by rw [sizeLine_eq]; simpa [Str.length] using hl, by rw [ixAt_atI]; exact hc, ?_⟩))
    refine q _ _ Keep.refl (.str [c] ?_ (by simp [SZ]))
    rw [strOk_iff] at *
    have hm : c ∈ (by assumption : List Nat) := by
      unfold ixAt at hc
      split at hc
      · exact List.mem_of_getElem? hc
      · split at hc
        · exact List.mem_of_getElem? hc
        · cases hc
    have := List.all_eq_true.mp ho c hm
    simpa using this
  · have := hy.int; subst this
    obtain ⟨a, rfl, h1⟩ := hx.scr
    obtain ⟨n, hn, rfl⟩ := Option.map_eq_some_iff.mp hz
    refine .inl (.inl ⟨a, _, _, .int n, rfl, rfl, h1.sqL, ?_, q _ _ Keep.refl (.int n)⟩)
    rw [ixAt_atI]
    unfold ixAt at *
    rw [List.length_map]
    split at hn
    · rename_i hi
      rw [if_pos hi, List.getElem?_map, hn]; rfl
    · rename_i hi
      rw [if_neg hi]
      split at hn
      · rename_i hj
        rw [if_pos hj, List.getElem?_map, hn]; rfl
      · cases hn
  · obtain ⟨rfl, _, _⟩ := hy.str
    obtain ⟨a, kvs, rfl, h1, h2, h3⟩ := hx.dic
    obtain ⟨v, h4, h5⟩ := dic_get (k := .inr (mkS _)) rfl h2 h3 hz
    exact .inr ⟨a, v, rfl, .inl ⟨kvs, _, .inl h1, rfl, h4.symm⟩, q _ _ Keep.refl h5⟩
  · have := hy.int; subst this
    obtain ⟨a, kvs, rfl, h1, h2, h3⟩ := hx.dic
    obtain ⟨v, h4, h5⟩ := dic_get (k := .inl _) rfl h2 h3 hz
    exact .inr ⟨a, v, rfl, .inl ⟨kvs, _, .inl h1, rfl, h4.symm⟩, q _ _ Keep.refl h5⟩
  · cases hz
theorem s_ix (hu : X.A.units + 1 < cLine) (ha : PE X a (trE F X.K W ca)) (hb : PE X b (trE F X.K W cb)) (hs : notSlice b = true) : PE X (.Subscript a b pos) (trE F X.K W (.ix ca cb)) :=
  (pe_ix (ix_seq.or (ix_dict hu)) ha hb (by cases b <;> first | (intro _ _; rfl) | cases hs)).imp fun _ _ _ h => imp_op2 (ixP_ok F X.K) (trE_of (inj := id) (fun ρ cs => by simp only [evE, R.bind_assoc, id]) h)
end
end Ev
set_option maxRecDepth 100000
set_option maxHeartbeats 1000000
/-! Ev5: slices, arguments, displays, built-ins -/
namespace Ev
open PySem L2 PyProof.Rows

/-! ### values that stay -/
inductive RVs (C : ClsA) (K : PySem.W.Frag) (M : Addr → Prop) (js : List Addr) (H : Hp) : List V → List VP → Prop
  | nil : RVs C K M js H [] []
  | cons {u : V} {us : List V} {v : VP} {vs : List VP} : RV C K M js H u v → RVs C K M js H us vs → RVs C K M js H (u :: us) (v :: vs)
section
variable {C : ClsA} {K : PySem.W.Frag} {M M' : Addr → Prop} {js : List Addr} {ρ : Env} {cs cs' : Cells} {σ : L2.St} {H H' : Hp} {a : Addr} {u : V} {us : List V}
theorem RVs.tr {N : List Addr} (s : SR C K M js ρ cs σ H) (t : TrN N M js cs H M' cs' H') : ∀ {us : List V} {vs : List VP}, RVs C K M js H us vs → RVs C K M' js H' us vs
  | _, _, .nil => .nil
  | _, _, .cons r q => .cons (s.rv t r) (RVs.tr s t q)
theorem RVs.length : ∀ {us : List V} {vs : List VP}, RVs C K M js H us vs → us.length = vs.length
  | _, _, .nil => rfl
  | _, _, .cons _ t => by simp [RVs.length t]
theorem RP.sub {p : P} (r : RP C K M H u p) (h : ∀ b, M' b → M b) : RP C K M' H u p := r.mono Keep.refl fun b _ => h b
theorem RPs.sub {p : List P} (r : RPs C K M H us p) (h : ∀ b, M' b → M b) : RPs C K M' H us p := r.mono Keep.refl fun b _ => h b
theorem RV.sub {v : VP} (r : RV C K M js H u v) (h : ∀ b, M' b → M b) : RV C K M' js H u v := by
  cases v with
  | p x => exact RP.sub r h
  | ref n => exact r
theorem RC.sub {c : Cell} (r : RC C K M H a c) (h : ∀ b, M' b → M b) (m : M a → M' a) : RC C K M' H a c := by
  cases r with
  | lst q e z => exact .lst (m q) e (z.sub h)
  | obj q c e f z => exact .obj (m q) c e f (z.sub h)
  | lock q e z => exact .lock (m q) e (z.sub h)
  | frz z d n => exact .frz (z.sub h) d fun w => n (h _ w)
theorem nodup_at {js : List Addr} (nd : js.Nodup) {m n : Nat} {a : Addr} (h1 : js[m]? = some a) (h2 : js[n]? = some a) : m = n := by
  have l1 : m < js.length := (List.getElem?_eq_some_iff.mp h1).1
  exact (List.getElem?_inj l1 nd).mp (h1.trans h2.symm)
theorem SR.at (s : SR C K M js ρ cs σ H) {n : Nat} {c : Cell} (h : cs[n]? = some c) : ∃ a, js[n]? = some a ∧ RC C K M H a c := by
  have l : n < js.length := by rw [s.len]; exact (List.getElem?_eq_some_iff.mp h).1
  exact ⟨js[n], by simp [l], s.cel n _ c (by simp [l]) h⟩
theorem ow_set {n : Nat} {c d : Cell} (h : cs[n]? = some c) (hm : d.isMut = true → c.isMut = true) {b : Addr} (o : Ow js (cs.set n d) b) : Ow js cs b := by
  obtain ⟨k, e, h1, h2, h3⟩ := o
  by_cases hk : n = k
  · subst hk
    rw [List.getElem?_set_self (List.getElem?_eq_some_iff.mp h).1] at h2
    cases h2
    exact ⟨n, c, h1, h, hm h3⟩
  · rw [List.getElem?_set_ne hk] at h2
    exact ⟨k, e, h1, h2, h3⟩
/-- a thing is never changed again -/
theorem SR.freeze (s : SR C K M js ρ cs σ H) {n : Nat} {c : Cell} (h : cs[n]? = some c) (hm : c.isMut = true) :
    ∃ a M', js[n]? = some a ∧ SR C K M' js ρ (cs.set n (.frz c.view)) σ H ∧ Tr M js cs H M' (cs.set n (.frz c.view)) H ∧ RP C K M' H (.ref a) c.view ∧ (∀ b, M' b ↔ M b ∧ b ≠ a) := by
  obtain ⟨a, ha, r⟩ := s.at h
  have sub : ∀ b, (M b ∧ b ≠ a) → M b := fun b h => h.1
  have rp : RP C K (fun b => M b ∧ b ≠ a) H (.ref a) c.view := by
    cases r with
    | lst q e z => exact .lst e (fun z => z.2 rfl) (z.sub sub)
    | obj q c e f z => exact .ins c e (fun z => z.2 rfl) f (z.sub sub)
    | lock q e z => simp [Cell.isMut] at hm
    | frz z d n => simp [Cell.isMut] at hm
  have dm : H a ≠ none := by
    cases r with
    | lst q e z => rw [e]; simp
    | obj q c e f z => rw [e]; simp
    | lock q e z => rw [e]; simp
    | frz z d n => exact d
  refine ⟨a, fun b => M b ∧ b ≠ a, ha, ⟨fun b q => s.dom b q.1, fun i v e => ?_, s.sl, by rw [List.length_set]; exact s.len, s.nd, fun k b d h1 h2 => ?_⟩, Tr.mk Keep.refl (fun b h => .inl (sub b h)) (fun b q => by
    by_cases e : b = a
    · exact .inr (e ▸ ⟨n, c, ha, h, hm⟩)
    · exact .inl ⟨q, e⟩) (fun b o => ow_set h (fun z => hm) o), rp, fun b => Iff.rfl⟩
  · obtain ⟨u, h1, h2⟩ := s.env i v e
    exact ⟨u, h1, h2.sub sub⟩
  · by_cases hk : n = k
    · subst hk
      rw [List.getElem?_set_self (List.getElem?_eq_some_iff.mp h).1] at h2
      cases h2
      rw [ha] at h1; cases h1
      exact .frz rp dm (fun z => z.2 rfl)
    · rw [List.getElem?_set_ne hk] at h2
      exact (s.cel k b d h1 h2).sub sub fun q => ⟨q, fun z => hk (nodup_at s.nd ha (z ▸ h1))⟩
theorem SR.esc (s : SR C K M js ρ cs σ H) {v : VP} {x : P} (r : RV C K M js H u v) (e : escV cs v = .ok x cs') : ∃ M', SR C K M' js ρ cs' σ H ∧ Tr M js cs H M' cs' H ∧ RP C K M' H u x := by
  cases v with
  | p y => simp only [escV, R.ok.injEq] at e; obtain ⟨rfl, rfl⟩ := e; exact ⟨M, s, Tr.refl, r⟩
  | ref n =>
    obtain ⟨a, ha, rfl⟩ := r
    simp only [escV] at e
    split at e
    · rename_i y hy
      cases e
      have := s.cel n a _ ha hy
      cases this with | frz z d n => exact ⟨M, s, Tr.refl, z⟩
    · rename_i c hne hy
      split at e
      · rename_i hm
        cases e
        obtain ⟨a', M', h1, h2, h3, h4, _⟩ := s.freeze hy hm
        rw [ha] at h1; cases h1
        exact ⟨M', h2, h3, h4⟩
      · cases e
    · cases e
theorem escV_exc {v : VP} {c : Nat} {fs : List P} : escV cs v ≠ .exc c fs cs' := by
  intro h
  cases v <;> simp only [escV, reduceCtorEq] at h
  split at h <;> try cases h
  split at h <;> cases h
theorem SR.escs : ∀ {M : Addr → Prop} {cs cs' : Cells} {us : List V} {vs : List VP} {xs : List P}, SR C K M js ρ cs σ H → RVs C K M js H us vs → escAll vs cs = .ok xs cs' → ∃ M', SR C K M' js ρ cs' σ H ∧ Tr M js cs H M' cs' H ∧ RPs C K M' H us xs
  | M, cs, cs', _, _, xs, s, .nil, e => by simp only [escAll, R.ok.injEq] at e; obtain ⟨rfl, rfl⟩ := e; exact ⟨M, s, Tr.refl, .nil⟩
  | M, cs, cs', _, _, xs, s, .cons (v := v) r q, e => by
    simp only [escAll] at e
    cases h : escV cs v with
    | ok x cs1 =>
      rw [h, R.ok_bind] at e
      obtain ⟨M1, s1, t1, r1⟩ := s.esc r h
      rename_i us vs
      cases h2 : escAll vs cs1 with
      | ok ys cs2 =>
        rw [h2, R.ok_bind] at e
        cases e
        obtain ⟨M2, s2, t2, r2⟩ := SR.escs s1 (q.tr s t1) h2
        exact ⟨M2, s2, t1.trans t2, .cons (s1.rp t2 r1) r2⟩
      | exc c fs cs => rw [h2] at e; cases e
      | stk => rw [h2] at e; cases e
    | exc c fs cs => rw [h] at e; cases e
    | stk => rw [h] at e; cases e
theorem escAll_exc : ∀ {vs : List VP} {cs cs' : Cells} {c : Nat} {fs : List P}, escAll vs cs ≠ .exc c fs cs'
  | [], _, _, _, _ => by intro h; simp [escAll] at h
  | v :: vs, cs, cs', c, fs => by
    intro h
    simp only [escAll] at h
    cases h1 : escV cs v with
    | ok x cs1 =>
      rw [h1, R.ok_bind] at h
      cases h2 : escAll vs cs1 with
      | ok ys cs2 => rw [h2, R.ok_bind] at h; cases h
      | exc c' fs' cs'' => exact escAll_exc h2
      | stk => rw [h2] at h; cases h
    | exc c' fs' cs'' => exact escV_exc h1
    | stk => rw [h1] at h; cases h
/-- the values of a row as they are seen -/
inductive RSs (C : ClsA) (K : PySem.W.Frag) (M : Addr → Prop) (H : Hp) : List V → List P → Prop
  | nil : RSs C K M H [] []
  | cons {u : V} {us : List V} {p : P} {ps : List P} : RS1 C K M H u p → RSs C K M H us ps → RSs C K M H (u :: us) (p :: ps)
theorem SR.seenAll (s : SR C K M js ρ cs σ H) : ∀ {us : List V} {vs : List VP} {xs : List P}, RVs C K M js H us vs → viewAll cs vs = some xs → RSs C K M H us xs
  | _, _, xs, .nil, e => by simp only [viewAll, Option.some.injEq] at e; subst e; exact .nil
  | _, _, xs, .cons r q, e => by
    simp only [viewAll] at e
    obtain ⟨x, h1, e⟩ := Option.bind_eq_some_iff.mp e
    obtain ⟨ys, h2, e⟩ := Option.map_eq_some_iff.mp e
    subst e
    exact .cons (s.seen r h1) (SR.seenAll s q h2)
theorem RSs.one {p : P} (r : RSs C K M H us [p]) : ∃ u, us = [u] ∧ RS1 C K M H u p := by
  cases r with | cons r t => cases t; exact ⟨_, rfl, r⟩
theorem RSs.two {p q : P} (r : RSs C K M H us [p, q]) : ∃ u v, us = [u, v] ∧ RS1 C K M H u p ∧ RS1 C K M H v q := by
  cases r with | cons r t => cases t with | cons s t => cases t; exact ⟨_, _, rfl, r, s⟩
end

/-! ### rows of expressions -/
section
variable (F : Fx) (K : PySem.W.Frag) (W : WX)
def trA (es : CEs) : TA := fun σ H Q =>
  ∃ M js ρ cs, SR F.C K M js ρ cs σ H ∧ F.J js M cs H ∧ (evXs F.G F.call es ρ cs).sat (fun vs cs' => ∀ us M' H', SR F.C K M' js ρ cs' σ H' → Tr M js cs H M' cs' H' → RVs F.C K M' js H' us vs → Q us H') (F.Eps K W js ρ σ)
def trO (o : CO) : TO := fun σ H Q =>
  ∃ M js ρ cs, SR F.C K M js ρ cs σ H ∧ F.J js M cs H ∧ (evO F.G F.call o ρ cs).sat (fun v cs' => ∀ M' H', SR F.C K M' js ρ cs' σ H' → Tr M js cs H M' cs' H' → Q v H') (F.Eps K W js ρ σ)
end
section
variable {F : Fx} {K : PySem.W.Frag} {W : WX} {X : Cx} {pos : Pos} {a b c e : Expr} {es : List Expr} {ca cb cc ce : CE} {ces : CEs}
theorem star_no {env : PySem.Env} (h : notStar e = true) : starEach (e :: es) env = (false, eval e env) :: starEach es env := by cases e <;> first | rfl | cases h
theorem s_anil : PA X [] (trA F X.K W .nil) := pa_nil.imp fun σ H Q ⟨M, js, ρ, cs, s, j, h⟩ => h [] M H s Tr.refl .nil
theorem s_acons (ha : PE X e (trE F X.K W ce)) (hr : PA X es (trA F X.K W ces)) (hn : notStar e = true) : PA X (e :: es) (trA F X.K W (.cons ce ces)) := by
  refine (pa_cons ha hr (star_no hn)).imp fun σ H Q h => ?_
  obtain ⟨M, js, ρ, cs, s, j, h⟩ := h
  refine ⟨M, js, ρ, cs, s, j, ?_⟩
  simp only [evXs] at h
  rw [R.sat_bind] at h
  refine h.mono (fun v cs1 h u M1 H1 s1 t1 r1 => ?_) fun _ _ _ h => h
  refine ⟨M1, js, ρ, cs1, s1, F.st j (t1.j s1), ?_⟩
  rw [R.sat_bind] at h
  refine h.mono (fun vs cs2 h us M2 H2 s2 t2 r2 => ?_) fun _ _ _ h => h
  exact h (u :: us) M2 H2 s2 (t1.trans t2) (.cons (s1.rv t2 r1) r2)
/-! ### slices -/
theorem s_onone : PO X none (trO F X.K W .none) := ⟨fun pins s σ H Q I ⟨M, js, ρ, cs, s', j, h⟩ => po_none.run pins s σ H Q I (h M H s' Tr.refl)⟩
theorem s_osome (ha : PE X e (trE F X.K W ce)) : PO X (some e) (trO F X.K W (.some ce)) := ⟨fun pins s σ H Q I hq => (po_some ha).run pins s σ H Q I (by
  obtain ⟨M, js, ρ, cs, s, j, h⟩ := hq
  refine ⟨M, js, ρ, cs, s, j, ?_⟩
  simp only [evO] at h
  rw [R.sat_bind, sat_vw] at h
  refine h.mono (fun v cs1 h u M1 H1 s1 t1 r1 => ?_) fun _ _ _ h => h
  obtain ⟨x, hx, h⟩ := h
  split at h
  · exact ⟨_, (s1.seen r1 hx).int, h M1 H1 s1 t1⟩
  · exact h.elim)⟩
theorem RPs.ints {C : ClsA} {M : Addr → Prop} {H : Hp} : ∀ ns : List Int, RPs C K M H (ns.map V.int) (ns.map P.int)
  | [] => .nil
  | n :: ns => .cons (.int n) (RPs.ints ns)
theorem RPs.cutP {C : ClsA} {M : Addr → Prop} {H : Hp} {us : List V} {ps : List P} (h : RPs C K M H us ps) (lo hi : Option Int) : RPs C K M H (cutV us lo hi) (cut ps lo hi) := by
  unfold cutV cut
  rw [h.length]
  exact (h.drop _).take _
theorem slP_ok {M : Addr → Prop} {js : List Addr} {ρ : Env} {cs : Cells} {σ : L2.St} {H : Hp} {x z : P} {u : V} {lo hi : Option Int} {Q : VK} (s : SR F.C K M js ρ cs σ H) (hx : RS1 F.C K M H u x) (hz : slP x lo hi = some z)
    (q : ∀ u' H', Keep No H H' → RP F.C K M H' u' z → Q u' H') : rSlA K u lo hi H Q ∨ rSlL K u lo hi H Q ∨ rSlS u lo hi H Q := by
  unfold slP at hz
  split at hz
  · cases hz
    rename_i xs
    obtain ⟨a, us, rfl, h1, h2⟩ := hx.tup
    refine .inl ⟨a, us, rfl, h1, fun e => ?_, fun e p hp => ?_⟩
    · refine q _ _ Keep.refl ?_
      have : Ev.cut xs lo hi = xs := by
        show (xs.drop _).take _ = xs
        have e1 : sIx _ 0 lo = 0 := e.1
        have e2 : sIx _ _ hi = _ := e.2
        rw [h2.length] at e1 e2
        rw [e1, e2]; simp
      rw [this]
      exact .tup h1 h2
    · exact q _ _ (Keep.new hp) (.tup (SqT.of upd_same) ((h2.cutP lo hi).kept (Keep.new hp)))
  · cases hz
    obtain ⟨a, us, rfl, h1, h2⟩ := hx.list
    exact .inr (.inl ⟨a, us, rfl, SqL.of h1, fun p hp => q _ _ (Keep.new hp) (.lst upd_same (s.fresh hp) ((h2.cutP lo hi).kept (Keep.new hp)))⟩)
  · cases hz
    rename_i t
    obtain ⟨rfl, ho, hl⟩ := hx.str
    refine .inr (.inr ⟨_, rfl, by rw [sizeLine_eq]; simpa [Str.length] using hl, ?_⟩)
    have e : cutS (mkS t) lo hi = mkS (cut t lo hi) := rfl
    rw [e]
    refine q _ _ Keep.refl (.str _ ?_ ?_)
    · rw [strOk_iff] at *
      rw [List.all_eq_true] at *
      intro c hc
      unfold cut at hc
      exact ho c (List.mem_of_mem_drop (List.mem_of_mem_take hc))
    · unfold cut
      rw [List.length_take, List.length_drop]
      omega
  · cases hz
    rename_i ns
    obtain ⟨a, rfl, h1⟩ := hx.scr
    refine .inr (.inl ⟨a, _, rfl, h1.sqL, fun p hp => q _ _ (Keep.new hp) (.lst upd_same (s.fresh hp) ?_)⟩)
    have e : cutV (ns.map V.int) lo hi = (cut ns lo hi).map V.int := by
      show ((ns.map V.int).drop _).take _ = _
      unfold cut
      rw [List.length_map, List.map_take, List.map_drop]
      rfl
    rw [e]
    exact RPs.ints _
  · cases hz
theorem s_sl {lo hi : Option Expr} {clo chi : CO} {p2 : Pos} (ha : PE X a (trE F X.K W ca)) (hl : PO X lo (trO F X.K W clo)) (hh : PO X hi (trO F X.K W chi)) : PE X (.Subscript a (.Slice lo hi none p2) pos) (trE F X.K W (.sl ca clo chi)) := by
  refine (pe_slice (sl_tupA.or (sl_list.or sl_str)) ha hl hh).imp fun σ H Q h => ?_
  obtain ⟨M, js, ρ, cs, s, j, h⟩ := h
  refine ⟨M, js, ρ, cs, s, j, ?_⟩
  simp only [evE] at h
  rw [R.sat_bind] at h
  refine h.mono (fun v cs1 h u M1 H1 s1 t1 r1 => ?_) fun _ _ _ h => h
  refine ⟨M1, js, ρ, cs1, s1, F.st j (t1.j s1), ?_⟩
  rw [R.sat_bind] at h
  refine h.mono (fun l cs2 h M2 H2 s2 t2 => ?_) fun _ _ _ h => h
  refine ⟨M2, js, ρ, cs2, s2, F.st (F.st j (t1.j s1)) (t2.j s2), ?_⟩
  rw [R.sat_bind] at h
  refine h.mono (fun r cs3 h M3 H3 s3 t3 => ?_) fun _ _ _ h => h
  rw [R.sat_bind, R.sat_opt] at h
  obtain ⟨z, hz, h⟩ := h
  obtain ⟨x, hx, hz⟩ := Option.bind_eq_some_iff.mp hz
  exact slP_ok s3 (s3.seen (s2.rv t3 (s1.rv t2 r1)) hx) hz fun u' H' k q => h u' M3 H' (s3.same k) (t1.trans (t2.trans (t3.trans (Tr.same k)))) q

/-! ### displays -/
theorem s_tup {k : Nat} (h : PA X es (trA F X.K W ces)) : PE X (.Tuple es k pos) (trE F X.K W (.tup ces)) := by
  refine (pe_tup h).imp fun σ H Q h => ?_
  obtain ⟨M, js, ρ, cs, s, j, h⟩ := h
  refine ⟨M, js, ρ, cs, s, j, ?_⟩
  simp only [evE] at h
  rw [R.sat_bind] at h
  refine h.mono (fun vs cs1 h us M1 H1 s1 t1 r1 => ?_) fun _ _ _ h => h
  rw [R.sat_bind] at h
  cases he : escAll vs cs1 with
  | ok xs cs2 =>
    rw [he] at h
    replace h := R.sat_ok.mp h
    obtain ⟨M2, s2, t2, r2⟩ := s1.escs r1 he
    split at h
    · rename_i hl
      refine ⟨by rw [sizeLine_eq, r2.length]; exact hl, fun p hp => ?_⟩
      exact h _ M2 _ (s2.same (Keep.new hp)) (t1.trans (t2.trans (Tr.same (Keep.new hp)))) (.tup (SqT.of upd_same) (r2.kept (Keep.new hp)))
    · exact h.elim
  | exc c fs cs => exact (escAll_exc he).elim
  | stk => rw [he] at h; exact h.elim
end
/-! ### new lists -/
section
variable (F : Fx) (K : PySem.W.Frag) (W : WX)
def trL (e : CL) : TE := fun σ H Q =>
  ∃ M js ρ cs, SR F.C K M js ρ cs σ H ∧ F.J js M cs H ∧ (evL F.G F.call e ρ cs).sat (fun xs cs' => ∀ a us M' H', SR F.C K M' js ρ cs' σ H' → TrL a M js cs H M' cs' H' → H' a = some (.lst us) → RPs F.C K M' H' us xs → Q (.ref a) H') (F.Eps K W js ρ σ)
end
section
variable {F : Fx} {C : ClsA} {K : PySem.W.Frag} {W : WX} {X : Cx} {pos : Pos} {a b c e : Expr} {es : List Expr} {ca cb cc ce : CE} {ces : CEs} {M M' : Addr → Prop} {js : List Addr} {ρ : Env} {cs cs' : Cells} {σ : L2.St} {H H' : Hp}
theorem SR.js_there (s : SR C K M js ρ cs σ H) {n : Nat} {a : Addr} (h : js[n]? = some a) : H a ≠ none := by
  have l : n < cs.length := by rw [← s.len]; exact (List.getElem?_eq_some_iff.mp h).1
  have r := s.cel n a cs[n] h (by simp [l])
  revert r
  generalize cs[n] = c
  intro r
  cases r with
  | lst q e z => rw [e]; simp
  | obj q c e f z => rw [e]; simp
  | lock q e z => rw [e]; simp
  | frz z d n => exact d
/-- a new list, never to be changed -/
theorem s_l {le : CL} (h : PE X e (trL F X.K W le)) : PE X e (trE F X.K W (.l le)) := by
  refine h.imp fun σ H Q h => ?_
  obtain ⟨M, js, ρ, cs, s, j, h⟩ := h
  refine ⟨M, js, ρ, cs, s, j, ?_⟩
  simp only [evE] at h
  rw [R.sat_bind] at h
  refine h.mono (fun xs cs1 h a us M1 H1 s1 t1 e1 r1 => ?_) fun _ _ _ h => h
  have sub : ∀ b, (M1 b ∧ b ≠ a) → M1 b := fun b h => h.1
  refine h (.ref a) (fun b => M1 b ∧ b ≠ a) H1 ⟨fun b q => s1.dom b q.1, fun i v e => ?_, s1.sl, s1.len, s1.nd, fun n b c h1 h2 => (s1.cel n b c h1 h2).sub sub fun q => ⟨q, fun z => ?_⟩⟩
    (Tr.mk t1.keep (fun b q => t1.subN b q.1) (fun b q => (t1.sup b q).imp (fun z => ⟨z, fun e => s.dom b q (e ▸ (t1.new a (by simp)).1)⟩) id) t1.ow) (.lst e1 (fun z => z.2 rfl) (r1.sub sub))
  · obtain ⟨u, h1, h2⟩ := s1.env i v e
    exact ⟨u, h1, h2.sub sub⟩
  · exact s.js_there h1 (z ▸ (t1.new a (by simp)).1)
/-- a list made at p -/
theorem SR.made (s : SR C K M js ρ cs σ H) (t : Tr M js cs H M' cs' H') (s' : SR C K M' js ρ cs' σ H') {p : Addr} {us : List V} {xs : List P} (hp : H' p = none) (r : RPs C K M' H' us xs) :
    ∃ M2, SR C K M2 js ρ cs' σ (upd H' p (.lst us)) ∧ TrL p M js cs H M2 cs' (upd H' p (.lst us)) ∧ RPs C K M2 (upd H' p (.lst us)) us xs := by
  have k : Keep M' H' (upd H' p (.lst us)) := Keep.new hp
  have k0 : Keep No H' (upd H' p (.lst us)) := Keep.new hp
  have hm : ∀ b, H' b ≠ none → (M' b ∨ b = p) → M' b := fun b h q => q.elim id fun z => (h (z ▸ hp)).elim
  refine ⟨fun b => M' b ∨ b = p, ⟨fun b q => ?_, fun i v e => ?_, s'.sl, s'.len, s'.nd, fun n b c h1 h2 => ?_⟩, ⟨t.keep.trans (k0.mono fun _ z => z.elim), fun b q => q.elim (t.subN b) fun z => .inr (z ▸ t.keep.pure hp), fun b q => (t.sup b q).imp .inl id, t.ow, fun b z => by simp only [List.mem_singleton] at z; subst z; exact ⟨t.keep.pure hp, .inr rfl⟩⟩, r.mono k hm⟩
  · rcases q with q | rfl
    · exact k.dom b (s'.dom b q)
    · rw [upd_same]; simp
  · obtain ⟨u, h1, h2⟩ := s'.env i v e
    refine ⟨u, h1, ?_⟩
    cases v with
    | p x => exact RP.mono k hm h2
    | ref n => exact h2
  · have := s'.cel n b c h1 h2
    cases this with
    | lst q e z => exact .lst (.inl q) (k0.obj _ _ e id) (z.mono k hm)
    | obj q c e f z => exact .obj (.inl q) c (k0.obj _ _ e id) f (z.mono k hm)
    | lock q e z => exact .lock (.inl q) (k0.obj _ _ e id) (z.mono k hm)
    | frz z d n => exact .frz (z.mono k hm) (k.dom _ d) fun w => w.elim n fun e => d (e ▸ hp)
theorem s_lst (h : PA X es (trA F X.K W ces)) : PE X (.List es pos) (trL F X.K W (.lst ces)) := by
  refine (pe_lst h).imp fun σ H Q h => ?_
  obtain ⟨M, js, ρ, cs, s, j, h⟩ := h
  refine ⟨M, js, ρ, cs, s, j, ?_⟩
  simp only [evL] at h
  rw [R.sat_bind] at h
  refine h.mono (fun vs cs1 h us M1 H1 s1 t1 r1 => ?_) fun _ _ _ h => h
  rw [R.sat_bind] at h
  cases he : escAll vs cs1 with
  | ok xs cs2 =>
    rw [he] at h
    replace h := R.sat_ok.mp h
    obtain ⟨M2, s2, t2, r2⟩ := s1.escs r1 he
    split at h
    · rename_i hl
      refine ⟨by rw [sizeLine_eq, r2.length]; exact hl, fun p hp => ?_⟩
      obtain ⟨M3, s3, t3, r3⟩ := s.made (t1.trans t2) s2 hp r2
      exact h p us M3 _ s3 t3 upd_same r3
    · exact h.elim
  | exc c fs cs => exact (escAll_exc he).elim
  | stk => rw [he] at h; exact h.elim
/-- list(e) -/
theorem s_lof {p : Pos} (hg : Gl X "list") (hm : X.mg "list" = none) (ha : PE X e (trE F X.K W ce)) (hn : notStar e = true) : PE X (.Call (.Name "list" p) [e] [] pos) (trL F X.K W (.lof ce)) := by
  refine (pe_callTy call_list_of hg hm (by decide +kernel) (s_acons ha s_anil hn) (by decide) (by decide) (star_no hn) (by rfl)).imp fun σ H Q h => ?_
  obtain ⟨M, js, ρ, cs, s, j, h⟩ := h
  refine ⟨M, js, ρ, cs, s, j, ?_⟩
  simp only [evL] at h
  rw [R.sat_bind, sat_vw] at h
  simp only [evXs]
  rw [R.sat_bind]
  refine h.mono (fun v cs1 h => ?_) fun _ _ _ h => h
  rw [R.sat_bind, R.sat_ok, R.sat_ok]
  intro us M1 H1 s1 t1 r1
  obtain ⟨x, hx, h⟩ := h
  cases r1 with | cons r1 r0 => cases r0 with | nil =>
  have q := s1.seen r1 hx
  split at h
  · obtain ⟨a, us, rfl, h1, h2⟩ := q.list
    refine ⟨a, us, rfl, .inl (SqL.of h1), fun l hl => ?_⟩
    obtain ⟨M3, s3, t3, r3⟩ := s.made t1 s1 hl h2
    exact h l us M3 _ s3 t3 upd_same r3
  · obtain ⟨a, us, rfl, h1, h2⟩ := q.tup
    refine ⟨a, us, rfl, .inr h1, fun l hl => ?_⟩
    obtain ⟨M3, s3, t3, r3⟩ := s.made t1 s1 hl h2
    exact h l us M3 _ s3 t3 upd_same r3
  · exact h.elim
end
end Ev
set_option maxRecDepth 100000
set_option maxHeartbeats 1000000
/-! Ev6: built-in functions -/
namespace Ev
open PySem L2 PyProof.Rows
section
variable {F : Fx} {C : ClsA} {K : PySem.W.Frag} {W : WX} {X : Cx} {pos : Pos} {a b c e : Expr} {es : List Expr} {ca cb cc ce : CE} {ces : CEs} {M M' : Addr → Prop} {js : List Addr} {ρ : Env} {cs cs' : Cells} {σ : L2.St} {H H' : Hp}
theorem RPs.intsOf : ∀ {us : List V} {xs : List P} {ns : List Int}, RPs C K M H us xs → Ev.intsOf xs = some ns → us = ns.map V.int
  | _, _, ns, .nil, e => by simp only [Ev.intsOf, Option.some.injEq] at e; subst e; rfl
  | _, _, ns, .cons r t, e => by
    cases r <;> simp only [Ev.intsOf, reduceCtorEq] at e
    obtain ⟨ms, h, rfl⟩ := Option.map_eq_some_iff.mp e
    rw [RPs.intsOf t h]; rfl
theorem RPs.boolsOf : ∀ {us : List V} {xs : List P} {ns : List Bool}, RPs C K M H us xs → Ev.boolsOf xs = some ns → us = ns.map V.bl
  | _, _, ns, .nil, e => by simp only [Ev.boolsOf, Option.some.injEq] at e; subst e; rfl
  | _, _, ns, .cons r t, e => by
    cases r <;> simp only [Ev.boolsOf, reduceCtorEq] at e
    obtain ⟨ms, h, rfl⟩ := Option.map_eq_some_iff.mp e
    rw [RPs.boolsOf t h]; rfl
theorem minI_spec : ∀ (r : List Int) (x : Int), minI x r ∈ x :: r ∧ ∀ y ∈ x :: r, minI x r ≤ y
  | [], x => ⟨by simp [minI], by simp [minI]⟩
  | y :: r, x => by
    rw [minI]
    split
    · obtain ⟨h1, h2⟩ := minI_spec r y
      refine ⟨List.mem_cons_of_mem _ h1, fun z hz => ?_⟩
      have := h2 y (by simp)
      rcases List.mem_cons.mp hz with rfl | hz
      · omega
      · exact h2 z hz
    · obtain ⟨h1, h2⟩ := minI_spec r x
      refine ⟨?_, fun z hz => ?_⟩
      · rcases List.mem_cons.mp h1 with h | h
        · rw [h]; simp
        · simp [h]
      · have := h2 x (by simp)
        rcases List.mem_cons.mp hz with rfl | hz
        · exact this
        · rcases List.mem_cons.mp hz with rfl | hz
          · omega
          · exact h2 z (List.mem_cons_of_mem _ hz)
theorem maxI_spec : ∀ (r : List Int) (x : Int), maxI x r ∈ x :: r ∧ ∀ y ∈ x :: r, y ≤ maxI x r
  | [], x => ⟨by simp [maxI], by simp [maxI]⟩
  | y :: r, x => by
    rw [maxI]
    split
    · obtain ⟨h1, h2⟩ := maxI_spec r y
      refine ⟨List.mem_cons_of_mem _ h1, fun z hz => ?_⟩
      have := h2 y (by simp)
      rcases List.mem_cons.mp hz with rfl | hz
      · omega
      · exact h2 z hz
    · obtain ⟨h1, h2⟩ := maxI_spec r x
      refine ⟨?_, fun z hz => ?_⟩
      · rcases List.mem_cons.mp h1 with h | h
        · rw [h]; simp
        · simp [h]
      · have := h2 x (by simp)
        rcases List.mem_cons.mp hz with rfl | hz
        · exact this
        · rcases List.mem_cons.mp hz with rfl | hz
          · omega
          · exact h2 z (List.mem_cons_of_mem _ hz)
end
def biName : BI → Str
  | .len => "len" | .int => "int" | .abs => "abs" | .min => "min" | .max => "max" | .sum => "sum" | .all => "all" | .any => "any" | .tuple => "tuple" | .list => "list" | .str => "str" | .sorted => "sorted" | .bool => "bool"
abbrev RCall := List V → Hp → VK → Prop
def orC (r r' : RCall) : RCall := fun xs H Q => r xs H Q ∨ r' xs H Q
def rBi (K : PySem.W.Frag) : BI → RCall
  | .len => orC (fun xs H Q => ∃ p ys, xs = [.ref p] ∧ (SqL K H p ys ∨ SqT K H p ys) ∧ Q (.int ys.length) H) fun xs H Q => ∃ z, xs = [.str z] ∧ z.length ≤ sizeLine ∧ Q (.int z.length) H
  | .int => fun xs H Q => (∃ i, xs = [.int i] ∧ Q (.int i) H) ∨ ∃ k, xs = [.bl k] ∧ Q (.int (if k then 1 else 0)) H
  | .abs => fun xs H Q => ∃ i, xs = [.int i] ∧ Q (.int (if i < 0 then -i else i)) H
  | .min => orC (fun xs H Q => ∃ i j, xs = [.int i, .int j] ∧ Q (.int (if j < i then j else i)) H) (rMin K)
  | .max => orC (fun xs H Q => ∃ i j, xs = [.int i, .int j] ∧ Q (.int (if j > i then j else i)) H) (rMax K)
  | .sum => rSum K
  | .all => rAll K
  | .any => rAny K
  | .tuple => fun xs H Q => ∃ p ys, xs = [.ref p] ∧ ((SqL K H p ys ∧ ∀ l, H l = none → Q (.ref l) (upd H l (.tup ys))) ∨ (SqT K H p ys ∧ Q (.ref p) H))
  | _ => fun _ _ _ => False
section
variable {F : Fx} {K : PySem.W.Frag} {W : WX} {X : Cx} {pos p : Pos} {e : Expr} {es : List Expr} {ce : CE} {ces : CEs}
theorem back_no {pos : Pos} {env : PySem.Env} : ∀ {es : List Expr}, es.all notStar = true → (backTo pos (starEach es env)).any (·.1) = false
  | [], _ => rfl
  | e :: es, h => by
    rw [List.all_cons, Bool.and_eq_true] at h
    rw [star_no h.1]
    show (false || (backTo pos (starEach es env)).any (·.1)) = false
    rw [back_no h.2]; rfl
theorem bi_pe {t : TA} (o : BI) (hc : X.calm = true) (hg : Gl X (biName o)) (hm : X.mg (biName o) = none) (ha : PA X (e :: es) t) (hn : (e :: es).all notStar = true) : PE X (.Call (.Name (biName o) p) (e :: es) [] pos) (tCB (rBi X.K o) t) := by
  have hn' := hn
  rw [List.all_cons, Bool.and_eq_true] at hn'
  have h1 := star_no (es := es) (env := X.env) hn'.1
  have h2 := back_no (pos := pos) (env := X.env) hn'.2
  have never : PE X (.Call (.Name (biName o) p) (e :: es) [] pos) (tCB (fun _ _ _ => False) t) ∨ True := .inr trivial
  cases o with
  | len => exact pe_callB (call_len_seq.or call_len_str) hg hm (by decide +kernel) ha (by decide) (by decide) h1 h2
  | int => exact pe_callTy call_int1 hg hm (by decide +kernel) ha (by decide) (by decide) h1 h2
  | abs => exact pe_callB call_abs hg hm (by decide +kernel) ha (by decide) (by decide) h1 h2
  | min => exact pe_callB ((call_min2 hc).or (cr_min hc)) hg hm (by decide +kernel) ha (by decide) (by decide) h1 h2
  | max => exact pe_callB ((call_max2 hc).or (cr_max hc)) hg hm (by decide +kernel) ha (by decide) (by decide) h1 h2
  | sum => exact pe_callB (cr_sum hc) hg hm (by decide +kernel) ha (by decide) (by decide) h1 h2
  | all => exact pe_callB (cr_all hc) hg hm (by decide +kernel) ha (by decide) (by decide) h1 h2
  | any => exact pe_callB (cr_any hc) hg hm (by decide +kernel) ha (by decide) (by decide) h1 h2
  | tuple => exact pe_callTy call_tuple_of hg hm (by decide +kernel) ha (by decide) (by decide) h1 h2
  | list => exact pe_callTy (T := "list") (fun _ _ _ _ _ _ _ _ _ h => h.elim) hg hm (by decide +kernel) ha (by decide) (by decide) h1 h2
  | str => exact pe_callTy (T := "str") (fun _ _ _ _ _ _ _ _ _ h => h.elim) hg hm (by decide +kernel) ha (by decide) (by decide) h1 h2
  | sorted => exact pe_callB (id := "sorted") (fun _ _ _ _ _ _ _ _ _ h => h.elim) hg hm (by decide +kernel) ha (by decide) (by decide) h1 h2
  | bool => exact pe_callTy (T := "bool") (fun _ _ _ _ _ _ _ _ _ h => h.elim) hg hm (by decide +kernel) ha (by decide) (by decide) h1 h2
theorem biP_ok {o : BI} {M : Addr → Prop} {js : List Addr} {ρ : Env} {cs : Cells} {σ : L2.St} {H : Hp} {xs : List P} {z : P} {us : List V} {Q : VK} (s : SR F.C K M js ρ cs σ H) (hx : RSs F.C K M H us xs) (hz : biP o xs = some z)
    (q : ∀ u' H', Keep No H H' → RP F.C K M H' u' z → Q u' H') : rBi K o us H Q := by
  unfold biP at hz
  split at hz
  · cases hz
    obtain ⟨u, rfl, h⟩ := hx.one
    obtain ⟨a, us, rfl, h1, h2⟩ := h.list
    refine .inl ⟨a, us, rfl, .inl (SqL.of h1), ?_⟩
    rw [h2.length]; exact q _ _ Keep.refl (.int _)
  · cases hz
    obtain ⟨u, rfl, h⟩ := hx.one
    obtain ⟨a, us, rfl, h1, h2⟩ := h.tup
    refine .inl ⟨a, us, rfl, .inr h1, ?_⟩
    rw [h2.length]; exact q _ _ Keep.refl (.int _)
  · cases hz
    obtain ⟨u, rfl, h⟩ := hx.one
    obtain ⟨rfl, _, hl⟩ := h.str
    have e : ∀ t : List Nat, (mkS t).length = t.length := fun t => rfl
    refine .inr ⟨_, rfl, by rw [sizeLine_eq]; exact hl, ?_⟩
    rw [e]
    exact q _ _ Keep.refl (.int _)
  · cases hz
    obtain ⟨u, rfl, h⟩ := hx.one
    obtain ⟨a, rfl, h1⟩ := h.scr
    refine .inl ⟨a, _, rfl, .inl h1.sqL, ?_⟩
    rw [List.length_map]; exact q _ _ Keep.refl (.int _)
  · cases hz
    obtain ⟨u, rfl, h⟩ := hx.one
    have := h.int; subst this
    exact .inl ⟨_, rfl, q _ _ Keep.refl (.int _)⟩
  · cases hz
    obtain ⟨u, rfl, h⟩ := hx.one
    have := h.bool; subst this
    exact .inr ⟨_, rfl, q _ _ Keep.refl (.int _)⟩
  · cases hz
    obtain ⟨u, rfl, h⟩ := hx.one
    have := h.int; subst this
    exact ⟨_, rfl, q _ _ Keep.refl (.int _)⟩
  · cases hz
    obtain ⟨u, v, rfl, h, h'⟩ := hx.two
    have := h.int; subst this
    have := h'.int; subst this
    exact .inl ⟨_, _, rfl, q _ _ Keep.refl (.int _)⟩
  · cases hz
    obtain ⟨u, v, rfl, h, h'⟩ := hx.two
    have := h.int; subst this
    have := h'.int; subst this
    exact .inl ⟨_, _, rfl, q _ _ Keep.refl (.int _)⟩
  · split at hz
    · rename_i x r hi
      cases hz
      obtain ⟨u, rfl, h⟩ := hx.one
      obtain ⟨a, us, rfl, h1, h2⟩ := h.list
      have := h2.intsOf hi; subst this
      refine .inr ⟨a, _, rfl, SqL.of h1, by simp, fun m hm hl => ?_⟩
      obtain ⟨g1, g2⟩ := minI_spec r x
      have e : m = minI x r := Int.le_antisymm (hl _ g1) (g2 _ hm)
      rw [e]; exact q _ _ Keep.refl (.int _)
    · cases hz
  · split at hz
    · rename_i x r hi
      cases hz
      obtain ⟨u, rfl, h⟩ := hx.one
      obtain ⟨a, us, rfl, h1, h2⟩ := h.list
      have := h2.intsOf hi; subst this
      refine .inr ⟨a, _, rfl, SqL.of h1, by simp, fun m hm hl => ?_⟩
      obtain ⟨g1, g2⟩ := maxI_spec r x
      have e : m = maxI x r := Int.le_antisymm (g2 _ hm) (hl _ g1)
      rw [e]; exact q _ _ Keep.refl (.int _)
    · cases hz
  · obtain ⟨ns, hi, rfl⟩ := Option.map_eq_some_iff.mp hz
    obtain ⟨u, rfl, h⟩ := hx.one
    obtain ⟨a, us, rfl, h1, h2⟩ := h.list
    have := h2.intsOf hi; subst this
    exact ⟨a, _, rfl, SqL.of h1, q _ _ Keep.refl (.int _)⟩
  · obtain ⟨ns, hi, rfl⟩ := Option.map_eq_some_iff.mp hz
    obtain ⟨u, rfl, h⟩ := hx.one
    obtain ⟨a, us, rfl, h1, h2⟩ := h.list
    have := h2.boolsOf hi; subst this
    exact ⟨a, _, rfl, SqL.of h1, q _ _ Keep.refl (.bool _)⟩
  · obtain ⟨ns, hi, rfl⟩ := Option.map_eq_some_iff.mp hz
    obtain ⟨u, rfl, h⟩ := hx.one
    obtain ⟨a, us, rfl, h1, h2⟩ := h.list
    have := h2.boolsOf hi; subst this
    exact ⟨a, _, rfl, SqL.of h1, q _ _ Keep.refl (.bool _)⟩
  · cases hz
    obtain ⟨u, rfl, h⟩ := hx.one
    obtain ⟨a, us, rfl, h1, h2⟩ := h.list
    exact ⟨a, us, rfl, .inl ⟨SqL.of h1, fun l hl => q _ _ (Keep.new hl) (.tup (SqT.of upd_same) (h2.kept (Keep.new hl)))⟩⟩
  · cases hz
    obtain ⟨u, rfl, h⟩ := hx.one
    obtain ⟨a, us, rfl, h1, h2⟩ := h.tup
    exact ⟨a, us, rfl, .inr ⟨h1, q _ _ Keep.refl (.tup h1 h2)⟩⟩
  · cases hz
theorem s_bi (o : BI) (hc : X.calm = true) (hg : Gl X (biName o)) (hm : X.mg (biName o) = none) (ha : PA X (e :: es) (trA F X.K W ces)) (hn : (e :: es).all notStar = true) : PE X (.Call (.Name (biName o) p) (e :: es) [] pos) (trE F X.K W (.bi o ces)) := by
  refine (bi_pe o hc hg hm ha hn).imp fun σ H Q h => ?_
  obtain ⟨M, js, ρ, cs, s, j, h⟩ := h
  refine ⟨M, js, ρ, cs, s, j, ?_⟩
  simp only [evE] at h
  rw [R.sat_bind] at h
  refine h.mono (fun vs cs1 h us M1 H1 s1 t1 r1 => ?_) fun _ _ _ h => h
  rw [R.sat_bind, R.sat_opt] at h
  obtain ⟨z, hz, h⟩ := h
  obtain ⟨xs, hx, hz⟩ := Option.bind_eq_some_iff.mp hz
  exact biP_ok s1 (s1.seenAll r1 hx) hz fun u' H' k q => h u' M1 H' (s1.same k) (t1.trans (Tr.same k)) q

/-! ### isinstance -/
theorem SqT.tyX {K : PySem.W.Frag} {H : Hp} {a : Addr} {us : List V} (h : SqT K H a us) : TyX K H (.ref a) (.type "tuple") := by
  rcases h with (h | ⟨o, h⟩) | ⟨o, its, n, h, c, _⟩
  · exact .base (.tup h)
  · exact .fTuple h
  · exact .kTuple h c
def tyOf : Ty → Str
  | .int => "int" | .bool => "bool" | .str => "str" | .tuple => "tuple" | .list => "list" | .dict => "dict" | .own _ => ""
def tyS : Ty → String
  | .int => "int" | .bool => "bool" | .str => "str" | .tuple => "tuple" | .list => "list" | .dict => "dict" | .own _ => ""
theorem RS1.ty {C : ClsA} {M : Addr → Prop} {H : Hp} {u : V} {x : P} {t : String} (h : RS1 C K M H u x) (e : kindP x = some t) : TyX K H u (.type t) := by
  cases x <;> simp only [kindP, Option.some.injEq, reduceCtorEq] at e <;> subst e
  · rw [h.none]; exact .base .non
  · rw [h.bool]; exact .base (.bl _)
  · rw [h.int]; exact .base (.int _)
  · rw [h.str.1]; exact .base (.str _)
  · obtain ⟨a, us, rfl, h1, h2⟩ := h.tup; exact SqT.tyX h1
  · obtain ⟨a, us, rfl, h1, h2⟩ := h.list; exact .base (.lst h1)
theorem kit_is {x : P} {t : Ty} {k : String} (e : kindP x = some k) (ho : ∀ c, t ≠ .own c) : kitB k (tyS t) = some (isT t x) := by
  cases x <;> simp only [kindP, Option.some.injEq, reduceCtorEq] at e <;> subst e <;> cases t <;> first
    | exact (ho _ rfl).elim
    | (simp only [isT, tyS]; decide +kernel)
theorem boot_ty (t : Ty) (ho : ∀ c, t ≠ .own c) : bootBuiltins (tyOf t) = some (.type (tyS t)) := by
  cases t <;> first
    | exact (ho _ rfl).elim
    | decide +kernel
theorem ty_ne (t : Ty) : (tyOf t) ≠ "__name__" ∧ ((tyOf t) == ("__debug__" : Str)) = false := by cases t <;> first | exact ⟨by decide, by decide⟩ | (constructor <;> (simp only [tyOf]; decide))
theorem s_isi1 {t : Ty} {p q : Pos} (ho : ∀ c, t ≠ .own c) (hg : Gl X "isinstance") (hm : X.mg "isinstance" = none) (hgt : Gl X (tyOf t)) (hmt : X.mg (tyOf t) = none) (ha : PE X e (trE F X.K W ce)) (hn : notStar e = true) :
    PE X (.Call (.Name "isinstance" p) [e, .Name (tyOf t) q] [] pos) (trE F X.K W (.isi ce [t])) := by
  have h2 : PE X (.Name (tyOf t) q) (tC (.ty (tyS t))) := pe_bltn hgt hmt (boot_ty t ho) rfl (ty_ne t).1 (ty_ne t).2
  refine (pe_callB call_isi hg hm (by decide +kernel) (pa_cons ha (pa_cons h2 pa_nil (by rfl)) (star_no hn)) (by decide) (by decide) (star_no hn) (by rfl)).imp fun σ H Q h => ?_
  obtain ⟨M, js, ρ, cs, s, j, h⟩ := h
  refine ⟨M, js, ρ, cs, s, j, ?_⟩
  simp only [evE] at h
  rw [R.sat_bind, sat_vw] at h
  refine h.mono (fun v cs1 h u M1 H1 s1 t1 r1 => ?_) fun _ _ _ h => h
  obtain ⟨x, hx, h⟩ := h
  rw [R.sat_bind, R.sat_opt] at h
  obtain ⟨k, hk, h⟩ := h
  have r := s1.seen r1 hx
  exact ⟨u, _, _, _, _, rfl, .ty _, r.ty hk, kit_ty (kit_is hk ho), h _ M1 H1 s1 t1 (by simp only [List.any_cons, List.any_nil, Bool.or_false]; exact .bool _)⟩
end
end Ev
set_option maxRecDepth 100000
set_option maxHeartbeats 1000000
/-! Ev7: calls of the text's own functions -/
namespace Ev
open PySem L2 PyProof.Rows

/-- the arguments of a call; js: where the things are that may be changed -/
inductive RAg (C : ClsA) (K : PySem.W.Frag) (M : Addr → Prop) (H : Hp) : List V → List Arg → List Addr → Prop
  | nil : RAg C K M H [] [] []
  | imm {u : V} {us : List V} {x : P} {as : List Arg} {js : List Addr} : RP C K M H u x → RAg C K M H us as js → RAg C K M H (u :: us) (.imm x :: as) js
  | mu {a : Addr} {us : List V} {c : Cell} {as : List Arg} {js : List Addr} : RC C K M H a c → c.isMut = true → RAg C K M H us as js → RAg C K M H (.ref a :: us) (.mu c :: as) (a :: js)
/-- a call's end -/
structure EndR (C : ClsA) (K : PySem.W.Frag) (M : Addr → Prop) (js : List Addr) (H : Hp) (M' : Addr → Prop) (outs : Cells) (H' : Hp) : Prop where
  keep : Keep (· ∈ js) H H'
  dom : ∀ a, M' a → H' a ≠ none
  sub : ∀ b, M' b → M b ∨ H b = none
  sup : ∀ b, M b → M' b ∨ b ∈ js
  len : outs.length = js.length
  cel : ∀ (n : Nat) (a : Addr) (c : Cell), js[n]? = some a → outs[n]? = some c → RC C K M' H' a c
/-- what a function promises -/
def SpE (C : ClsA) (EC : EcA) (K : PySem.W.Frag) (call : List Arg → CR) : Sp := fun vs H Q E =>
  ∃ M args js, (∀ a, M a → H a ≠ none) ∧ js.Nodup ∧ RAg C K M H vs args js ∧ match call args with
    | .ok x own outs => ∀ u M' H', EndR C K M js H M' outs H' → (own = false → RP C K M' H' u x) →
        (own = true → ∃ a us xs, u = .ref a ∧ x = .lst xs ∧ H a = none ∧ M' a ∧ H' a = some (.lst us) ∧ RPs C K M' H' us xs) → Q u H'
    | .exc c fs outs => ∀ cls d M' H', EndR C K M js H M' outs H' → ExR C EC K M' H' c fs cls d → E cls d H'
    | .stk => False

/-! ### arguments as they are evaluated -/
inductive RAr (C : ClsA) (K : PySem.W.Frag) (M : Addr → Prop) (js : List Addr) (H : Hp) : List V → List AR → List Addr → Prop
  | nil : RAr C K M js H [] [] []
  | val {u : V} {us : List V} {x : P} {as : List AR} {N : List Addr} : RP C K M H u x → RAr C K M js H us as N → RAr C K M js H (u :: us) (.val x :: as) N
  | bor {a : Addr} {n : Nat} {us : List V} {as : List AR} {N : List Addr} : js[n]? = some a → RAr C K M js H us as N → RAr C K M js H (.ref a :: us) (.bor n :: as) N
  | mu {a : Addr} {n : Nat} {us : List V} {as : List AR} {N : List Addr} : js[n]? = some a → RAr C K M js H us as N → RAr C K M js H (.ref a :: us) (.mu n :: as) N
  | tmp {a : Addr} {us vs : List V} {xs : List P} {as : List AR} {N : List Addr} : H a = some (.lst vs) → M a → RPs C K M H vs xs → a ∉ js → a ∉ N → RAr C K M js H us as N → RAr C K M js H (.ref a :: us) (.tmp xs :: as) (a :: N)

section
variable {C : ClsA} {K : PySem.W.Frag} {M M' M2 : Addr → Prop} {js jm N : List Addr} {ρ : Env} {cs cs' outs : Cells} {σ : L2.St} {H H' : Hp} {us : List V} {as : List AR}
/-- the addresses of what is handed out -/
inductive Al (js : List Addr) : List AR → List Addr → List Addr → Prop
  | nil : Al js [] [] []
  | val {x : P} {as : List AR} {jm N : List Addr} : Al js as jm N → Al js (.val x :: as) jm N
  | bor {n : Nat} {as : List AR} {jm N : List Addr} : Al js as jm N → Al js (.bor n :: as) jm N
  | mu {n : Nat} {a : Addr} {as : List AR} {jm N : List Addr} : js[n]? = some a → Al js as jm N → Al js (.mu n :: as) (a :: jm) N
  | tmp {a : Addr} {xs : List P} {as : List AR} {jm N : List Addr} : a ∉ js → a ∉ N → Al js as jm N → Al js (.tmp xs :: as) (a :: jm) (a :: N)
theorem Al.mem : ∀ {as : List AR} {jm N : List Addr}, Al js as jm N → ∀ a, a ∈ jm → (∃ n, n ∈ mutIx as ∧ js[n]? = some a) ∨ a ∈ N
  | _, _, _, .nil, a, h => by simp at h
  | _, _, _, .val r, a, h => by simpa [mutIx] using r.mem a h
  | _, _, _, .bor r, a, h => by simpa [mutIx] using r.mem a h
  | _, _, _, .mu (n := n) e r, a, h => by
    rcases List.mem_cons.mp h with rfl | h
    · exact .inl ⟨n, by simp [mutIx], e⟩
    · exact (r.mem a h).imp (fun ⟨k, h1, h2⟩ => ⟨k, by simp [mutIx, h1], h2⟩) id
  | _, _, _, .tmp h1 h2 r, a, h => by
    rcases List.mem_cons.mp h with rfl | h
    · exact .inr (by simp)
    · exact (r.mem a h).imp (fun ⟨k, h1, h2⟩ => ⟨k, by simpa [mutIx] using h1, h2⟩) fun z => by simp [z]
theorem nodupB_iff : ∀ {l : List Nat}, nodupB l = true → l.Nodup
  | [], _ => List.nodup_nil
  | x :: r, h => by
    rw [nodupB, Bool.and_eq_true] at h
    refine List.nodup_cons.mpr ⟨fun z => ?_, nodupB_iff h.2⟩
    have := h.1
    simp [z] at this
theorem Al.notjs : ∀ {as : List AR} {jm N : List Addr}, Al js as jm N → ∀ a, a ∈ N → a ∉ js
  | _, _, _, .nil, a, h => by simp at h
  | _, _, _, .val r, a, h => Al.notjs r a h
  | _, _, _, .bor r, a, h => Al.notjs r a h
  | _, _, _, .mu e r, a, h => Al.notjs r a h
  | _, _, _, .tmp h1 h2 r, a, h => by
    rcases List.mem_cons.mp h with rfl | h
    · exact h1
    · exact Al.notjs r a h
theorem Al.nodup (nd : js.Nodup) : ∀ {as : List AR} {jm N : List Addr}, Al js as jm N → (mutIx as).Nodup → jm.Nodup
  | _, _, _, .nil, _ => List.nodup_nil
  | _, _, _, .val r, h => r.nodup nd h
  | _, _, _, .bor r, h => r.nodup nd h
  | _, _, _, .mu (n := n) e r, h => by
    have h : (n :: mutIx _).Nodup := h
    rw [List.nodup_cons] at h
    refine List.nodup_cons.mpr ⟨fun z => ?_, r.nodup nd h.2⟩
    rcases r.mem _ z with ⟨k, h1, h2⟩ | z'
    · exact h.1 (nodup_at nd e h2 ▸ h1)
    · exact r.notjs _ z' (List.mem_of_getElem? e)
  | _, _, _, .tmp h1 h2 r, h => by
    refine List.nodup_cons.mpr ⟨fun z => ?_, r.nodup nd h⟩
    rcases r.mem _ z with ⟨k, g1, g2⟩ | z'
    · exact h1 (List.mem_of_getElem? g2)
    · exact h2 z'
theorem back_get {R : Addr → Cell → Prop} : ∀ {as : List AR} {jm N : List Addr} {outs cs : Cells}, Al js as jm N → outs.length = jm.length → (∀ (k : Nat) (a : Addr) (c : Cell), jm[k]? = some a → outs[k]? = some c → R a c) →
    (back as outs cs).length = cs.length ∧ ∀ (n : Nat) (c : Cell), (back as outs cs)[n]? = some c → (n ∉ mutIx as ∧ cs[n]? = some c) ∨ ∃ a, n ∈ mutIx as ∧ js[n]? = some a ∧ R a c
  | _, _, _, outs, cs, .nil, l, h => ⟨by simp [back], fun n c e => .inl ⟨by simp [mutIx], by simpa [back] using e⟩⟩
  | _, _, _, outs, cs, .val r, l, h => by
    have := back_get (cs := cs) r l h
    cases outs <;> simpa [back, mutIx] using this
  | _, _, _, outs, cs, .bor r, l, h => by
    have := back_get (cs := cs) r l h
    cases outs <;> simpa [back, mutIx] using this
  | _, _, _, [], cs, .mu e r, l, h => by simp at l
  | _, _, _, o :: outs, cs, .mu (n := m) (a := a) e r, l, h => by
    obtain ⟨h1, h2⟩ := back_get (outs := outs) (cs := cs.set m o) r (by simpa using l) fun k a c g1 g2 => h (k + 1) a c (by simpa using g1) (by simpa using g2)
    refine ⟨by rw [back, h1, List.length_set], fun n c g => ?_⟩
    rw [back] at g
    rcases h2 n c g with ⟨g1, g2⟩ | ⟨b, g1, g2, g3⟩
    · by_cases hn : m = n
      · subst hn
        have l2 : m < cs.length := by
          have := (List.getElem?_eq_some_iff.mp g2).1
          simpa using this
        rw [List.getElem?_set_self l2] at g2
        cases g2
        exact .inr ⟨a, by simp [mutIx], e, h 0 a o (by simp) (by simp)⟩
      · rw [List.getElem?_set_ne hn] at g2
        exact .inl ⟨by simp only [mutIx, List.mem_cons, not_or]; exact ⟨fun z => hn z.symm, g1⟩, g2⟩
    · exact .inr ⟨b, by simp [mutIx, g1], g2, g3⟩
  | _, _, _, [], cs, .tmp g1 g2 r, l, h => by simp at l
  | _, _, _, o :: outs, cs, .tmp (a := a) g1 g2 r, l, h => by
    have := back_get (outs := outs) (cs := cs) r (by simpa using l) fun k a c g1 g2 => h (k + 1) a c (by simpa using g1) (by simpa using g2)
    simpa [back, mutIx] using this
theorem frzAll_get : ∀ {bs : List Nat} {cs cs' : Cells}, frzAll bs cs = some cs' → cs'.length = cs.length ∧ ∀ (n : Nat) (c : Cell), cs'[n]? = some c → (n ∉ bs ∧ cs[n]? = some c) ∨ (n ∈ bs ∧ ∃ d, cs[n]? = some d ∧ ((∃ x, d = .frz x ∧ c = d) ∨ (d.isMut = true ∧ c = .frz d.view)))
  | [], cs, cs', h => by
    simp only [frzAll, Option.some.injEq] at h
    subst h
    exact ⟨rfl, fun n c e => .inl ⟨by simp, e⟩⟩
  | m :: bs, cs, cs', h => by
    simp only [frzAll] at h
    split at h
    · rename_i x hx
      obtain ⟨h1, h2⟩ := frzAll_get h
      refine ⟨h1, fun n c e => ?_⟩
      rcases h2 n c e with ⟨g1, g2⟩ | ⟨g1, g2⟩
      · by_cases hn : n = m
        · subst hn
          rw [hx] at g2; cases g2
          exact .inr ⟨by simp, _, hx, .inl ⟨x, rfl, rfl⟩⟩
        · exact .inl ⟨by simp [hn, g1], g2⟩
      · exact .inr ⟨by simp [g1], g2⟩
    · rename_i d hne hd
      split at h
      · rename_i hm
        obtain ⟨h1, h2⟩ := frzAll_get h
        refine ⟨by rw [h1, List.length_set], fun n c e => ?_⟩
        have lm := (List.getElem?_eq_some_iff.mp hd).1
        rcases h2 n c e with ⟨g1, g2⟩ | ⟨g1, d', g2, g3⟩
        · by_cases hn : m = n
          · subst hn
            rw [List.getElem?_set_self lm] at g2; cases g2
            exact .inr ⟨by simp, d, hd, .inr ⟨hm, rfl⟩⟩
          · rw [List.getElem?_set_ne hn] at g2
            exact .inl ⟨by simp only [List.mem_cons, not_or]; exact ⟨fun z => hn z.symm, g1⟩, g2⟩
        · by_cases hn : m = n
          · subst hn
            rw [List.getElem?_set_self lm] at g2; cases g2
            refine .inr ⟨by simp, d, hd, .inr ⟨hm, ?_⟩⟩
            rcases g3 with ⟨x, _, g⟩ | ⟨g, _⟩
            · exact g
            · simp [Cell.isMut] at g
          · rw [List.getElem?_set_ne hn] at g2
            exact .inr ⟨by simp [g1], d', g2, g3⟩
      · cases h
    · cases h

theorem disjB_iff {as bs : List Nat} (h : disjB as bs = true) : ∀ x, x ∈ as → x ∉ bs := by
  intro x hx hb
  unfold disjB at h
  have := List.all_eq_true.mp h x hx
  simp [hb] at this
/-- the callee's arguments -/
theorem args_ok (s : SR C K M js ρ cs σ H) (B : Addr → Prop) (hB : ∀ n a, n ∈ borIx as → js[n]? = some a → B a) (hM : ∀ n a, n ∈ mutIx as → js[n]? = some a → ¬ B a) (hj : ∀ a, B a → a ∈ js) :
    ∀ {us : List V} {N : List Addr} {xs : List Arg}, RAr C K M js H us as N → argsOf cs as = some xs → ∃ jm, RAg C K (fun b => M b ∧ ¬ B b) H us xs jm ∧ Al js as jm N := by
  have sub : ∀ b, (M b ∧ ¬ B b) → M b := fun b h => h.1
  intro us N xs r
  induction r generalizing xs with
  | nil => intro e; simp only [argsOf, Option.some.injEq] at e; subst e; exact ⟨[], .nil, .nil⟩
  | val rp r ih =>
    intro e
    simp only [argsOf, argOf, Option.bind_some] at e
    obtain ⟨ys, e1, e⟩ := Option.map_eq_some_iff.mp e
    subst e
    obtain ⟨jm, g1, g2⟩ := ih (fun n a h => hB n a (by simpa [borIx] using h)) (fun n a h => hM n a (by simpa [mutIx] using h)) e1
    exact ⟨jm, .imm (rp.sub sub) g1, .val g2⟩
  | @bor a n us as N ej r ih =>
    intro e
    simp only [argsOf, argOf] at e
    obtain ⟨y, e0, e⟩ := Option.bind_eq_some_iff.mp e
    obtain ⟨ys, e1, e⟩ := Option.map_eq_some_iff.mp e
    obtain ⟨c, ec, e0⟩ := Option.map_eq_some_iff.mp e0
    subst e e0
    obtain ⟨jm, g1, g2⟩ := ih (fun n a h => hB n a (by simp [borIx, h])) (fun n a h => hM n a (by simpa [mutIx] using h)) e1
    refine ⟨jm, .imm ?_ g1, .bor g2⟩
    have rc := s.cel n a c ej ec
    have b : B a := hB n a (by simp [borIx]) ej
    cases rc with
    | lst q e1 z => exact .lst e1 (fun z => z.2 b) (z.sub sub)
    | obj q c e1 f z => exact .ins c e1 (fun z => z.2 b) f (z.sub sub)
    | lock q e1 z => exact .lst e1 (fun z => z.2 b) (z.sub sub)
    | frz z d n => exact z.sub sub
  | @mu a n us as N ej r ih =>
    intro e
    simp only [argsOf, argOf] at e
    obtain ⟨y, e0, e⟩ := Option.bind_eq_some_iff.mp e
    obtain ⟨ys, e1, e⟩ := Option.map_eq_some_iff.mp e
    obtain ⟨c, ec, e0⟩ := Option.bind_eq_some_iff.mp e0
    split at e0
    · rename_i hm
      cases e0
      subst e
      obtain ⟨jm, g1, g2⟩ := ih (fun n a h => hB n a (by simpa [borIx] using h)) (fun n a h => hM n a (by simp [mutIx, h])) e1
      refine ⟨a :: jm, .mu ((s.cel n a c ej ec).sub sub fun q => ⟨q, hM n a (by simp [mutIx]) ej⟩) hm g1, .mu ej g2⟩
    · cases e0
  | @tmp a us vs ys as N eH m rp nj nN r ih =>
    intro e
    simp only [argsOf, argOf, Option.bind_some] at e
    obtain ⟨zs, e1, e⟩ := Option.map_eq_some_iff.mp e
    subst e
    obtain ⟨jm, g1, g2⟩ := ih (fun n a h => hB n a (by simpa [borIx] using h)) (fun n a h => hM n a (by simpa [mutIx] using h)) e1
    exact ⟨a :: jm, .mu (.lst ⟨m, fun b => nj (hj a b)⟩ eH (rp.sub sub)) rfl g1, .tmp nj nN g2⟩

theorem args_mut : ∀ {as : List AR} {xs : List Arg}, argsOf cs as = some xs → ∀ n, n ∈ mutIx as → ∃ c, cs[n]? = some c ∧ c.isMut = true
  | [], _, _, n, h => by simp [mutIx] at h
  | a :: as, xs, e, n, h => by
    simp only [argsOf] at e
    obtain ⟨y, e0, e⟩ := Option.bind_eq_some_iff.mp e
    obtain ⟨ys, e1, e⟩ := Option.map_eq_some_iff.mp e
    have ih := args_mut e1
    cases a with
    | val x => exact ih n (by simpa [mutIx] using h)
    | bor m => exact ih n (by simpa [mutIx] using h)
    | tmp x => exact ih n (by simpa [mutIx] using h)
    | mu m =>
      simp only [mutIx, List.mem_cons] at h
      rcases h with rfl | h
      · simp only [argOf] at e0
        obtain ⟨c, ec, e0⟩ := Option.bind_eq_some_iff.mp e0
        split at e0
        · rename_i hm; exact ⟨c, ec, hm⟩
        · cases e0
      · exact ih n h
/-- a thing that the callee does not have -/
theorem RC.move {a : Addr} {c : Cell} {S : Addr → Prop} (r : RC C K M H a c) (k : Keep S H H') (ns : ¬ S a) (kM : Keep M H H') (un : ∀ b, H b ≠ none → M2 b → M b) (m : M a → M2 a) : RC C K M2 H' a c := by
  cases r with
  | lst q e z => exact .lst (m q) (k.obj _ _ e ns) (z.mono kM un)
  | obj q c e f z => exact .obj (m q) c (k.obj _ _ e ns) f (z.mono kM un)
  | lock q e z => exact .lock (m q) (k.obj _ _ e ns) (z.mono kM un)
  | frz z d n => exact .frz (z.mono kM un) (k.dom _ d) fun w => n (un _ d w)
theorem RC.flat {a : Addr} {c : Cell} (r : RC C K M H a c) (f : c.flat = true) (m : M2 a) : RC C K M2 H a c := by
  cases r with
  | lst q e z => exact .lst m e (z.flat f)
  | obj q c e g z => exact .obj m c e g (z.flat f)
  | lock q e z => simp [Cell.flat] at f
  | frz z d n => simp [Cell.flat] at f
/-- the state behind a call -/
theorem call_back {M0 : Addr → Prop} {cs0 : Cells} {H0 : Hp} {Z B : Addr → Prop} {fl : Bool} {xs : List Arg} (s0 : SR C K M0 js ρ cs0 σ H0) (t : TrN N M0 js cs0 H0 M cs H) (s : SR C K M js ρ cs σ H)
    (e : settle as fl outs cs = some cs') (hm : argsOf cs as = some xs) (nd : (mutIx as).Nodup) (dj : ∀ x, x ∈ mutIx as → x ∉ borIx as) (al : Al js as jm N) (hN : ∀ a, a ∈ N → M a) (hB : ∀ a, B a ↔ ∃ n, n ∈ borIx as ∧ js[n]? = some a)
    (hZ : ∀ a, Z a → H a = none ∧ M' a) (en : EndR C K (fun b => M b ∧ ¬ B b) jm H M' outs H') :
    ∃ M2, SR C K M2 js ρ cs' σ H' ∧ Keep (Ow js cs0) H0 H' ∧ (∀ b, M2 b → M0 b ∨ H0 b = none) ∧ (∀ b, M0 b → M2 b ∨ Ow js cs0 b) ∧ (∀ a, Ow js cs' a → Ow js cs0 a) ∧ (∀ a, Z a → M2 a) ∧
      ∀ us ps, RPs C K M' H' us ps → (fl = true → P.flatL ps = true) → RPs C K M2 H' us ps := by
  have args := args_mut hm
  have jmM : ∀ a, a ∈ jm → M a := fun a h => by
    rcases al.mem a h with ⟨n, h1, h2⟩ | h
    · obtain ⟨c, h3, h4⟩ := args n h1
      exact s.ow ⟨n, c, h2, h3, h4⟩
    · exact hN a h
  have kM : Keep M H H' := en.keep.mono jmM
  have nZ : ∀ b, H b ≠ none → ¬ Z b := fun b h z => h (hZ b z).1
  have NH : ∀ b, b ∈ N → H b ≠ none := fun b h => s.dom b (hN b h)
  have jsN : ∀ n a, js[n]? = some a → a ∉ N := fun n a h z => al.notjs a z (List.mem_of_getElem? h)
  have notjm : ∀ n a, js[n]? = some a → n ∉ mutIx as → a ∉ jm := fun n a h1 h2 z => by
    rcases al.mem a z with ⟨k, g1, g2⟩ | h
    · exact h2 (nodup_at s.nd h1 g2 ▸ g1)
    · exact jsN n a h1 h
  have keep : Keep (Ow js cs0) H0 H' := by
    refine ⟨fun b o h n => en.keep.obj b o (t.keep.obj b o h n) fun z => ?_, fun b xs h => en.keep.tup b xs (t.keep.tup b xs h), fun b o u h => en.keep.frz b o u (t.keep.frz b o u h), fun b h => en.keep.dom b (t.keep.dom b h)⟩
    rcases al.mem b z with ⟨k, g1, g2⟩ | z
    · obtain ⟨c, h3, h4⟩ := args k g1
      exact n (t.ow b ⟨k, c, g2, h3, h4⟩)
    · have := (t.new b z).1
      rw [h] at this; cases this
  have bg := fun (R : Addr → Cell → Prop) h => back_get (R := R) (outs := outs) (cs := cs) al en.len h
  have notB : ∀ n a, js[n]? = some a → n ∉ borIx as → ¬ B a := fun n a h1 h2 b => by
    obtain ⟨k, g1, g2⟩ := (hB a).mp b
    exact h2 (nodup_at s.nd g2 h1 ▸ g1)
  unfold settle at e
  split at e
  · rename_i hc
    rw [Bool.and_eq_true] at hc
    cases e
    obtain ⟨b1, b2⟩ := bg (fun a c => RC C K M' H' a c ∧ c.flat = true) fun k a c h1 h2 => ⟨en.cel k a c h1 h2, List.all_eq_true.mp hc.2 c (List.mem_of_getElem? h2)⟩
    have un : ∀ b, H b ≠ none → ((M b ∧ b ∉ N) ∨ Z b) → M b := fun b h q => q.elim (fun z => z.1) fun z => (nZ b h z).elim
    refine ⟨fun b => (M b ∧ b ∉ N) ∨ Z b, ⟨fun a q => ?_, fun i v h => ?_, s.sl, by rw [b1]; exact s.len, s.nd, fun n a c h1 h2 => ?_⟩, keep, fun b q => ?_, fun b q => ?_, fun a ⟨n, c, h1, h2, h3⟩ => ?_, fun a z => .inr z, fun us ps r f => r.flat (f hc.1)⟩
    · rcases q with q | q
      · exact kM.dom a (s.dom a q.1)
      · exact en.dom a (hZ a q).2
    · obtain ⟨u, h1, h2⟩ := s.env i v h
      refine ⟨u, h1, ?_⟩
      cases v with
      | p x => exact RP.mono kM un h2
      | ref n => exact h2
    · rcases b2 n c h2 with ⟨g1, g2⟩ | ⟨a', g1, g2, g3, g4⟩
      · exact (s.cel n a c h1 g2).move en.keep (notjm n a h1 g1) kM un fun q => .inl ⟨q, jsN n a h1⟩
      · rw [h1] at g2; cases g2
        obtain ⟨d, h3, h4⟩ := args n g1
        exact g3.flat g4 (.inl ⟨s.ow ⟨n, d, h1, h3, h4⟩, jsN n a h1⟩)
    · rcases q with q | q
      · exact t.subN b q.1
      · exact .inr (t.keep.pure (hZ b q).1)
    · rcases t.sup b q with z | z
      · exact .inl (.inl ⟨z, fun w => by have := s0.dom b q; exact this (t.new b w).1⟩)
      · exact .inr z
    · refine t.ow a ?_
      rcases b2 n c h2 with ⟨g1, g2⟩ | ⟨a', g1, g2, _⟩
      · exact ⟨n, c, h1, g2, h3⟩
      · obtain ⟨d, h3, h4⟩ := args n g1
        exact ⟨n, d, h1, h3, h4⟩
  · obtain ⟨b1, b2⟩ := bg (fun a c => RC C K M' H' a c) fun k a c h1 h2 => en.cel k a c h1 h2
    obtain ⟨f1, f2⟩ := frzAll_get e
    have un : ∀ b, H b ≠ none → (M' b ∧ b ∉ N) → M b := fun b h q => (en.sub b q.1).elim (fun z => z.1) fun z => (h z).elim
    have unB : ∀ b, H b ≠ none → M' b → ¬ B b := fun b h q => (en.sub b q).elim (fun z => z.2) fun z => (h z).elim
    have sub : ∀ b, (M' b ∧ b ∉ N) → M' b := fun b h => h.1
    refine ⟨fun b => M' b ∧ b ∉ N, ⟨fun a q => en.dom a q.1, fun i v h => ?_, s.sl, by rw [f1, b1]; exact s.len, s.nd, fun n a c h1 h2 => ?_⟩, keep, fun b q => ?_, fun b q => ?_, fun a ⟨n, c, h1, h2, h3⟩ => ?_, fun a z => ⟨(hZ a z).2, fun w => NH a w (hZ a z).1⟩, fun us ps r _ => r.sub sub⟩
    · obtain ⟨u, h1, h2⟩ := s.env i v h
      refine ⟨u, h1, ?_⟩
      cases v with
      | p x => exact RP.mono kM un h2
      | ref n => exact h2
    · have ja := s.js_there h1
      rcases f2 n c h2 with ⟨g1, g2⟩ | ⟨g1, d, g2, g3⟩
      · rcases b2 n c g2 with ⟨k1, k2⟩ | ⟨a', k1, k2, k3⟩
        · refine (s.cel n a c h1 k2).move en.keep (notjm n a h1 k1) kM un fun q => ⟨?_, jsN n a h1⟩
          exact (en.sup a ⟨q, notB n a h1 g1⟩).elim id fun z => (notjm n a h1 k1 z).elim
        · rw [h1] at k2; cases k2
          exact k3.sub sub fun q => ⟨q, jsN n a h1⟩
      · have nm : n ∉ mutIx as := fun z => dj n z g1
        have e2 : cs[n]? = some d := by
          rcases b2 n d g2 with ⟨_, k2⟩ | ⟨_, k1, _⟩
          · exact k2
          · exact (nm k1).elim
        have r := s.cel n a d h1 e2
        have hb : B a := (hB a).mpr ⟨n, g1, h1⟩
        rcases g3 with ⟨x, rfl, rfl⟩ | ⟨hmu, rfl⟩
        · exact r.move en.keep (notjm n a h1 nm) kM un fun q => by cases r with | frz z d n => exact (n q).elim
        · have na : ¬ (M' a ∧ a ∉ N) := fun q => unB a ja q.1 hb
          have ha := notjm n a h1 nm
          refine .frz ?_ (kM.dom a ja) na
          cases r with
          | lst q e1 z => exact .lst (en.keep.obj _ _ e1 ha) na (z.mono kM un)
          | obj q c e1 f z => exact .ins c (en.keep.obj _ _ e1 ha) na f (z.mono kM un)
          | lock q e1 z => simp [Cell.isMut] at hmu
          | frz z d n => simp [Cell.isMut] at hmu
    · rcases en.sub b q.1 with z | z
      · exact t.subN b z.1
      · exact .inr (t.keep.pure z)
    · rcases t.sup b q with z | z
      · by_cases hb : B b
        · obtain ⟨n, g1, g2⟩ := (hB b).mp hb
          obtain ⟨c, gc⟩ : ∃ c, cs[n]? = some c := by
            have l : n < cs.length := by rw [← s.len]; exact (List.getElem?_eq_some_iff.mp g2).1
            exact ⟨cs[n], by simp [l]⟩
          have nm : n ∉ mutIx as := fun z => dj n z g1
          have gb : (back as outs cs)[n]? = some c := by
            have l : n < (back as outs cs).length := by rw [b1]; exact (List.getElem?_eq_some_iff.mp gc).1
            obtain ⟨d, gd⟩ : ∃ d, (back as outs cs)[n]? = some d := ⟨(back as outs cs)[n], by simp [l]⟩
            rcases b2 n d gd with ⟨_, k2⟩ | ⟨_, k1, _⟩
            · rw [gc] at k2; cases k2; exact gd
            · exact (nm k1).elim
          have l2 : n < cs'.length := by rw [f1]; exact (List.getElem?_eq_some_iff.mp gb).1
          rcases f2 n cs'[n] (by simp [l2]) with ⟨k1, _⟩ | ⟨_, d, k2, k3⟩
          · exact (k1 g1).elim
          · rw [gb] at k2; cases k2
            rcases k3 with ⟨x, rfl, _⟩ | ⟨hmu, _⟩
            · have := s.cel n b _ g2 gc
              cases this with | frz _ _ nM => exact (nM z).elim
            · exact .inr (t.ow b ⟨n, c, g2, gc, hmu⟩)
        · rcases en.sup b ⟨z, hb⟩ with w | w
          · exact .inl ⟨w, fun v => by have := s0.dom b q; exact this (t.new b v).1⟩
          · rcases al.mem b w with ⟨k, g1, g2⟩ | w
            · obtain ⟨c, h3, h4⟩ := args k g1
              exact .inr (t.ow b ⟨k, c, g2, h3, h4⟩)
            · have := s0.dom b q; exact (this (t.new b w).1).elim
      · exact .inr z
    · refine t.ow a ?_
      rcases f2 n c h2 with ⟨g1, g2⟩ | ⟨g1, d, g2, g3⟩
      · rcases b2 n c g2 with ⟨k1, k2⟩ | ⟨a', k1, k2, k3⟩
        · exact ⟨n, c, h1, k2, h3⟩
        · obtain ⟨d, h3, h4⟩ := args n k1
          exact ⟨n, d, h1, h3, h4⟩
      · rcases g3 with ⟨x, rfl, rfl⟩ | ⟨_, rfl⟩ <;> simp [Cell.isMut] at h3
end
end Ev
set_option maxRecDepth 100000
set_option maxHeartbeats 1000000
/-! Ev8: calls, continued -/
namespace Ev
open PySem L2 PyProof.Rows
section
variable {C : ClsA} {K : PySem.W.Frag} {M M' M1 M2 : Addr → Prop} {js jm N N' : List Addr} {ρ : Env} {cs cs1 cs2 cs' outs : Cells} {σ : L2.St} {H H1 H2 H' : Hp} {us : List V} {as : List AR}
theorem TrN.trans2 (s : SR C K M js ρ cs σ H) (a : TrN N M js cs H M1 cs1 H1) (b : TrN N' M1 js cs1 H1 M2 cs2 H2) : TrN (N ++ N') M js cs H M2 cs2 H2 := by
  refine ⟨a.keep.trans (b.keep.mono a.ow), fun x h => ?_, fun x h => ?_, fun x h => a.ow x (b.ow x h), fun x h => ?_⟩
  · exact (b.subN x h).elim (a.subN x) fun z => .inr (a.keep.pure z)
  · exact (a.sup x h).elim (fun z => (b.sup x z).imp id (a.ow x)) .inr
  · rcases List.mem_append.mp h with z | z
    · obtain ⟨h1, h2⟩ := a.new x z
      refine ⟨h1, (b.sup x h2).elim id fun ⟨n, c, g1, g2, g3⟩ => (s.js_there g1 h1).elim⟩
    · obtain ⟨h1, h2⟩ := b.new x z
      exact ⟨a.keep.pure h1, h2⟩
theorem RAr.mem : ∀ {us : List V} {as : List AR} {N : List Addr}, RAr C K M js H us as N → ∀ a, a ∈ N → M a
  | _, _, _, .nil, a, h => by simp at h
  | _, _, _, .val _ r, a, h => r.mem a h
  | _, _, _, .bor _ r, a, h => r.mem a h
  | _, _, _, .mu _ r, a, h => r.mem a h
  | _, _, _, .tmp _ m _ _ _ r, a, h => by
    rcases List.mem_cons.mp h with rfl | h
    · exact m
    · exact r.mem a h
end
/-- a call with evaluated arguments, and what follows -/
theorem call_end {F : Fx} {K : PySem.W.Frag} {M0 M : Addr → Prop} {js N : List Addr} {ρ : Env} {cs0 cs : Cells} {σ : L2.St} {H0 H : Hp} {us : List V} {as : List AR} {f : Nat} {φ : P × Bool → Cells → Prop} {ε : Nat → List P → Cells → Prop} {Q : VK} {E : XK}
    (s0 : SR F.C K M0 js ρ cs0 σ H0) (t : TrN N M0 js cs0 H0 M cs H) (s : SR F.C K M js ρ cs σ H) (r : RAr F.C K M js H us as N) (h : (doCall F.call f as cs).sat φ ε)
    (hok : ∀ x cs' u M' H', φ (x, false) cs' → SR F.C K M' js ρ cs' σ H' → Tr M0 js cs0 H0 M' cs' H' → RP F.C K M' H' u x → Q u H')
    (hown : ∀ xs cs' a us M' H', φ (.lst xs, true) cs' → SR F.C K M' js ρ cs' σ H' → TrL a M0 js cs0 H0 M' cs' H' → H' a = some (.lst us) → RPs F.C K M' H' us xs → Q (.ref a) H')
    (hex : ∀ c fs cs' cls d M' H', ε c fs cs' → SR F.C K M' js ρ cs' σ H' → Tr M0 js cs0 H0 M' cs' H' → ExR F.C F.EC K M' H' c fs cls d → E cls d H') :
    SpE F.C F.EC K (F.call f) us H Q E := by
  unfold doCall at h
  split at h
  · rename_i hc
    rw [Bool.and_eq_true] at hc
    have nd := nodupB_iff hc.1
    have dj := disjB_iff hc.2
    split at h
    · exact h.elim
    · rename_i xs hx
      let B : Addr → Prop := fun a => ∃ n, n ∈ borIx as ∧ js[n]? = some a
      obtain ⟨jm, g1, al⟩ := args_ok s B (fun n a h1 h2 => ⟨n, h1, h2⟩) (fun n a h1 h2 ⟨k, k1, k2⟩ => dj n h1 (nodup_at s.nd k2 h2 ▸ k1)) (fun a ⟨n, _, h⟩ => List.mem_of_getElem? h) r hx
      refine ⟨fun b => M b ∧ ¬ B b, xs, jm, fun a q => s.dom a q.1, al.nodup s.nd nd, g1, ?_⟩
      revert h
      cases hcall : F.call f xs with
      | stk => exact fun h => h.elim
      | ok x own outs =>
        intro h u M' H' en h1 h2
        dsimp only at h
        rw [R.sat_bind, R.sat_opt] at h
        obtain ⟨cs', e, h⟩ := h
        replace h := R.sat_ok.mp h
        cases own with
        | false =>
          have rp := h1 rfl
          obtain ⟨M2, s2, k2, k3, k4, k5, _, k7⟩ := call_back (Z := fun _ => False) s0 t s e hx nd dj al r.mem (fun _ => Iff.rfl) (fun _ z => z.elim) en
          refine hok x cs' u M2 H' h s2 (Tr.mk k2 k3 k4 k5) ?_
          have := k7 [u] [x] (.cons rp .nil) fun e => by simpa [resFlat, P.flatL] using e
          cases this with | cons r _ => exact r
        | true =>
          obtain ⟨a, vs, ys, rfl, rfl, ha, ma, e1, rp⟩ := h2 rfl
          obtain ⟨M2, s2, k2, k3, k4, k5, k6, k7⟩ := call_back (Z := fun b => b = a) s0 t s e hx nd dj al r.mem (fun _ => Iff.rfl) (fun b z => by subst z; exact ⟨ha, ma⟩) en
          refine hown ys cs' a vs M2 H' h s2 ⟨k2, k3, k4, k5, fun b z => ?_⟩ e1 (k7 _ _ rp fun e => by simpa [resFlat] using e)
          simp only [List.mem_singleton] at z
          subst z
          exact ⟨t.keep.pure ha, k6 _ rfl⟩
      | exc c fs outs =>
        intro h cls d M' H' en ex
        dsimp only at h
        cases e : settle as (P.flatL fs) outs cs with
        | none => rw [e] at h; exact h.elim
        | some cs' =>
          rw [e] at h
          obtain ⟨M2, s2, k2, k3, k4, k5, _, k7⟩ := call_back (Z := fun _ => False) s0 t s e hx nd dj al r.mem (fun _ => Iff.rfl) (fun _ z => z.elim) en
          refine hex c fs cs' cls d M2 H' h s2 (Tr.mk k2 k3 k4 k5) ?_
          obtain ⟨A, ns, g1, g2, g3⟩ := ex
          refine ⟨A, ns, g1, g2, g3.imp id ?_⟩
          rintro ⟨dx, kvs, d1, d2, d3, d4, d5⟩
          refine ⟨dx, kvs, d1, d2, d3, d4, fun i n p e1 e2 => ?_⟩
          obtain ⟨u, w1, w2⟩ := d5 i n p e1 e2
          refine ⟨u, w1, ?_⟩
          have fl : P.flatL fs = true → P.flatL [p] = true := fun z => by
            have : ∀ (l : List P) (i : Nat), P.flatL l = true → l[i]? = some p → p.flat = true := fun l => by
              induction l with
              | nil => intro i _ h; simp at h
              | cons y l ih =>
                intro i hf hi
                rw [P.flatL, Bool.and_eq_true] at hf
                cases i with
                | zero => simp at hi; subst hi; exact hf.1
                | succ i => exact ih i hf.2 (by simpa using hi)
            simp [P.flatL, this fs i z e2]
          have := k7 [u] [p] (.cons w2 .nil) fl
          cases this with | cons r _ => exact r
  · exact h.elim
/-! ### rows of arguments -/
section
variable (F : Fx) (K : PySem.W.Frag) (W : WX)
def trAs (as : CAs) : TA := fun σ H Q =>
  ∃ M js ρ cs, SR F.C K M js ρ cs σ H ∧ F.J js M cs H ∧ (evAs F.G F.call as ρ cs).sat (fun ars cs' => ∀ us N M' H', SR F.C K M' js ρ cs' σ H' → TrN N M js cs H M' cs' H' → RAr F.C K M' js H' us ars N → Q us H') (F.Eps K W js ρ σ)
end
section
variable {F : Fx} {W : WX} {X : Cx} {pos p : Pos} {e : Expr} {es : List Expr} {ce : CE} {ces : CAs}
theorem s_asnil : PA X [] (trAs F X.K W .nil) := pa_nil.imp fun σ H Q ⟨M, js, ρ, cs, s, j, h⟩ => h [] [] M H s Tr.refl .nil
theorem s_asimm (ha : PE X e (trE F X.K W ce)) (hr : PA X es (trAs F X.K W ces)) (hn : notStar e = true) : PA X (e :: es) (trAs F X.K W (.imm ce ces)) := by
  refine (pa_cons ha hr (star_no hn)).imp fun σ H Q h => ?_
  obtain ⟨M, js, ρ, cs, s, j, h⟩ := h
  refine ⟨M, js, ρ, cs, s, j, ?_⟩
  simp only [evAs] at h
  rw [R.sat_bind] at h
  refine h.mono (fun v cs1 h u M1 H1 s1 t1 r1 => ?_) fun _ _ _ h => h
  refine ⟨M1, js, ρ, cs1, s1, F.st j (t1.j s1), ?_⟩
  rw [R.sat_bind] at h
  refine h.mono (fun vs cs2 h us N M2 H2 s2 t2 r2 => ?_) fun _ _ _ h => h
  cases v with
  | p x => exact h (u :: us) N M2 H2 s2 (t1.trans2 s t2) (.val (s1.rp t2 r1) r2)
  | ref n =>
    obtain ⟨a, ha, rfl⟩ := r1
    exact h _ N M2 H2 s2 (t1.trans2 s t2) (.bor ha r2)
theorem s_asmv {i : Nat} {x : Str} (hN : X.N[i]? = some x) (hv : Vis X.env.scope x) (hd : (x == ("__debug__" : Str)) = false) (hcd : (x == ("__classdict__" : Str)) = false) (hr : PA X es (trAs F X.K W ces)) : PA X (.Name x p :: es) (trAs F X.K W (.mv i ces)) := by
  refine (pa_cons (pe_var hN hv hd hcd) hr (by rfl)).imp fun σ H Q h => ?_
  obtain ⟨M, js, ρ, cs, s, j, h⟩ := h
  simp only [evAs] at h
  split at h
  · rename_i n hn
    obtain ⟨u, h1, a, h2, rfl⟩ := s.env i _ hn
    refine ⟨_, h1, M, js, ρ, cs, s, j, ?_⟩
    rw [R.sat_bind] at h
    exact h.mono (fun vs cs2 h us N M2 H2 s2 t2 r2 => h _ N M2 H2 s2 t2 (.mu h2 r2)) fun _ _ _ h => h
  · exact h.elim
theorem s_asml {le : CL} (ha : PE X e (trL F X.K W le)) (hr : PA X es (trAs F X.K W ces)) (hn : notStar e = true) : PA X (e :: es) (trAs F X.K W (.ml le ces)) := by
  refine (pa_cons ha hr (star_no hn)).imp fun σ H Q h => ?_
  obtain ⟨M, js, ρ, cs, s, j, h⟩ := h
  refine ⟨M, js, ρ, cs, s, j, ?_⟩
  simp only [evAs] at h
  rw [R.sat_bind] at h
  refine h.mono (fun xs cs1 h a vs M1 H1 s1 t1 e1 r1 => ?_) fun _ _ _ h => h
  refine ⟨M1, js, ρ, cs1, s1, F.st j (t1.j s1), ?_⟩
  rw [R.sat_bind] at h
  refine h.mono (fun as cs2 h us N M2 H2 s2 t2 r2 => ?_) fun _ _ _ h => h
  obtain ⟨h0, m1⟩ := t1.new a (by simp)
  have nj : a ∉ js := fun z => by
    obtain ⟨n, hn⟩ := List.getElem?_of_mem z
    exact s.js_there hn h0
  have no : ¬ Ow js cs1 a := fun ⟨n, c, g1, _, _⟩ => nj (List.mem_of_getElem? g1)
  exact h _ (a :: N) M2 H2 s2 (t1.trans2 s t2) (.tmp (t2.keep.obj _ _ e1 no) ((t2.sup a m1).elim id fun z => (no z).elim) (s1.rps t2 r1) nj (fun z => by rw [(t2.new a z).1] at e1; cases e1) r2)

/-! ### a call -/
theorem run_makeS {CX : CXT} {k : Nat} {C f : Addr} {fd : FuncData} {ps : List Str} {sp : Sp} {E : XK} {pins : List (Addr × Obj)} {σ : L2.St} {H : Hp} {s : Shared} {Q : VK} {us ds : List Value} {vs dvs : List V} (M : L2.Mk X.K C f) (F : FnOk X.prog X.w X.K X.mg X.base CX k f fd ps sp) (hr : Room (k + 1) X.A) (hb : Binds X.K fd ps ds) (hd : Vals dvs ds)
    (hx : PassesAt CX X σ E) (I : Inv X pins σ H s) (r : Vals vs us)
    (h : ∀ x dx, H x = none → H dx = none → dx ≠ x → sp (.ref x :: (vs ++ dvs)) (upd (upd H dx (.own x)) x (.ins C dx [])) (fun v H2 => v = .non ∧ Q (.ref x) H2) E) :
    wpAny (model X.prog X.w) X.A (call (.ref C) us) (EP X pins σ Q) X.xe s := by
  have hq := h (s.heap.objs.size + 1) s.heap.objs.size (I.hok.fresh (Nat.le_succ _)) (I.hok.fresh (Nat.le_refl _)) (Nat.ne_of_lt (Nat.lt_succ_self _))
  have I2 := Inv.made (C := C) I
  have r2 : Vals (V.ref (s.heap.objs.size + 1) :: (vs ++ dvs)) (Value.ref (s.heap.objs.size + 1) :: (us ++ ds)) := .cons rfl (r.append hd)
  have hl : (Value.ref (s.heap.objs.size + 1) :: us ++ ds).length = ps.length := by
    have e := r2.length
    rw [F.len _ _ _ _ hq] at e
    exact e.symm
  refine wpAny_call (make_map (f := f) I.kIn M.makes M.init (beq_iff_eq.mp M.fn) (codeAny_mono (F.run _ X.stack _ _ ⟨Value.ref (s.heap.objs.size + 1) :: us, []⟩ (Value.ref (s.heap.objs.size + 1) :: (us ++ ds)) _ _ E (hr.make C us [])
    (I2.env0.make C us []) (hb _ (Value.ref (s.heap.objs.size + 1) :: us) I2.kIn hl) r2 hq) fun r s' hq' => ?_))
  cases r with
  | error e => exact hx pins _ _ e s' I2 hq'
  | ok fl =>
    cases fl with
    | ret u =>
      obtain ⟨v, H', I3, rv, ev, q3⟩ := I2.after hq'
      subst ev
      exact ⟨rv, ⟨V.ref (s.heap.objs.size + 1), H', I3, rfl, q3⟩⟩
    | next => exact False.elim hq'
    | brk => exact False.elim hq'
    | cont => exact False.elim hq'
/-- a class, as it is called -/
def SpM (C : Addr) (sp : Sp) : Sp := fun vs H Q E => ∀ x dx, H x = none → H dx = none → dx ≠ x → sp (.ref x :: vs) (upd (upd H dx (.own x)) x (.ins C dx [])) (fun v H2 => v = .non ∧ Q (.ref x) H2) E
/-- a function of the text by its name -/
structure FnAt (F : Fx) (X : Cx) (k f : Nat) (x : Str) : Prop where
  at_ : (∃ a fd ps, X.mg x = some (.ref a) ∧ PySem.W.keepIn X.K (.ref a) = true ∧ Binds X.K fd ps [] ∧ FnOk X.prog X.w X.K X.mg X.base (L2.CX X.prog X.w) k a fd ps (SpE F.C F.EC X.K (F.call f))) ∨
    (∃ A a fd ps j sp, k = j + 1 ∧ X.mg x = some (.ref A) ∧ L2.Mk X.K A a ∧ Binds X.K fd ps [] ∧ FnOk X.prog X.w X.K X.mg X.base (L2.CX X.prog X.w) j a fd ps sp ∧ (∀ vs H Q E, SpE F.C F.EC X.K (F.call f) vs H Q E → SpM A sp vs H Q E)) ∨
    ∃ A, X.mg x = some (.ref A) ∧ PySem.W.keepIn X.K (.ref A) = true ∧ ∀ vs H Q E, ¬ SpE F.C F.EC X.K (F.call f) vs H Q E
theorem callS {k f : Nat} {x : Str} {t : TA} (g : FnAt F X k f x) (hr : Room k X.A) (hg : Gl X x) (hd : (x == ("__debug__" : Str)) = false) (tk : Takes X W) (ha : PA X (e :: es) t) (hn : (e :: es).all notStar = true) :
    PE X (.Call (.Name x p) (e :: es) [] pos) (tCallS (SpE F.C F.EC X.K (F.call f)) (WE W) t) := by
  rcases g.at_ with ⟨a, fd, ps, h1, h2, h3, h4⟩ | ⟨A, a, fd, ps, j, sp, rfl, h1, h2, h3, h4, h5⟩ | ⟨A, h1, h2, h3⟩
  · rw [List.all_cons, Bool.and_eq_true] at hn
    exact pe_callS h4 hr hg h1 h2 h3 (passAt tk) ha hd (star_no hn.1) (back_no hn.2)
  · rw [List.all_cons, Bool.and_eq_true] at hn
    refine ⟨fun pins s σ H Q I h => ?_⟩
    refine wpAny_Call_Name_kw (ld_glob I hg h1 ?_ hd)
    refine PySem.W.callWith_K (h₀ := X.base) I.ok.mod.kin h2.kp (thn (ha.run pos pins s σ H _ I h) fun us s1 ⟨vs, H1, I1, r, q⟩ => ⟨I1.kIn, ?_⟩) (star_no hn.1) (back_no hn.2)
    exact run_makeS h2 h4 hr h3 .nil (passAt tk σ) I1 r (by rw [List.append_nil]; exact h5 _ _ _ _ q)
  · rw [List.all_cons, Bool.and_eq_true] at hn
    refine ⟨fun pins s σ H Q I h => ?_⟩
    refine wpAny_Call_Name_kw (ld_glob I hg h1 ?_ hd)
    exact PySem.W.callWith_K (h₀ := X.base) I.ok.mod.kin h2 (thn (ha.run pos pins s σ H _ I h) fun us s1 ⟨vs, H1, I1, r, q⟩ => ⟨I1.kIn, (h3 _ _ _ _ q).elim⟩) (star_no hn.1) (back_no hn.2)
theorem callS0 {k f : Nat} {x : Str} (g : FnAt F X k f x) (hr : Room k X.A) (hg : Gl X x) (hd : (x == ("__debug__" : Str)) = false) (tk : Takes X W) :
    PE X (.Call (.Name x p) [] [] pos) (tCallS (SpE F.C F.EC X.K (F.call f)) (WE W) tNil) := by
  rcases g.at_ with ⟨a, fd, ps, h1, h2, h3, h4⟩ | ⟨A, a, fd, ps, j, sp, rfl, h1, h2, h3, h4, h5⟩ | ⟨A, h1, h2, h3⟩
  · refine ⟨fun pins s σ H Q I h => ?_⟩
    refine wpAny_Call_Name_kw (ld_glob I hg h1 ?_ hd)
    exact PySem.W.callWith_K0 I.kIn h2 (run_fnS (us := []) h4 hr h3 (passAt tk σ) I .nil h)
  · refine ⟨fun pins s σ H Q I h => ?_⟩
    refine wpAny_Call_Name_kw (ld_glob I hg h1 ?_ hd)
    exact PySem.W.callWith_K0 I.kIn h2.kp (run_makeS (us := []) h2 h4 hr h3 .nil (passAt tk σ) I .nil (h5 _ _ _ _ h))
  · exact ⟨fun pins s σ H Q I h => (h3 _ _ _ _ h).elim⟩
theorem imp_call {f : Nat} {as : CAs} {σ : L2.St} {H : Hp} {Q : VK} (h : trE F X.K W (.call f as) σ H Q) : tCallS (SpE F.C F.EC X.K (F.call f)) (WE W) (trAs F X.K W as) σ H Q := by
  obtain ⟨M, js, ρ, cs, s, j, h⟩ := h
  refine ⟨M, js, ρ, cs, s, j, ?_⟩
  simp only [evE] at h
  rw [R.sat_bind] at h
  refine h.mono (fun ars cs1 h us N M1 H1 s1 t1 r1 => ?_) fun _ _ _ h => h
  rw [R.sat_bind] at h
  refine call_end s t1 s1 r1 h (fun x cs' u M' H' q s' t' r => q u M' H' s' t' r) (fun xs cs' a us M' H' q s' t' e1 r => ?_) fun c fs cs' cls d M' H' q s' t' ex => q cls d M' H' s' (F.st j (t'.j s')) ex
  have h0 := (t'.new a (by simp)).1
  have sub : ∀ b, (M' b ∧ b ≠ a) → M' b := fun b h => h.1
  refine q (.ref a) (fun b => M' b ∧ b ≠ a) H' ⟨fun b q => s'.dom b q.1, fun i v e => ?_, s'.sl, s'.len, s'.nd, fun n b c h1 h2 => (s'.cel n b c h1 h2).sub sub fun q => ⟨q, fun z => s.js_there h1 (z ▸ h0)⟩⟩
    (Tr.mk t'.keep (fun b q => t'.subN b q.1) (fun b q => (t'.sup b q).imp (fun z => ⟨z, fun e => s.dom b q (e ▸ h0)⟩) id) t'.ow) (.lst e1 (fun z => z.2 rfl) (r.sub sub))
  obtain ⟨u, h1, h2⟩ := s'.env i v e
  exact ⟨u, h1, h2.sub sub⟩
theorem imp_callL {f : Nat} {as : CAs} {σ : L2.St} {H : Hp} {Q : VK} (h : trL F X.K W (.call f as) σ H Q) : tCallS (SpE F.C F.EC X.K (F.call f)) (WE W) (trAs F X.K W as) σ H Q := by
  obtain ⟨M, js, ρ, cs, s, j, h⟩ := h
  refine ⟨M, js, ρ, cs, s, j, ?_⟩
  simp only [evL] at h
  rw [R.sat_bind] at h
  refine h.mono (fun ars cs1 h us N M1 H1 s1 t1 r1 => ?_) fun _ _ _ h => h
  rw [R.sat_bind] at h
  refine call_end s t1 s1 r1 h (fun x cs' u M' H' q s' t' r => ?_) (fun xs cs' a us M' H' q s' t' e1 r => q a us M' H' s' t' e1 r) fun c fs cs' cls d M' H' q s' t' ex => q cls d M' H' s' (F.st j (t'.j s')) ex
  cases x <;> exact q.elim
end
end Ev
set_option maxRecDepth 100000
set_option maxHeartbeats 1000000
/-! Ev9: targets, what is walked -/
namespace Ev
open PySem L2 PyProof.Rows

/-! ### targets -/
section
variable {C : ClsA} {K : PySem.W.Frag} {M M' : Addr → Prop} {js : List Addr} {ρ ρ' : Env} {cs : Cells} {σ : L2.St} {H : Hp}
theorem SR.set (s : SR C K M js ρ cs σ H) (i : Nat) {u : V} {v : VP} (r : RV C K M js H u v) : SR C K M js (ρ.set i (some v)) cs (σ.set i (some u)) H where
  dom := s.dom
  env := fun k w h => by
    by_cases hk : i = k
    · subst hk
      have l : i < ρ.length := by
        have := (List.getElem?_eq_some_iff.mp h).1
        simpa using this
      rw [List.getElem?_set_self l] at h
      cases h
      exact ⟨u, List.getElem?_set_self (by rw [← s.sl]; exact l), r⟩
    · rw [List.getElem?_set_ne hk] at h ⊢
      exact s.env k w h
  sl := by simp [s.sl]
  len := s.len
  nd := s.nd
  cel := s.cel
theorem SR.unset (s : SR C K M js ρ cs σ H) (i : Nat) : SR C K M js (ρ.set i none) cs (σ.set i none) H where
  dom := s.dom
  env := fun k w h => by
    by_cases hk : i = k
    · subst hk
      have l : i < ρ.length := by
        have := (List.getElem?_eq_some_iff.mp h).1
        simpa using this
      rw [List.getElem?_set_self l] at h
      cases h
    · rw [List.getElem?_set_ne hk] at h ⊢
      exact s.env k w h
  sl := by simp [s.sl]
  len := s.len
  nd := s.nd
  cel := s.cel
theorem wipe_len : ∀ (l : List Nat), (wipe ρ l).length = ρ.length
  | [] => rfl
  | v :: vs => by rw [wipe, List.length_set, wipe_len vs]
/-- fewer slots known, the same slots -/
theorem SR.forget (s : SR C K M js ρ cs σ H) (h : ∀ (i : Nat) (v : VP), ρ'[i]? = some (some v) → ρ[i]? = some (some v)) (l : ρ'.length = ρ.length) : SR C K M js ρ' cs σ H :=
  ⟨s.dom, fun i v e => s.env i v (h i v e), by rw [l, s.sl], s.len, s.nd, s.cel⟩
theorem wipe_get {i : Nat} {v : VP} : ∀ {l : List Nat}, (wipe ρ l)[i]? = some (some v) → ρ[i]? = some (some v) ∧ i ∉ l
  | [], h => ⟨h, by simp⟩
  | k :: ks, h => by
    rw [wipe] at h
    by_cases hk : k = i
    · subst hk
      have l : k < (wipe ρ ks).length := by
        have := (List.getElem?_eq_some_iff.mp h).1
        simpa using this
      rw [List.getElem?_set_self l] at h
      cases h
    · rw [List.getElem?_set_ne hk] at h
      obtain ⟨h1, h2⟩ := wipe_get h
      exact ⟨h1, by simp only [List.mem_cons, not_or]; exact ⟨fun z => hk z.symm, h2⟩⟩
theorem SR.wiped (s : SR C K M js ρ cs σ H) (l : List Nat) : SR C K M js (wipe ρ l) cs (L2.wipe σ l) H := by
  induction l with
  | nil => exact s
  | cons k ks ih => exact ih.unset k
theorem SR.wipe1 (s : SR C K M js ρ cs σ H) (l : List Nat) : SR C K M js (wipe ρ l) cs σ H := s.forget (fun i v h => (wipe_get h).1) (wipe_len l)
end
theorem lwipe_get {σ : L2.St} : ∀ (l : List Nat) (k : Nat), (L2.wipe σ l)[k]? = if k ∈ l then (σ[k]?).map fun _ => none else σ[k]?
  | [], k => by simp [L2.wipe]
  | v :: vs, k => by
    rw [L2.wipe]
    by_cases hk : v = k
    · subst hk
      simp only [List.mem_cons, true_or, if_true]
      by_cases l : v < σ.length
      · rw [List.getElem?_set_self (by rw [L2.wipe_length]; exact l)]
        simp [l]
      · rw [List.getElem?_eq_none (by simp [L2.wipe_length]; omega), List.getElem?_eq_none (by omega)]; rfl
    · rw [List.getElem?_set_ne hk, lwipe_get vs k]
      have : (k ∈ v :: vs) ↔ k ∈ vs := by simp [Ne.symm hk]
      simp only [this]
theorem wipe_set {σ : L2.St} {i : Nat} {x : Option V} {l : List Nat} (h : i ∈ l) : L2.wipe (σ.set i x) l = L2.wipe σ l := by
  apply List.ext_getElem?
  intro k
  rw [lwipe_get, lwipe_get]
  by_cases hk : i = k
  · subst hk
    simp only [h, if_true]
    by_cases l : i < σ.length
    · simp [l]
    · rw [List.getElem?_eq_none (by simp; omega), List.getElem?_eq_none (by omega)]
  · rw [List.getElem?_set_ne hk]
section
variable (F : Fx) (K : PySem.W.Frag)
def trTg (t : TG) : L2.TG := fun v σ H Q => ∃ M js ρ cs x ρ', SR F.C K M js ρ cs σ H ∧ RP F.C K M H v x ∧ asgT t x ρ = some ρ' ∧ ∀ σ', SR F.C K M js ρ' cs σ' H → (∀ l : List Nat, (∀ i, i ∈ t.ixs → i ∈ l) → L2.wipe σ' l = L2.wipe σ l) → Q σ' H
def trTgs (ts : TGs) : L2.TGs := fun vs σ H Q => ∃ M js ρ cs xs ρ', SR F.C K M js ρ cs σ H ∧ RPs F.C K M H vs xs ∧ asgT.asgTs ts xs ρ = some ρ' ∧ ∀ σ', SR F.C K M js ρ' cs σ' H → (∀ l : List Nat, (∀ i, i ∈ ts.ixs → i ∈ l) → L2.wipe σ' l = L2.wipe σ l) → Q σ' H
end
theorem _root_.L2.PG.imp {X : Cx} {e : Expr} {t t' : L2.TG} (h : PG X e t) (i : ∀ v σ H Q, t' v σ H Q → t v σ H Q) : PG X e t' := ⟨fun pins s σ H v u Q I r q => h.run pins s σ H v u Q I r (i _ _ _ _ q)⟩
theorem _root_.L2.PGs.imp {X : Cx} {e : List Expr} {t t' : L2.TGs} (h : PGs X e t) (i : ∀ v σ H Q, t' v σ H Q → t v σ H Q) : PGs X e t' := ⟨fun pins s σ H v u Q I r q => h.run pins s σ H v u Q I r (i _ _ _ _ q)⟩
section
variable {F : Fx} {X : Cx} {pos : Pos} {e : Expr} {es : List Expr}
theorem s_gname {i : Nat} {x : Str} (hN : X.N.Nodup) (hi : X.N[i]? = some x) (hx : Loc X.env.scope x) (hf : X.fn x = true ∨ X.env.scope.names.lookup x = some .local) : PG X (.Name x pos) (trTg F X.K (.nm i)) := by
  refine (pg_name hN hi hx hf).imp ?_
  rintro v σ H Q ⟨M, js, ρ, cs, x, ρ', s, r, e, q⟩
  simp only [asgT, Option.some.injEq] at e
  subst e
  exact q _ (s.set i (v := .p x) r) fun l h => wipe_set (h i (by simp [TG.ixs]))
theorem s_gsnil : PGs X [] (trTgs F X.K .nil) := by
  refine pgs_nil.imp ?_
  rintro v σ H Q ⟨M, js, ρ, cs, x, ρ', s, r, e, q⟩
  cases r with
  | nil =>
    simp only [asgT.asgTs, Option.some.injEq] at e
    subst e
    exact ⟨rfl, q _ s fun _ _ => rfl⟩
  | cons _ _ => simp [asgT.asgTs] at e
theorem assignEach_no {e : Expr} {es : List Expr} {env : PySem.Env} (h : notStar e = true) : assignEach (e :: es) env = (false, assign e env) :: assignEach es env := by cases e <;> first | rfl | cases h
theorem s_gscons {t : TG} {ts : TGs} (h1 : PG X e (trTg F X.K t)) (h2 : PGs X es (trTgs F X.K ts)) (hn : notStar e = true) : PGs X (e :: es) (trTgs F X.K (.cons t ts)) := by
  refine (pgs_cons h1 h2 (by rw [assignEach_no hn]; rfl)).imp ?_
  rintro v σ H Q ⟨M, js, ρ, cs, x, ρ', s, r, e, q⟩
  cases r with
  | nil => simp [asgT.asgTs] at e
  | @cons u us p ps r rs =>
    simp only [asgT.asgTs] at e
    obtain ⟨ρ1, e1, e2⟩ := Option.bind_eq_some_iff.mp e
    exact ⟨u, us, rfl, M, js, ρ, cs, p, ρ1, s, r, e1, fun σ1 s1 w1 => ⟨M, js, ρ1, cs, ps, ρ', s1, rs, e2, fun σ2 s2 w2 => q σ2 s2 fun l h => (w2 l fun i hi => h i (by simp [TGs.ixs, hi])).trans (w1 l fun i hi => h i (by simp [TGs.ixs, hi]))⟩⟩
theorem each_len {env : PySem.Env} : ∀ {es : List Expr}, es.all notStar = true → (assignEach es env).length = es.length ∧ (assignEach es env).findIdx? (·.1) = none
  | [], _ => ⟨rfl, rfl⟩
  | e :: es, h => by
    rw [List.all_cons, Bool.and_eq_true] at h
    rw [assignEach_no h.1]
    obtain ⟨h1, h2⟩ := each_len (es := es) (env := env) h.2
    exact ⟨by simp [h1], by simp [List.findIdx?_cons, h2]⟩
theorem asgTs_len : ∀ {ts : TGs} {xs : List P} {ρ ρ' : Env}, asgT.asgTs ts xs ρ = some ρ' → xs.length = ts.size
  | .nil, [], _, _, _ => rfl
  | .nil, _ :: _, _, _, h => by simp [asgT.asgTs] at h
  | .cons t ts, [], _, _, h => by simp [asgT.asgTs] at h
  | .cons t ts, x :: xs, ρ, ρ', h => by
    simp only [asgT.asgTs] at h
    obtain ⟨ρ1, e1, e2⟩ := Option.bind_eq_some_iff.mp h
    simp [TGs.size, asgTs_len e2]
theorem s_gtup {k : Nat} {ts : TGs} (hc : X.calm = true) (h : PGs X es (trTgs F X.K ts)) (hn : es.all notStar = true) (hl : es.length = ts.size) : PG X (.Tuple es k pos) (trTg F X.K (.tp ts)) := by
  refine (pg_tup (n := ts.size) hc h (by rw [(each_len hn).1, hl]) (each_len hn).2).imp ?_
  rintro v σ H Q ⟨M, js, ρ, cs, x, ρ', s, r, e, q⟩
  cases x <;> simp only [asgT, reduceCtorEq] at e
  cases r with
  | tup h1 h2 => exact ⟨_, _, rfl, h1, by rw [h2.length, asgTs_len e], M, js, ρ, cs, _, ρ', s, h2, e, q⟩
end

/-! ### what is walked -/
/-- an iterator that gives the items xs while I stands -/
structure Src (C : ClsA) (K : PySem.W.Frag) (J : It) (xs : List P) (I : JT) : Prop where
  step : ∀ {js js' : List Addr} {M M' : Addr → Prop} {cs cs' : Cells} {H H' : Hp}, I js M cs H → TrJ js M cs H js' M' cs' H' → I js' M' cs' H'
  go : ∀ {js : List Addr} {M : Addr → Prop} {cs : Cells} {H : Hp} (i : Nat), I js M cs H → i < xs.length → J.go i H
  yld : ∀ {js : List Addr} {M : Addr → Prop} {cs : Cells} {H H' : Hp} (i : Nat) (p : P) (x : V), I js M cs H → xs[i]? = some p → J.yld i H x H' → (∀ b, M b → H b ≠ none) → Keep No H H' ∧ RP C K M H' x p
  stop : ∀ {js : List Addr} {M : Addr → Prop} {cs : Cells} {H : Hp} (i : Nat), I js M cs H → xs.length ≤ i → J.stop i H
/-- a list, a tuple that stands -/
def StL (C : ClsA) (K : PySem.W.Frag) (a : Addr) (xs : List P) : JT := fun js M cs H => ∃ us, ((H a = some (.lst us) ∧ ¬ Ow js cs a) ∨ Scr K H a us) ∧ RPs C K M H us xs ∧ ∀ b, Ow js cs b → M b
def StT (C : ClsA) (K : PySem.W.Frag) (a : Addr) (xs : List P) : JT := fun js M cs H => ∃ us, SqT K H a us ∧ RPs C K M H us xs ∧ ∀ b, Ow js cs b → M b
section
variable {C : ClsA} {K : PySem.W.Frag} {a : Addr} {xs : List P} {js js' : List Addr} {M M' : Addr → Prop} {cs cs' : Cells} {H H' : Hp}
theorem TrJ.rps {us : List V} (t : TrJ js M cs H js' M' cs' H') (o : ∀ b, Ow js cs b → M b) (r : RPs C K M H us xs) : RPs C K M' H' us xs :=
  r.mono (t.keep.mono o) fun b h q => (t.sub b q).elim id fun z => (h z).elim
theorem TrJ.notOw {o : HO} (t : TrJ js M cs H js' M' cs' H') (h : H a = some o) (n : ¬ Ow js cs a) : ¬ Ow js' cs' a := fun q => (t.ow a q).elim n fun z => by rw [h] at z; cases z
theorem StL.step (h : StL C K a xs js M cs H) (t : TrJ js M cs H js' M' cs' H') : StL C K a xs js' M' cs' H' := by
  obtain ⟨us, h1, h2, h3⟩ := h
  refine ⟨us, h1.imp (fun ⟨e, n⟩ => ⟨t.keep.obj _ _ e n, t.notOw e n⟩) (fun h => h.elim (fun ⟨o, z⟩ => .inl ⟨o, t.keep.frz _ _ _ z⟩) .inr), t.rps h3 h2, t.owM⟩
theorem StT.step (h : StT C K a xs js M cs H) (t : TrJ js M cs H js' M' cs' H') : StT C K a xs js' M' cs' H' := by
  obtain ⟨us, h1, h2, h3⟩ := h
  exact ⟨us, t.keep.sqT h1, t.rps h3 h2, t.owM⟩
theorem StL.sq (h : StL C K a xs js M cs H) : ∃ us, SqL K H a us ∧ RPs C K M H us xs := by
  obtain ⟨us, h1, h2, _⟩ := h
  exact ⟨us, h1.elim (fun z => SqL.of z.1) Scr.sqL, h2⟩
theorem RPs.get2 {us : List V} {i : Nat} (r : RPs C K M H us xs) (h : i < xs.length) : ∃ u, us[i]? = some u := by
  obtain ⟨u, h1, _⟩ := r.get (i := i) (p := xs[i]) (by simp [h])
  exact ⟨u, h1⟩
theorem src_list : Src C K (Itl K a) xs (StL C K a xs) where
  step := StL.step
  go := fun i h l => by obtain ⟨us, h1, h2⟩ := h.sq; obtain ⟨u, h3⟩ := h2.get2 l; exact ⟨us, u, h1, h3⟩
  yld := fun i p x h e y _ => by
    obtain ⟨us, h1, h2⟩ := h.sq
    obtain ⟨rfl, y⟩ := y
    obtain ⟨u, h3, h4⟩ := h2.get e
    have := y us h1
    rw [h3] at this; cases this
    exact ⟨Keep.refl, h4⟩
  stop := fun i h l => by obtain ⟨us, h1, h2⟩ := h.sq; exact ⟨us, h1, by rw [h2.length]; exact l⟩
theorem src_tup : Src C K (Itt K a) xs (StT C K a xs) where
  step := StT.step
  go := fun i h l => by obtain ⟨us, h1, h2, _⟩ := h; obtain ⟨u, h3⟩ := h2.get2 l; exact ⟨us, u, h1, h3⟩
  yld := fun i p x h e y _ => by
    obtain ⟨us, h1, h2, _⟩ := h
    obtain ⟨rfl, y⟩ := y
    obtain ⟨u, h3, h4⟩ := h2.get e
    have := y us h1
    rw [h3] at this; cases this
    exact ⟨Keep.refl, h4⟩
  stop := fun i h l => by obtain ⟨us, h1, h2, _⟩ := h; exact ⟨us, h1, by rw [h2.length]; exact l⟩
theorem rngV_len : ∀ (n : Nat) (a : Int), (rngV a n).length = n
  | 0, _ => rfl
  | n + 1, a => by rw [rngV, List.length_cons, rngV_len n]
theorem rngV_get : ∀ (n : Nat) (a : Int) (i : Nat) (p : P), (rngV a n)[i]? = some p → p = .int (a + i)
  | 0, _, _, _, h => by simp [rngV] at h
  | n + 1, a, 0, p, h => by simp [rngV] at h; simp [← h]
  | n + 1, a, i + 1, p, h => by
    have := rngV_get n (a + 1) i p (by simpa [rngV] using h)
    rw [this]
    congr 1; omega
theorem src_range {lo : Int} {n : Nat} : Src C K (Itr lo n) (rngV lo n) (fun _ _ _ _ => True) where
  step := fun _ _ => trivial
  go := fun i _ l => by rw [rngV_len] at l; exact l
  yld := fun i p x _ e y _ => by
    obtain ⟨rfl, rfl⟩ := y
    have := rngV_get _ _ _ _ e
    subst this
    exact ⟨Keep.refl, .int _⟩
  stop := fun i _ l => by rw [rngV_len] at l; exact l
theorem enumV_len : ∀ (xs : List P) (a : Int), (enumV a xs).length = xs.length
  | [], _ => rfl
  | x :: xs, a => by rw [enumV, List.length_cons, List.length_cons, enumV_len xs]
theorem enumV_get : ∀ (xs : List P) (a : Int) (i : Nat) (p : P), (enumV a xs)[i]? = some p → ∃ x, xs[i]? = some x ∧ p = .tup [.int (a + i), x]
  | [], _, _, _, h => by simp [enumV] at h
  | x :: xs, a, 0, p, h => by simp [enumV] at h; exact ⟨x, by simp, by simp [← h]⟩
  | x :: xs, a, i + 1, p, h => by
    obtain ⟨y, h1, h2⟩ := enumV_get xs (a + 1) i p (by simpa [enumV] using h)
    refine ⟨y, by simpa using h1, ?_⟩
    rw [h2]
    have : a + 1 + (i : Int) = a + ((i + 1 : Nat) : Int) := by omega
    rw [this]
theorem src_enum : Src C K (Ite K a) (enumV 0 xs) (StL C K a xs) where
  step := StL.step
  go := fun i h l => by
    rw [enumV_len] at l
    obtain ⟨us, h1, h2⟩ := h.sq; obtain ⟨u, h3⟩ := h2.get2 l; exact ⟨us, u, h1, h3⟩
  yld := fun i p x h e y _ => by
    obtain ⟨us, h1, h2⟩ := h.sq
    obtain ⟨T, v, rfl, hT, rfl, y⟩ := y
    obtain ⟨q, e1, rfl⟩ := enumV_get _ _ _ _ e
    obtain ⟨u, h3, h4⟩ := h2.get e1
    have := y us h1
    rw [h3] at this; cases this
    have e0 : (0 : Int) + (i : Int) = (i : Int) := by omega
    rw [e0]
    exact ⟨Keep.new hT, .tup (SqT.of upd_same) (.cons (.int _) (.cons (h4.kept (Keep.new hT)) .nil))⟩
  stop := fun i h l => by
    rw [enumV_len] at l
    obtain ⟨us, h1, h2⟩ := h.sq; exact ⟨us, h1, by rw [h2.length]; exact l⟩
end
end Ev
set_option maxRecDepth 100000
set_option maxHeartbeats 1000000
/-! Ev10: what is walked, comprehensions -/
namespace Ev
open PySem L2 PyProof.Rows
section
variable {C : ClsA} {K : PySem.W.Frag} {M M' : Addr → Prop} {js : List Addr} {ρ ρ' : Env} {cs cs' : Cells} {σ : L2.St} {H : Hp}
theorem lockIx_at {it : CI} {n : Nat} (h : lockIx it ρ cs = some n) : ∃ xs, cs[n]? = some (.lst xs) := by
  unfold lockIx at h
  split at h <;> try cases h
  all_goals
    split at h <;> try cases h
    split at h <;> try cases h
    exact ⟨_, by assumption⟩
theorem SR.lock (s : SR C K M js ρ cs σ H) {o : Option Nat} (h : ∀ n, o = some n → ∃ xs, cs[n]? = some (.lst xs)) :
    SR C K M js ρ (lockC o cs) σ H ∧ TrJ js M cs H js M (lockC o cs) H := by
  cases o with
  | none => exact ⟨s, (Tr.refl (M := M) (js := js) (cs := cs) (H := H)).j s⟩
  | some n =>
    obtain ⟨xs, hx⟩ := h n rfl
    simp only [lockC, hx, Cell.view]
    have l := (List.getElem?_eq_some_iff.mp hx).1
    have s' : SR C K M js ρ (cs.set n (.lock (.lst xs))) σ H := by
      refine ⟨s.dom, s.env, s.sl, by rw [List.length_set]; exact s.len, s.nd, fun k a c h1 h2 => ?_⟩
      by_cases hk : n = k
      · subst hk
        rw [List.getElem?_set_self l] at h2
        cases h2
        have := s.cel n a _ h1 hx
        cases this with | lst q e z => exact .lock q e z
      · rw [List.getElem?_set_ne hk] at h2
        exact s.cel k a c h1 h2
    refine ⟨s', (Tr.mk Keep.refl (fun _ h => .inl h) (fun _ h => .inl h) (fun b o => ow_set hx (fun z => ?_) o)).j s'⟩
    simp [Cell.isMut] at z
/-- what stands at a locked list -/
def LkJ (js0 : List Addr) (n : Nat) (C : ClsA) (K : PySem.W.Frag) (xs : List P) : JT := fun js M cs H => ∃ a us, js0[n]? = some a ∧ M a ∧ ¬ Ow js cs a ∧ H a = some (.lst us) ∧ RPs C K M H us xs ∧ ∀ b, Ow js cs b → M b
theorem LkJ.step {js0 js js' : List Addr} {n : Nat} {xs : List P} {M M' : Addr → Prop} {cs cs' : Cells} {H H' : Hp} (h : LkJ js0 n C K xs js M cs H) (t : TrJ js M cs H js' M' cs' H') : LkJ js0 n C K xs js' M' cs' H' := by
  obtain ⟨a, us, h1, h2, h3, h4, h5, h6⟩ := h
  exact ⟨a, us, h1, (t.sup a h2).elim id fun z => z.elim (fun w => (h3 w).elim) fun w => (by rw [h4] at w; cases w), t.notOw h4 h3, t.keep.obj _ _ h4 h3, t.rps h6 h5, t.owM⟩
def LkO (js0 : List Addr) (o : Option Nat) (cs0 : Cells) (C : ClsA) (K : PySem.W.Frag) : JT := fun js M cs H => ∀ n xs, o = some n → cs0[n]? = some (.lst xs) → LkJ js0 n C K xs js M cs H
theorem LkO.step {js0 js js' : List Addr} {o : Option Nat} {cs0 : Cells} {M M' : Addr → Prop} {cs cs' : Cells} {H H' : Hp} (h : LkO js0 o cs0 C K js M cs H) (t : TrJ js M cs H js' M' cs' H') : LkO js0 o cs0 C K js' M' cs' H' := fun n xs e1 e2 => (h n xs e1 e2).step t
theorem SR.lkO (s : SR C K M js ρ cs σ H) (o : Option Nat) : LkO js o cs C K js M (lockC o cs) H := by
  intro n xs e1 e2
  subst e1
  have l := (List.getElem?_eq_some_iff.mp e2).1
  obtain ⟨a, h1, r⟩ := s.at e2
  have s' := (s.lock (o := some n) (fun k e => by cases e; exact ⟨xs, e2⟩)).1
  cases r with
  | lst q e z =>
    refine ⟨a, _, h1, q, fun ⟨k, c, g1, g2, g3⟩ => ?_, e, z, fun b o => s'.ow o⟩
    have := nodup_at s.nd h1 g1
    subst this
    simp only [lockC, e2, Cell.view] at g2
    rw [List.getElem?_set_self l] at g2
    cases g2
    simp [Cell.isMut] at g3
/-- the list is free again -/
theorem SR.unlock {js0 : List Addr} {o : Option Nat} {cs0 : Cells} (s : SR C K M js ρ cs σ H) (h : LkO js0 o cs0 C K js M cs H) (h0 : ∀ n, o = some n → ∃ xs, cs0[n]? = some (.lst xs)) (pre : ∃ l, js = js0 ++ l) :
    SR C K M js ρ (unlockC o cs0 cs) σ H := by
  cases o with
  | none => exact s
  | some n =>
    obtain ⟨xs, e2⟩ := h0 n rfl
    obtain ⟨a, us, g1, g2, g3, g4, g5, g6⟩ := h n xs rfl e2
    have g1' : js[n]? = some a := by
      obtain ⟨l, rfl⟩ := pre
      rw [List.getElem?_append_left (List.getElem?_eq_some_iff.mp g1).1]; exact g1
    simp only [unlockC, e2]
    refine ⟨s.dom, s.env, s.sl, by rw [List.length_set]; exact s.len, s.nd, fun k b c h1 h2 => ?_⟩
    by_cases hk : n = k
    · subst hk
      have l : n < cs.length := by
        have := (List.getElem?_eq_some_iff.mp h2).1
        simpa using this
      rw [List.getElem?_set_self l] at h2
      cases h2
      rw [g1'] at h1; cases h1
      exact .lst g2 g4 g5
    · rw [List.getElem?_set_ne hk] at h2
      exact s.cel k b c h1 h2
theorem ow_unlock {js0 : List Addr} {o : Option Nat} {cs0 : Cells} (h0 : ∀ n, o = some n → ∃ xs, cs0[n]? = some (.lst xs)) (pre : ∃ l, js = js0 ++ l) (l0 : js0.length = cs0.length) {a : Addr} (q : Ow js (unlockC o cs0 cs) a) : Ow js cs a ∨ Ow js0 cs0 a := by
  cases o with
  | none => exact .inl q
  | some n =>
    obtain ⟨xs, e2⟩ := h0 n rfl
    obtain ⟨k, c, g1, g2, g3⟩ := q
    simp only [unlockC, e2] at g2
    by_cases hk : n = k
    · subst hk
      refine .inr ⟨n, .lst xs, ?_, e2, rfl⟩
      obtain ⟨l, rfl⟩ := pre
      have ln : n < js0.length := by rw [l0]; exact (List.getElem?_eq_some_iff.mp e2).1
      rw [List.getElem?_append_left ln] at g1; exact g1
    · rw [List.getElem?_set_ne hk] at g2
      exact .inl ⟨k, c, g1, g2, g3⟩
end

/-! ### iterables -/
section
variable (F : Fx) (K : PySem.W.Frag) (W : WX)
def trI (it : CI) : TI := fun σ H R =>
  ∃ M js ρ cs, SR F.C K M js ρ cs σ H ∧ F.J js M cs H ∧ (evI F.G F.call it ρ cs).sat (fun xs cs' => ∀ J I M' H', SR F.C K M' js ρ cs' σ H' → Tr M js cs H M' cs' H' → Src F.C K J xs I → I js M' (lockC (lockIx it ρ cs') cs') H' → R J H') (F.Eps K W js ρ σ)
end
theorem _root_.L2.PI.or {X : Cx} {tg e : Expr} {t t' : TI} (h : PI X tg e t) (h' : PI X tg e t') : PI X tg e (fun σ H R => t σ H R ∨ t' σ H R) := ⟨fun pins s σ H R I q => q.elim (h.run pins s σ H R I) (h'.run pins s σ H R I)⟩
theorem _root_.L2.PI.imp {X : Cx} {tg e : Expr} {t t' : TI} (h : PI X tg e t) (i : ∀ σ H R, t' σ H R → t σ H R) : PI X tg e t' := ⟨fun pins s σ H R I q => h.run pins s σ H R I (i _ _ _ q)⟩
section
variable {F : Fx} {W : WX} {X : Cx} {pos p tpos : Pos} {tg a b e : Expr} {es elts : List Expr} {ca cb ce : CE} {C : ClsA} {K : PySem.W.Frag} {M M' : Addr → Prop} {js : List Addr} {ρ : Env} {cs cs' : Cells} {σ : L2.St} {H : Hp}
/-- a list that is walked stands -/
theorem SR.stL (s : SR C K M js ρ cs σ H) {v : VP} {u : V} {xs : List P} (r : RV C K M js H u v) (hv : viewV cs v = some (.lst xs)) {it : CI} (h : ∀ n, v = .ref n → cs[n]? = some (.lst xs) → lockIx it ρ cs = some n) :
    ∃ a, u = .ref a ∧ (∃ us, SqL K H a us) ∧ StL C K a xs js M (lockC (lockIx it ρ cs) cs) H := by
  have s' := (s.lock (o := lockIx it ρ cs) fun n => lockIx_at).1
  have t' := (s.lock (o := lockIx it ρ cs) fun n => lockIx_at).2
  have fin : ∀ {a us}, H a = some (.lst us) → RPs C K M H us xs → ¬ M a → StL C K a xs js M (lockC (lockIx it ρ cs) cs) H := fun e z n => ⟨_, .inl ⟨e, fun o => n (s'.ow o)⟩, z, fun b o => s'.ow o⟩
  cases v with
    | p x =>
      simp only [viewV, Option.some.injEq] at hv
      subst hv
      cases r with
      | lst e n z => exact ⟨_, rfl, ⟨_, SqL.of e⟩, fin e z n⟩
    | ref n =>
      obtain ⟨a, hb, rfl⟩ := r
      refine ⟨a, rfl, ?_⟩
      simp only [viewV, Option.map_eq_some_iff] at hv
      obtain ⟨d, hd, hv⟩ := hv
      have rc := s.cel n a d hb hd
      cases rc with
      | lst q e1 z =>
        cases hv
        have lk := s.lkO (lockIx it ρ cs)
        obtain ⟨a', us, g1, g2, g3, g4, g5, g6⟩ := lk n xs (h n rfl hd) hd
        rw [hb] at g1; cases g1
        exact ⟨⟨_, SqL.of g4⟩, us, .inl ⟨g4, g3⟩, g5, g6⟩
      | obj q c e1 f z => cases hv
      | lock q e1 z =>
        cases hv
        have no : ¬ Ow js cs a := fun ⟨k, c, g1, g2, g3⟩ => by
          have := nodup_at s.nd hb g1; subst this
          rw [hd] at g2; cases g2
          simp [Cell.isMut] at g3
        exact ⟨⟨_, SqL.of e1⟩, _, .inl ⟨e1, t'.notOw e1 no⟩, z, fun b o => s'.ow o⟩
      | frz z d n =>
        simp only [Cell.view] at hv
        subst hv
        cases z with
        | lst e1 n1 z1 => exact ⟨⟨_, SqL.of e1⟩, fin e1 z1 n1⟩
theorem SR.stT (s : SR C K M js ρ cs σ H) {v : VP} {u : V} {xs : List P} (r : RV C K M js H u v) (hv : viewV cs v = some (.tup xs)) (it : CI) :
    ∃ a, u = .ref a ∧ (∃ us, SqT K H a us) ∧ StT C K a xs js M (lockC (lockIx it ρ cs) cs) H := by
  have s' := (s.lock (o := lockIx it ρ cs) fun n => lockIx_at).1
  obtain ⟨a, us, rfl, h1, h2⟩ := (s.seen r hv).tup
  exact ⟨a, rfl, ⟨us, h1⟩, us, h1, h2, fun b o => s'.ow o⟩
theorem evE_ref {n : Nat} (h : evE F.G F.call ce ρ cs = .ok (.ref n) cs') (ok : seqOk ce (.ref n) = true) : ∃ i, ce = .var i ∧ ρ[i]? = some (some (.ref n)) ∧ cs' = cs := by
  cases ce <;> simp only [seqOk, Bool.false_eq_true] at ok
  rename_i i
  simp only [evE] at h
  split at h
  · rename_i v hv
    cases h
    exact ⟨i, rfl, hv, rfl⟩
  · cases h
theorem src_str {t : List Nat} (ho : PySem.PyData.strOk (mkS t) = true) : Src C K (Its (mkS t)) (t.map fun c => P.str [c]) (fun _ _ _ _ => True) where
  step := fun _ _ => trivial
  go := fun i _ l => by
    rw [List.length_map] at l
    show i < (mkS t).cps.size
    simpa using l
  yld := fun i p x _ e y _ => by
    obtain ⟨rfl, c, h1, rfl⟩ := y
    rw [List.getElem?_map] at e
    have h2 : t[i]? = some c := by simpa using h1
    rw [h2] at e
    cases e
    refine ⟨Keep.refl, .str [c] ?_ (by simp [SZ])⟩
    rw [strOk_iff] at *
    have := List.all_eq_true.mp ho c (List.mem_of_getElem? h2)
    simpa using this
  stop := fun i _ l => by
    rw [List.length_map] at l
    show (mkS t).cps.size ≤ i
    simpa using l
theorem src_scr {a : Addr} {ns : List Int} : Src C K (Itl K a) (ns.map P.int) (StL C K a (ns.map P.int)) := src_list
theorem rps_ints : ∀ ns : List Int, RPs C K M H (ns.map V.int) (ns.map P.int)
  | [] => .nil
  | n :: ns => .cons (.int n) (rps_ints ns)
theorem s_isq (he : PE X e (trE F X.K W ce)) : PI X tg e (trI F X.K W (.sq ce)) := by
  refine ((pi_list he).or ((pi_tup he).or (pi_str he))).imp fun σ H T h => ?_
  obtain ⟨M, js, ρ, cs, s, j, h⟩ := h
  simp only [evI] at h
  rw [R.sat_bind] at h
  revert h
  cases hv : evE F.G F.call ce ρ cs with
  | stk => exact fun h => h.elim
  | exc c fs cs1 => exact fun h => .inl ⟨M, js, ρ, cs, s, j, by rw [hv]; exact h⟩
  | ok v cs1 =>
    intro h
    replace h := R.sat_ok.mp h
    split at h
    · rename_i ok
      rw [R.sat_opt] at h
      obtain ⟨xs, hx0, h⟩ := h
      obtain ⟨x, hx, hi⟩ := Option.bind_eq_some_iff.mp hx0
      clear hx0
      cases x with
      | lst ys =>
        cases hi
        refine .inl ⟨M, js, ρ, cs, s, j, ?_⟩
        rw [hv]
        intro u M1 H1 s1 t1 r1
        obtain ⟨a, rfl, h2, h3⟩ := s1.stL (it := .sq ce) r1 hx fun n e1 e2 => by
          subst e1
          obtain ⟨i, rfl, e3, rfl⟩ := evE_ref hv ok
          simp only [lockIx, e3, e2]
        exact ⟨a, rfl, h2, h _ _ M1 H1 s1 t1 src_list h3⟩
      | tup ys =>
        cases hi
        refine .inr (.inl ⟨M, js, ρ, cs, s, j, ?_⟩)
        rw [hv]
        intro u M1 H1 s1 t1 r1
        obtain ⟨a, rfl, h2, h3⟩ := s1.stT r1 hx (.sq ce)
        exact ⟨a, rfl, h2, h _ _ M1 H1 s1 t1 src_tup h3⟩
      | str t =>
        cases hi
        refine .inr (.inr ⟨M, js, ρ, cs, s, j, ?_⟩)
        rw [hv]
        intro u M1 H1 s1 t1 r1
        obtain ⟨rfl, ho, _⟩ := (s1.seen r1 hx).str
        exact ⟨_, rfl, h _ _ M1 H1 s1 t1 (src_str ho) trivial⟩
      | scr ns =>
        cases hi
        refine .inl ⟨M, js, ρ, cs, s, j, ?_⟩
        rw [hv]
        intro u M1 H1 s1 t1 r1
        obtain ⟨a, rfl, h2⟩ := (s1.seen r1 hx).scr
        have s' := (s1.lock (o := lockIx (.sq ce) ρ cs1) fun n => lockIx_at).1
        exact ⟨a, rfl, ⟨_, h2.sqL⟩, h _ _ M1 H1 s1 t1 src_list ⟨_, .inr h2, rps_ints ns, fun b o => s'.ow o⟩⟩
      | _ => cases hi
    · exact h.elim
theorem s_ien {kk : Nat} (hg : Gl X "enumerate") (hm : X.mg "enumerate" = none) (he : PE X e (trE F X.K W ce)) (hn : notStar e = true) : PI X (.Tuple elts kk tpos) (.Call (.Name "enumerate" p) [e] [] pos) (trI F X.K W (.en ce)) := by
  refine (pi_enum hg hm (s_acons he s_anil hn) (star_no hn)).imp fun σ H T h => ?_
  obtain ⟨M, js, ρ, cs, s, j, h⟩ := h
  simp only [evI] at h
  rw [R.sat_bind] at h
  refine ⟨M, js, ρ, cs, s, j, ?_⟩
  simp only [evXs]
  rw [R.sat_bind]
  revert h
  cases hv : evE F.G F.call ce ρ cs with
  | stk => exact fun h => h
  | exc c fs cs1 => exact fun h => h
  | ok v cs1 =>
    intro h
    replace h := R.sat_ok.mp h
    split at h
    · rename_i ok
      rw [R.sat_opt] at h
      obtain ⟨xs, hx0, h⟩ := h
      obtain ⟨x, hx, hi⟩ := Option.bind_eq_some_iff.mp hx0
      clear hx0
      rw [R.sat_ok, R.sat_bind, R.sat_ok, R.sat_ok]
      intro us M1 H1 s1 t1 r1
      cases r1 with | cons r1 r0 => cases r0 with | nil =>
      cases x with
      | lst ys =>
        cases hi
        obtain ⟨a, rfl, ⟨us, h2⟩, h3⟩ := s1.stL (it := .en ce) r1 hx fun n e1 e2 => by
          subst e1
          obtain ⟨i, rfl, e3, rfl⟩ := evE_ref hv ok
          simp only [lockIx, e3, e2]
        exact ⟨a, us, rfl, h2, h _ _ M1 H1 s1 t1 src_enum h3⟩
      | _ => cases hi
    · exact h.elim
theorem s_ir1 (hg : Gl X "range") (hm : X.mg "range" = none) (he : PE X e (trE F X.K W ce)) (hn : notStar e = true) : PI X tg (.Call (.Name "range" p) [e] [] pos) (trI F X.K W (.r1 ce)) := by
  refine (pi_range1 hg hm (s_acons he s_anil hn) (star_no hn)).imp fun σ H T h => ?_
  obtain ⟨M, js, ρ, cs, s, j, h⟩ := h
  refine ⟨M, js, ρ, cs, s, j, ?_⟩
  simp only [evI] at h
  rw [R.sat_bind, sat_vw] at h
  simp only [evXs]
  rw [R.sat_bind]
  refine h.mono (fun v cs1 h => ?_) fun _ _ _ h => h
  rw [R.sat_bind, R.sat_ok, R.sat_ok]
  intro us M1 H1 s1 t1 r1
  cases r1 with | cons r1 r0 => cases r0 with | nil =>
  obtain ⟨x, hx, h⟩ := h
  split at h
  · split at h
    · rename_i n hn
      have := (s1.seen r1 hx).int; subst this
      exact ⟨n, rfl, hn.1, by have := hn.2; have e : (SZ : Int) = 16777216 := rfl; omega, h _ _ M1 H1 s1 t1 src_range trivial⟩
    · exact h.elim
  · exact h.elim
theorem s_ir2 (hg : Gl X "range") (hm : X.mg "range" = none) (ha : PE X a (trE F X.K W ca)) (hb : PE X b (trE F X.K W cb)) (hn : notStar a = true) (hn2 : notStar b = true) : PI X tg (.Call (.Name "range" p) [a, b] [] pos) (trI F X.K W (.r2 ca cb)) := by
  refine (pi_range2 hg hm (s_acons ha (s_acons hb s_anil hn2) hn) (by rw [star_no hn, star_no hn2]; rfl) (by rw [star_no hn2]; rfl)).imp fun σ H T h => ?_
  obtain ⟨M, js, ρ, cs, s, j, h⟩ := h
  refine ⟨M, js, ρ, cs, s, j, ?_⟩
  simp only [evI] at h
  rw [R.sat_bind] at h
  simp only [evXs]
  rw [R.sat_bind]
  refine h.mono (fun v cs1 h => ?_) fun _ _ _ h => h
  rw [R.sat_bind, R.sat_bind]
  rw [R.sat_bind] at h
  refine h.mono (fun w cs2 h => ?_) fun _ _ _ h => h
  rw [R.sat_bind, R.sat_ok, R.sat_ok, R.sat_ok]
  intro us M1 H1 s1 t1 r1
  cases r1 with | cons r1 r0 => cases r0 with | cons r2 r0 => cases r0 with | nil =>
  rw [sat_op2] at h
  obtain ⟨x, y, z, hx, hy, hz, h⟩ := h
  unfold r2P at hz
  split at hz
  · split at hz
    · rename_i i k hn
      cases hz
      have := (s1.seen r1 hx).int; subst this
      have := (s1.seen r2 hy).int; subst this
      exact ⟨i, k, rfl, hn.1, h _ _ M1 H1 s1 t1 src_range trivial⟩
    · cases hz
  · cases hz
end
end Ev
set_option maxRecDepth 100000
set_option maxHeartbeats 1000000
/-! Ev11: comprehensions -/
namespace Ev
open PySem L2 PyProof.Rows
abbrev JClo (J : JT) : Prop := ∀ {js js' : List Addr} {M M' : Addr → Prop} {cs cs' : Cells} {H H' : Hp}, J js M cs H → TrJ js M cs H js' M' cs' H' → J js' M' cs' H'
/-- the same frame, more known of the things -/
def Fx.wj (F : Fx) (J : JT) (st : JClo J) : Fx := { F with J := J, st := st }
abbrev W0 : WX := fun _ _ _ _ => False
section
variable (F : Fx) (K : PySem.W.Frag)
def trEx (e : CE) : TE := fun σ H Q => ∃ J st, trE (F.wj J st) K W0 e σ H Q
def trTs (W : WX) (ts : CEs) : TT := trF F K W fun ρ cs => evTs F.G F.call ts ρ cs
def trTsx (ts : CEs) : TT := fun σ H Q => ∃ J st, trTs (F.wj J st) K W0 ts σ H Q
end
theorem R.sat_unlock {α : Type} {r : R α} {o : Option Nat} {old : Cells} {φ : α → Cells → Prop} {ε : Nat → List P → Cells → Prop} :
    (r.unlock o old).sat φ ε ↔ r.sat (fun a cs => φ a (unlockC o old cs)) fun c fs cs => ε c fs (unlockC o old cs) := by
  cases r <;> exact Iff.rfl
section
variable {F : Fx} {W : WX} {X : Cx} {pos p tpos : Pos} {tg a b e elt iter : Expr} {es elts ifs : List Expr} {ca cb ce : CE} {C : ClsA} {K : PySem.W.Frag} {M M' : Addr → Prop} {js : List Addr} {ρ ρ' : Env} {cs cs' : Cells} {σ σ' : L2.St} {H H' : Hp} {N : List Addr}
theorem s_ex (h : ∀ J st, PE X e (trE (F.wj J st) X.K W0 ce)) : PE X e (trEx F X.K ce) := ⟨fun pins s σ H Q I ⟨J, st, q⟩ => (h J st).run pins s σ H Q I q⟩
theorem s_tsx {ts : CEs} (h : ∀ J st, PTs X ifs (trTs (F.wj J st) X.K W0 ts)) : PTs X ifs (trTsx F X.K ts) := ⟨fun pins s σ H Q I ⟨J, st, q⟩ => (h J st).run pins s σ H Q I q⟩
theorem s_tsnil : PTs X [] (trTs F X.K W .nil) := ⟨fun pins s σ H Q I ⟨M, js, ρ, cs, s', j, h⟩ => pts_nil.run pins s σ H Q I (h M H s' Tr.refl)⟩
theorem s_tsone {ct : CE} (h : PT X e (trT F X.K W ct)) : PTs X [e] (trTs F X.K W (.cons ct .nil)) := ⟨fun pins s σ H Q I q => (pts_one h).run pins s σ H Q I (by
  obtain ⟨M, js, ρ, cs, s, j, h⟩ := q
  refine ⟨M, js, ρ, cs, s, j, ?_⟩
  simp only [evTs] at h
  rw [R.sat_bind] at h
  refine h.mono (fun b cs1 h => ?_) fun _ _ _ h => h
  cases b <;> exact h)⟩
theorem SR.carry (s : SR C K M js ρ cs σ H) (t : TrN N M js cs H M' cs' H') (s' : SR C K M' js ρ' cs' σ' H') : SR C K M' js ρ cs' σ H' :=
  ⟨s'.dom, fun i v h => let ⟨u, h1, h2⟩ := s.env i v h; ⟨u, h1, s.rv t h2⟩, s.sl, s'.len, s'.nd, s'.cel⟩
/-- the list under way grows -/
theorem SR.poke (s : SR C K M js ρ cs σ H) {D : Addr} {us : List V} (m : M D) (n : D ∉ js) (e : H D = some (.lst us)) (us' : List V) : SR C K M js ρ cs σ (upd H D (.lst us')) ∧ ∀ {u x}, RP C K M H u x → RP C K M (upd H D (.lst us')) u x := by
  have k : Keep M H (upd H D (.lst us')) := Keep.chg m e (fun _ h => nomatch h) fun _ _ h => nomatch h
  have kD : Keep (fun b => b = D) H (upd H D (.lst us')) := Keep.chg (M := fun b => b = D) rfl e (fun _ h => nomatch h) fun _ _ h => nomatch h
  have mono : ∀ {u x}, RP C K M H u x → RP C K M (upd H D (.lst us')) u x := fun r => r.mono k fun _ _ z => z
  refine ⟨⟨fun b q => k.dom b (s.dom b q), fun i v h => let ⟨u, h1, h2⟩ := s.env i v h; ⟨u, h1, ?_⟩, s.sl, s.len, s.nd, fun n' b c h1 h2 => (s.cel n' b c h1 h2).move kD (fun z => n (z ▸ List.mem_of_getElem? h1)) k (fun _ _ z => z) id⟩, mono⟩
  cases v with
  | p x => exact mono h2
  | ref n => exact h2
/-- what is known of the list under way -/
def DJ (C : ClsA) (K : PySem.W.Frag) (D : Addr) (us : List V) (acc : List P) : JT := fun js M cs H => H D = some (.lst us) ∧ M D ∧ ¬ Ow js cs D ∧ RPs C K M H us acc ∧ ∀ b, Ow js cs b → M b
theorem DJ.step {D : Addr} {us : List V} {acc : List P} : JClo (DJ C K D us acc) := fun {js js' M M' cs cs' H H'} ⟨h1, h2, h3, h4, h5⟩ t =>
  ⟨t.keep.obj _ _ h1 h3, (t.sup D h2).elim id fun z => z.elim (fun w => (h3 w).elim) fun w => (by rw [h1] at w; cases w), t.notOw h1 h3, t.rps h5 h4, t.owM⟩
end
theorem s_lc {F : Fx} {W : WX} {X : Cx} {tg elt iter : Expr} {ifs : List Expr} {scope : Scope} {own : List Nat} {g : TG} {it : CI} {ts : CEs} {e : CE} {t : TE → Prop}
    (hpe : ∀ {wi : TI} {gg : L2.TG} {tt : TT} {te : TE}, PI X tg iter wi → (∀ (s : Shared) (H : Hp) (C : Addr) (cl : List (Str × Addr)) (fp : List Addr), PG (X.blk s H scope (compEnvC scope cl C X.env) fp) tg gg) →
      (∀ (s : Shared) (H : Hp) (C : Addr) (cl : List (Str × Addr)) (fp : List Addr), PTs (X.blk s H scope (compEnvC scope cl C X.env) fp) ifs tt) → (∀ (s : Shared) (H : Hp) (C : Addr) (cl : List (Str × Addr)) (fp : List Addr), PE (X.blk s H scope (compEnvC scope cl C X.env) fp) elt te) → t (tLc wi gg tt te own))
    (hi : PI X tg iter (trI F X.K W it)) (hg : ∀ (s : Shared) (H : Hp) (C : Addr) (cl : List (Str × Addr)) (fp : List Addr), PG (X.blk s H scope (compEnvC scope cl C X.env) fp) tg (trTg F X.K g))
    (ht : ∀ (J : JT) (st : JClo J) (s : Shared) (H : Hp) (C : Addr) (cl : List (Str × Addr)) (fp : List Addr), PTs (X.blk s H scope (compEnvC scope cl C X.env) fp) ifs (trTs (F.wj J st) X.K W0 ts))
    (he : ∀ (J : JT) (st : JClo J) (s : Shared) (H : Hp) (C : Addr) (cl : List (Str × Addr)) (fp : List Addr), PE (X.blk s H scope (compEnvC scope cl C X.env) fp) elt (trE (F.wj J st) X.K W0 e))
    (hix : ∀ i, i ∈ g.ixs → i ∈ own) : ∃ t', t t' ∧ ∀ σ H Q, trL F X.K W (.lc g own it ts e) σ H Q → t' σ H Q := by
  refine ⟨_, hpe (te := trEx F X.K e) (tt := trTsx F X.K ts) (gg := trTg F X.K g) hi hg (fun s H C cl fp => s_tsx (X := X.blk s H scope (compEnvC scope cl C X.env) fp) fun J st => ht J st s H C cl fp) (fun s H C cl fp => s_ex (X := X.blk s H scope (compEnvC scope cl C X.env) fp) fun J st => he J st s H C cl fp), fun σ H Q h => ?_⟩
  obtain ⟨M0, js, ρ, cs0, s0, j0, h⟩ := h
  refine ⟨M0, js, ρ, cs0, s0, j0, ?_⟩
  simp only [evL] at h
  rw [R.sat_bind] at h
  refine h.mono (fun xs cs1 h J I M1 H1 s1 t1 src i1 D hD => ?_) fun _ _ _ h => h
  split at h
  case isFalse => exact h.elim
  rename_i hsz
  rw [R.sat_unlock] at h
  generalize ho : lockIx it ρ cs1 = o at h i1
  have hlk : ∀ n, o = some n → ∃ xs, cs1[n]? = some (.lst xs) := fun n e => lockIx_at (ho.trans e)
  obtain ⟨s1L, t1L⟩ := s1.lock hlk
  have lk1 := s1.lkO o
  have nD : D ∉ js := fun z => by
    obtain ⟨n, hn⟩ := List.getElem?_of_mem z
    exact s1.js_there hn hD
  obtain ⟨f, φ, ε, ef, hφ, h⟩ : ∃ (f : P → Cells → R (Option P)) (φ : List P → Cells → Prop) (ε : Nat → List P → Cells → Prop),
      (∀ x cs, f x cs = match asgT g x (wipe ρ own) with
        | some ρ' => (evTs F.G F.call ts ρ' cs).bind fun k cs => if k then (evE F.G F.call e ρ' cs).bind fun v cs => (escV cs v).bind fun y cs => .ok (some y) cs else .ok none cs
        | none => .stk) ∧
      (∀ ys cs2, φ ys cs2 → ∀ a us M' H', SR F.C X.K M' js ρ (unlockC o cs1 cs2) σ H' → TrL a M0 js cs0 H M' (unlockC o cs1 cs2) H' → H' a = some (.lst us) → RPs F.C X.K M' H' us ys → Q (.ref a) H') ∧
      (lcLoop f xs (lockC o cs1) []).sat φ ε := ⟨_, _, _, fun _ _ => rfl, fun _ _ z => z, h⟩
  -- the state of a turn
  let St : Nat → (Addr → Prop) → Cells → List V → List P → Hp → Prop := fun i M cs us acc H => SR F.C X.K M js ρ cs σ H ∧ TrJ js M1 (lockC o cs1) H1 js M cs H ∧ DJ F.C X.K D us acc js M cs H ∧ acc.length ≤ i
  refine ⟨fun i m H => m = xs.length - i ∧ i ≤ xs.length ∧ ∃ M cs us acc, St i M cs us acc H ∧ R.sat (lcLoop f (xs.drop i) cs acc) φ ε, ⟨xs.length, by simp, Nat.zero_le _, ?_⟩, ?_⟩
  · obtain ⟨M2, s2, t2, r2⟩ := s1L.made Tr.refl s1L hD (.nil : RPs F.C X.K M1 H1 [] [])
    have no : ¬ Ow js (lockC o cs1) D := fun ⟨n, c, g1, _, _⟩ => nD (List.mem_of_getElem? g1)
    exact ⟨M2, lockC o cs1, [], [], ⟨s2, t2.j s2, ⟨upd_same, (t2.new D (by simp)).2, no, r2, fun b q => s2.ow q⟩, Nat.le_refl _⟩, h⟩
  · rintro i m Hi ⟨rfl, hle, M, cs, us, acc, ⟨s, tj, dj, hacc⟩, hl⟩
    by_cases hlt : i < xs.length
    · -- a turn
      have ex : xs.drop i = xs[i] :: xs.drop (i + 1) := (List.drop_eq_getElem_cons hlt)
      rw [ex, lcLoop, ef] at hl
      have iI := src.step i1 tj
      refine .inr ⟨src.go i iI hlt, fun H' => ∃ M cs us acc, St (i + 1) M cs us acc H' ∧ R.sat (lcLoop f (xs.drop (i + 1)) cs acc) φ ε, fun H' q => ⟨xs.length - (i + 1), by omega, rfl, hlt, q⟩, fun x H' y => ?_⟩
      obtain ⟨k, rx⟩ := src.yld i xs[i] x iI (by simp [hlt]) y s.dom
      have sH := s.same k
      have tH : Tr M js cs Hi M cs H' := Tr.same k
      have djH := DJ.step dj (tH.j sH)
      have tjH := tj.trans (tH.j sH)
      -- the evaluator's turn came to something
      cases hf : asgT g xs[i] (wipe ρ own) with
      | none => rw [hf] at hl; exact hl.elim
      | some ρ' =>
        rw [hf] at hl
        dsimp only at hl
        refine ⟨M, js, wipe ρ own, cs, xs[i], ρ', sH.wiped own, rx, hf, fun σ2 s2 w2 => ⟨?_, ?_⟩⟩
        · have := w2 own hix
          rw [this]
          apply List.ext_getElem?
          intro q
          rw [lwipe_get, lwipe_get]
          split
          · cases σ[q]? <;> rfl
          · rfl
        · have cl : JClo (fun js' M cs H => TrJ js M1 (lockC o cs1) H1 js' M cs H ∧ DJ F.C X.K D us acc js' M cs H) := fun ⟨a, b⟩ t => ⟨a.trans t, DJ.step b t⟩
          refine ⟨_, cl, M, js, ρ', cs, s2, ⟨tjH, djH⟩, ?_⟩
          show R.sat (evTs F.G F.call ts ρ' cs) _ _
          cases ht1 : evTs F.G F.call ts ρ' cs with
          | stk => rw [ht1] at hl; exact hl.elim
          | exc c fs cs => rw [ht1] at hl; exact hl.elim
          | ok b cs2 =>
            rw [ht1, R.ok_bind] at hl
            intro M2 H2 s3 t3
            have ⟨tj3, dj3⟩ := cl ⟨tjH, djH⟩ (t3.j s3)
            have back : ∀ {M4 cs4 H4 σ4}, SR F.C X.K M4 js ρ' cs4 σ4 H4 → Tr M js cs H' M4 cs4 H4 → SR F.C X.K M4 js ρ cs4 σ H4 := fun s4 t4 => sH.carry t4 s4
            cases b with
            | false =>
              rw [if_neg Bool.false_ne_true]
              rw [if_neg Bool.false_ne_true] at hl
              exact ⟨M2, cs2, us, acc, ⟨back s3 t3, tj3, dj3, by omega⟩, hl⟩
            | true =>
              rw [if_pos rfl]
              rw [if_pos rfl] at hl
              refine ⟨_, cl, M2, js, ρ', cs2, s3, ⟨tj3, dj3⟩, ?_⟩
              show R.sat (evE F.G F.call e ρ' cs2) _ _
              cases he1 : evE F.G F.call e ρ' cs2 with
              | stk => rw [he1] at hl; exact hl.elim
              | exc c fs cs => rw [he1] at hl; exact hl.elim
              | ok v cs4 =>
                rw [he1, R.ok_bind] at hl
                intro u M4 H4 s4 t4 r4
                cases hes : escV cs4 v with
                | stk => rw [hes] at hl; exact hl.elim
                | exc c fs cs => exact (escV_exc hes).elim
                | ok yv cs5 =>
                  rw [hes, R.ok_bind] at hl
                  obtain ⟨M5, s5, t5, r5⟩ := s4.esc r4 hes
                  have t45 := (t3.trans t4).trans t5
                  have ⟨tj5, dj5⟩ := cl (cl ⟨tj3, dj3⟩ (t4.j s4)) (t5.j s5)
                  obtain ⟨d1, d2, d3, d4, d5⟩ := dj5
                  have s5' := back s5 t45
                  obtain ⟨s6, mono6⟩ := s5'.poke d2 nD d1 (us ++ [u])
                  have kM : Keep M5 H4 (upd H4 D (.lst (us ++ [u]))) := Keep.chg d2 d1 (fun _ h => nomatch h) fun _ _ h => nomatch h
                  refine ⟨us, d1, ?_, M5, cs5, us ++ [u], acc ++ [yv], ⟨s6, ?_, ⟨upd_same, d2, d3, ?_, d5⟩, by simp; omega⟩, hl⟩
                  · rw [sizeLine_eq, d4.length]; have : xs.length ≤ 16777216 := hsz; omega
                  · refine ⟨⟨fun b o h n => ?_, fun b ys h => kM.tup _ _ (tj5.keep.tup b ys h), fun b o u h => kM.frz _ _ _ (tj5.keep.frz b o u h), fun b h => kM.dom b (tj5.keep.dom b h)⟩, tj5.sub, tj5.sup, tj5.ow, tj5.owM, tj5.pre⟩
                    rw [upd_ne (fun z => by rw [z, hD] at h; cases h)]
                    exact tj5.keep.obj b o h n
                  · exact (d4.mono kM fun _ _ z => z).append (.cons (mono6 r5) .nil)
    · -- the end
      have e : i = xs.length := by omega
      subst e
      rw [List.drop_length, lcLoop] at hl
      refine .inl ⟨src.stop _ (src.step i1 tj) (Nat.le_refl _), ?_⟩
      obtain ⟨d1, d2, d3, d4, d5⟩ := dj
      have lk := LkO.step lk1 tj
      have sU := s.unlock lk hlk ⟨[], by simp⟩
      refine hφ _ _ hl D us M Hi sU ⟨?_, ?_, ?_, ?_, ?_⟩ d1 d4
      · exact t1.keep.trans ((tj.keep.mono fun b q => t1L.ow b q |>.elim id fun z => by obtain ⟨n, c, g1, _, _⟩ := q; exact (s1.js_there g1 z).elim).mono t1.ow)
      · exact fun b q => (tj.sub b q).elim (t1.subN b) fun z => .inr (t1.keep.pure z)
      · intro b q
        rcases t1.sup b q with z | z
        · rcases tj.sup b z with w | w | w
          · exact .inl w
          · exact .inr (t1.ow b ((t1L.ow b w).elim id fun v => by obtain ⟨n, c, g1, _, _⟩ := w; exact (s1.js_there g1 v).elim))
          · exact (s1.dom b z w).elim
        · exact .inr z
      · intro b q
        refine t1.ow b ?_
        rcases ow_unlock hlk ⟨[], by simp⟩ s1.len q with z | z
        · rcases tj.ow b z with w | w
          · exact (t1L.ow b w).elim id fun v => by obtain ⟨n, c, g1, _, _⟩ := w; exact (s1.js_there g1 v).elim
          · obtain ⟨n, c, g1, _, _⟩ := z; exact (s1.js_there g1 w).elim
        · exact z
      · intro b q
        simp only [List.mem_singleton] at q
        subst q
        exact ⟨t1.keep.pure hD, d2⟩
end Ev
set_option maxRecDepth 100000
set_option maxHeartbeats 1000000
/-! Ev12: statements -/
namespace Ev
open PySem L2 PyProof.Rows
def RS.sat (r : RS) (nx : Env → Cells → Prop) (rt : P → Bool → Cells → Prop) (bk ct : Env → Cells → Prop) (ε : Nat → List P → Env → Cells → Prop) : Prop :=
  match r with
  | .nx ρ cs => nx ρ cs
  | .rt x w cs => rt x w cs
  | .bk ρ cs => bk ρ cs
  | .ct ρ cs => ct ρ cs
  | .exc c fs ρ cs => ε c fs ρ cs
  | .stk => False
theorem RS.sat.mono {r : RS} {nx nx' bk bk' ct ct' : Env → Cells → Prop} {rt rt' : P → Bool → Cells → Prop} {ε ε' : Nat → List P → Env → Cells → Prop} (h : r.sat nx rt bk ct ε)
    (h1 : ∀ ρ cs, nx ρ cs → nx' ρ cs) (h2 : ∀ x w cs, rt x w cs → rt' x w cs) (h3 : ∀ ρ cs, bk ρ cs → bk' ρ cs) (h4 : ∀ ρ cs, ct ρ cs → ct' ρ cs) (h5 : ∀ c fs ρ cs, ε c fs ρ cs → ε' c fs ρ cs) : r.sat nx' rt' bk' ct' ε' := by
  cases r with
  | nx ρ cs => exact h1 _ _ h
  | rt x w cs => exact h2 _ _ _ h
  | bk ρ cs => exact h3 _ _ h
  | ct ρ cs => exact h4 _ _ h
  | exc c fs ρ cs => exact h5 _ _ _ _ h
  | stk => exact h
section
variable (F : Fx) (K : PySem.W.Frag) (W : WX)
def Nx (js : List Addr) (M : Addr → Prop) (cs : Cells) (H : Hp) (Q : L2.St → Hp → Prop) (ρ' : Env) (cs' : Cells) : Prop :=
  ∀ σ' M' js' H', SR F.C K M' js' ρ' cs' σ' H' → TrJ js M cs H js' M' cs' H' → Q σ' H'
/-- what comes back -/
def RtV (js' : List Addr) (M' : Addr → Prop) (H H' : Hp) (u : V) (x : P) (w : Bool) : Prop :=
  (w = false → RP F.C K M' H' u x) ∧ (w = true → ∃ a us xs, u = .ref a ∧ x = .lst xs ∧ M' a ∧ H' a = some (.lst us) ∧ RPs F.C K M' H' us xs ∧ (H a = none ∨ ∃ n, F.m ≤ n ∧ js'[n]? = some a))
def Rt (js : List Addr) (M : Addr → Prop) (cs : Cells) (H : Hp) (Q : VK) (x : P) (w : Bool) (cs' : Cells) : Prop :=
  ∀ u M' js' H', SR F.C K M' js' [] cs' [] H' → TrJ js M cs H js' M' cs' H' → RtV F K js' M' H H' u x w → Q u H'
def Ep (c : Nat) (fs : List P) (ρ' : Env) (cs' : Cells) : Prop :=
  ∀ σ' js' cls d M' H', SR F.C K M' js' ρ' cs' σ' H' → F.J js' M' cs' H' → ExR F.C F.EC K M' H' c fs cls d → W cls d σ' H'
def SatS (js : List Addr) (M : Addr → Prop) (cs : Cells) (H : Hp) (D : Ends) (r : RS) : Prop :=
  r.sat (Nx F K js M cs H D.nx) (Rt F K js M cs H D.rt) (Nx F K js M cs H D.bk) (Nx F K js M cs H D.ct) (Ep F K W)
def trSf (f : Env → Cells → RS) : TS := fun D σ H => ∃ M js ρ cs, SR F.C K M js ρ cs σ H ∧ F.J js M cs H ∧ SatS F K W js M cs H D (f ρ cs)
def trS (s : CS) : TS := trSf F K W (evS F.G F.call F.m s)
def trSs (ss : CSs) : TS := trSf F K W (evSs F.G F.call F.m ss)
end
section
variable {F : Fx} {K : PySem.W.Frag} {W : WX} {X : Cx} {pos : Pos} {e : Expr} {st : Stmt} {sts rest : List Stmt} {ce : CE} {s : CS} {ss : CSs} {M M' M1 : Addr → Prop} {js js' js1 : List Addr} {ρ ρ' : Env} {cs cs' cs1 : Cells} {σ σ' : L2.St} {H H' H1 : Hp} {D : Ends}
theorem Nx.later {Q : L2.St → Hp → Prop} (t : TrJ js M cs H js1 M1 cs1 H1) (h : Nx F K js M cs H Q ρ' cs') : Nx F K js1 M1 cs1 H1 Q ρ' cs' := fun σ' M' js' H' s' t' => h σ' M' js' H' s' (t.trans t')
theorem Rt.later {Q : VK} {x : P} {w : Bool} (t : TrJ js M cs H js1 M1 cs1 H1) (h : Rt F K js M cs H Q x w cs') : Rt F K js1 M1 cs1 H1 Q x w cs' := fun u M' js' H' s' t' r =>
  h u M' js' H' s' (t.trans t') ⟨r.1, fun e => let ⟨a, us, xs, h1, h2, h3, h4, h5, h6⟩ := r.2 e; ⟨a, us, xs, h1, h2, h3, h4, h5, h6.imp t.keep.pure id⟩⟩
theorem SatS.later {r : RS} (t : TrJ js M cs H js1 M1 cs1 H1) (h : SatS F K W js M cs H D r) : SatS F K W js1 M1 cs1 H1 D r :=
  RS.sat.mono h (fun _ _ => Nx.later t) (fun _ _ _ => Rt.later t) (fun _ _ => Nx.later t) (fun _ _ => Nx.later t) fun _ _ _ _ h => h
theorem satS_toS {α : Type} {r : R α} {f : α → Cells → RS} : SatS F K W js M cs H D (r.toS ρ f) ↔ r.sat (fun a cs1 => SatS F K W js M cs H D (f a cs1)) fun c fs cs1 => Ep F K W c fs ρ cs1 := by
  cases r <;> exact Iff.rfl
theorem Ep.eps {c : Nat} {fs : List P} (h : Ep F K W c fs ρ cs1) : F.Eps K W js ρ σ c fs cs1 := fun cls d M H s j x => h σ js cls d M H s j x
theorem SR.bare (s : SR F.C K M js ρ cs σ H) : SR F.C K M js [] cs [] H := ⟨s.dom, fun i v h => by simp at h, rfl, s.len, s.nd, s.cel⟩
/-! ### rows of statements -/
theorem s_nil : PSs X [] (trSs F X.K W .nil) := by
  refine pss_nil.imp fun D σ H ⟨M, js, ρ, cs, s, j, h⟩ => ?_
  exact h σ M js H s ((Tr.refl (M := M) (js := js) (cs := cs) (H := H)).j s)
theorem s_cons (h1 : PS X st (trS F X.K W s)) (h2 : PSs X rest (trSs F X.K W ss)) : PSs X (st :: rest) (trSs F X.K W (.cons s ss)) := by
  refine (pss_cons h1 h2).imp fun D σ H ⟨M, js, ρ, cs, s0, j, h⟩ => ⟨M, js, ρ, cs, s0, j, ?_⟩
  simp only [evSs] at h
  revert h
  cases evS F.G F.call F.m s ρ cs with
  | nx ρ' cs' => exact fun h σ' M' js' H' s' t' => ⟨M', js', ρ', cs', s', F.st j t', h.later t'⟩
  | rt x w cs' => exact fun h => h
  | bk ρ' cs' => exact fun h => h
  | ct ρ' cs' => exact fun h => h
  | exc c fs ρ' cs' => exact fun h => h
  | stk => exact fun h => h
theorem s_kill {is : List Nat} (h1 : PSs X sts (trSs F X.K W ss)) : PSs X sts (trSs F X.K W (.kill is ss)) :=
  h1.imp fun D σ H ⟨M, js, ρ, cs, s0, j, h⟩ => ⟨M, js, wipe ρ is, cs, s0.wipe1 is, j, h⟩
/-! ### small statements -/
theorem s_pass : PS X (.Pass pos) (trS F X.K W .pass) := ps_pass.imp fun D σ H ⟨M, js, ρ, cs, s, j, h⟩ => h σ M js H s ((Tr.refl (M := M) (js := js) (cs := cs) (H := H)).j s)
theorem s_doc {x : PySem.Str} {k : Nat} {p : Pos} : PS X (.Expr (.Constant (.str x) k p) pos) (trS F X.K W .pass) := ps_doc.imp fun D σ H ⟨M, js, ρ, cs, s, j, h⟩ => h σ M js H s ((Tr.refl (M := M) (js := js) (cs := cs) (H := H)).j s)
theorem s_brk : PS X (.Break pos) (trS F X.K W .brk) := ps_break.imp fun D σ H ⟨M, js, ρ, cs, s, j, h⟩ => h σ M js H s ((Tr.refl (M := M) (js := js) (cs := cs) (H := H)).j s)
theorem s_cnt : PS X (.Continue pos) (trS F X.K W .cnt) := ps_continue.imp fun D σ H ⟨M, js, ρ, cs, s, j, h⟩ => h σ M js H s ((Tr.refl (M := M) (js := js) (cs := cs) (H := H)).j s)
/-- no comprehension -/
def noComp : Expr → Bool
  | .ListComp .. | .SetComp .. | .DictComp .. => false
  | _ => true
theorem noSwap {t : Option Expr} {l : Nat} {env : PySem.Env} (h : noComp e = true) : swapsWith e t l env = pure false := by
  cases e <;> first | rfl | cases h
theorem s_expr (he : PE X e (trE F X.K W ce)) (hs : noComp e = true) : PS X (.Expr e pos) (trS F X.K W (.ex ce)) := by
  refine (ps_expr he (noSwap hs)).imp fun D σ H ⟨M, js, ρ, cs, s, j, h⟩ => ⟨M, js, ρ, cs, s, j, ?_⟩
  simp only [evS] at h
  rw [satS_toS] at h
  exact h.mono (fun v cs1 h u M1 H1 s1 t1 _ => h σ M1 js H1 s1 (t1.j s1)) fun c fs cs1 h => h.eps
theorem s_retN : PS X (.Return none pos) (trS F X.K W .retN) := ps_retN.imp fun D σ H ⟨M, js, ρ, cs, s, j, h⟩ =>
  h .non M js H s.bare ((Tr.refl (M := M) (js := js) (cs := cs) (H := H)).j s) ⟨fun _ => .none, fun z => by cases z⟩
theorem s_retL {le : CL} (he : PE X e (trL F X.K W le)) : PS X (.Return (some e) pos) (trS F X.K W (.retL le)) := by
  refine (ps_ret he).imp fun D σ H ⟨M, js, ρ, cs, s, j, h⟩ => ⟨M, js, ρ, cs, s, j, ?_⟩
  simp only [evS] at h
  rw [satS_toS] at h
  refine h.mono (fun xs cs1 h a us M1 H1 s1 t1 e1 r1 => ?_) fun c fs cs1 h => h.eps
  exact h (.ref a) M1 js H1 s1.bare (t1.j s1) ⟨fun z => (by cases z), fun _ => ⟨a, us, xs, rfl, rfl, (t1.new a (by simp)).2, e1, r1, .inl (t1.new a (by simp)).1⟩⟩
theorem s_ret (he : PE X e (trE F X.K W ce)) : PS X (.Return (some e) pos) (trS F X.K W (.ret ce)) := by
  refine (ps_ret he).imp fun D σ H ⟨M, js, ρ, cs, s, j, h⟩ => ⟨M, js, ρ, cs, s, j, ?_⟩
  simp only [evS] at h
  rw [satS_toS] at h
  refine h.mono (fun v cs1 h u M1 H1 s1 t1 r1 => ?_) fun c fs cs1 h => h.eps
  have esc : SatS F X.K W js M cs H D ((escV cs1 v).toS ρ fun x cs => .rt x false cs) → D.rt u H1 := fun h => by
    rw [satS_toS] at h
    cases hv : escV cs1 v with
    | stk => rw [hv] at h; exact h.elim
    | exc c fs cs => exact (escV_exc hv).elim
    | ok x cs2 =>
      rw [hv] at h
      obtain ⟨M2, s2, t2, r2⟩ := s1.esc r1 hv
      exact h u M2 js H1 s2.bare ((t1.trans t2).j s2) ⟨fun _ => r2, fun z => by cases z⟩
  cases v with
  | p x => exact h u M1 js H1 s1.bare (t1.j s1) ⟨fun _ => r1, fun z => by cases z⟩
  | ref n =>
    dsimp only at h
    split at h
    · rename_i xs hx
      split at h
      · rename_i hm
        obtain ⟨a, ha, rfl⟩ := r1
        have := s1.cel n a _ ha hx
        cases this with
        | lst q e1 z => exact h (.ref a) M1 js H1 s1.bare (t1.j s1) ⟨fun z => (by cases z), fun _ => ⟨a, _, xs, rfl, rfl, q, e1, z, .inr ⟨n, hm, ha⟩⟩⟩
      · exact esc h
    · exact esc h
theorem s_if {c : Expr} {a b : List Stmt} {cc : CE} {ca cb : CSs} (hc : PT X c (trT F X.K W cc)) (ha : PSs X a (trSs F X.K W ca)) (hb : PSs X b (trSs F X.K W cb)) : PS X (.If c a b pos) (trS F X.K W (.iff cc ca cb)) := by
  refine (ps_if hc ha hb).imp fun D σ H ⟨M, js, ρ, cs, s, j, h⟩ => ⟨M, js, ρ, cs, s, j, ?_⟩
  simp only [evS] at h
  rw [satS_toS] at h
  refine h.mono (fun k cs1 h M1 H1 s1 t1 => ?_) fun c fs cs1 h => h.eps
  cases k with
  | true => exact ⟨M1, js, ρ, cs1, s1, F.st j (t1.j s1), SatS.later (t1.j s1) h⟩
  | false => exact ⟨M1, js, ρ, cs1, s1, F.st j (t1.j s1), SatS.later (t1.j s1) h⟩
end
end Ev
set_option maxRecDepth 100000
set_option maxHeartbeats 1000000
/-! Ev13: stores, methods of lists, loops -/
namespace Ev
open PySem L2 PyProof.Rows
section
variable {C : ClsA} {K : PySem.W.Frag} {M M' : Addr → Prop} {js js' : List Addr} {ρ ρ' : Env} {cs cs' : Cells} {σ σ' : L2.St} {H H' : Hp} {a : Addr} {us : List V} {xs : List P}
/-- a new list has its slot -/
theorem SR.adopt (s : SR C K M js ρ cs σ H) (t : TrL a M js cs H M' cs' H') (s' : SR C K M' js ρ cs' σ H') (e : H' a = some (.lst us)) (r : RPs C K M' H' us xs) (i : Nat) :
    SR C K M' (js ++ [a]) (ρ.set i (some (.ref cs'.length))) (cs' ++ [.lst xs]) (σ.set i (some (.ref a))) H' ∧ TrJ js M cs H (js ++ [a]) M' (cs' ++ [.lst xs]) H' := by
  obtain ⟨h0, m1⟩ := t.new a (by simp)
  have nj : a ∉ js := fun z => by
    obtain ⟨n, hn⟩ := List.getElem?_of_mem z
    exact s.js_there hn h0
  have s2 : SR C K M' (js ++ [a]) ρ (cs' ++ [.lst xs]) σ H' := by
    refine ⟨s'.dom, fun i v h => ?_, s'.sl, by simp [s'.len], ?_, fun n b c h1 h2 => ?_⟩
    · obtain ⟨u, h1, h2⟩ := s'.env i v h
      refine ⟨u, h1, ?_⟩
      cases v with
      | p x => exact h2
      | ref n =>
        obtain ⟨b, h3, h4⟩ := h2
        exact ⟨b, by rw [List.getElem?_append_left (List.getElem?_eq_some_iff.mp h3).1]; exact h3, h4⟩
    · rw [List.nodup_append]
      exact ⟨s'.nd, by simp, fun x hx y hy => by simp at hy; subst hy; exact fun z => nj (z ▸ hx)⟩
    · by_cases hn : n < js.length
      · rw [List.getElem?_append_left hn] at h1
        rw [List.getElem?_append_left (by rw [← s'.len]; exact hn)] at h2
        exact s'.cel n b c h1 h2
      · have hn' : js.length ≤ n := Nat.le_of_not_lt hn
        rw [List.getElem?_append_right hn'] at h1
        rw [List.getElem?_append_right (by rw [← s'.len]; exact hn')] at h2
        have : n - js.length = 0 := by
          have := (List.getElem?_eq_some_iff.mp h1).1
          simp at this; omega
        rw [this] at h1
        rw [← s'.len, this] at h2
        simp at h1 h2
        subst h1 h2
        exact .lst m1 e r
  refine ⟨s2.set i ⟨a, by rw [← s'.len]; simp, rfl⟩, t.keep, t.subN, fun b h => (t.sup b h).imp id .inl, fun b h => ?_, fun b h => s2.ow h, [a], rfl, fun b h => by simp at h; subst h; exact h0⟩
  obtain ⟨n, c, h1, h2, h3⟩ := h
  by_cases hn : n < js.length
  · rw [List.getElem?_append_left hn] at h1
    rw [List.getElem?_append_left (by rw [← s'.len]; exact hn)] at h2
    exact .inl (t.ow b ⟨n, c, h1, h2, h3⟩)
  · have hn' : js.length ≤ n := Nat.le_of_not_lt hn
    rw [List.getElem?_append_right hn'] at h1
    have := List.mem_of_getElem? h1
    simp at this
    subst this
    exact .inr h0
/-- a thing is changed -/
theorem SR.write (s : SR C K M js ρ cs σ H) {n : Nat} {c c' : Cell} {o o' : HO} (hj : js[n]? = some a) (hc : cs[n]? = some c) (hm : c.isMut = true) (he : H a = some o) (nt : ∀ xs, o ≠ .tup xs) (nf : ∀ x y, o ≠ .frz x y)
    (hr : (∀ {us xs}, RPs C K M H us xs → RPs C K M (upd H a o') us xs) → RC C K M (upd H a o') a c') : SR C K M js ρ (cs.set n c') σ (upd H a o') ∧ Tr M js cs H M (cs.set n c') (upd H a o') := by
  have hM : M a := s.ow ⟨n, c, hj, hc, hm⟩
  have k : Keep M H (upd H a o') := Keep.chg hM he nt nf
  have k1 : Keep (fun b => b = a) H (upd H a o') := Keep.chg (M := fun b => b = a) rfl he nt nf
  have ln : n < cs.length := (List.getElem?_eq_some_iff.mp hc).1
  refine ⟨⟨fun b q => k.dom b (s.dom b q), fun i v h => ?_, s.sl, by simp [s.len], s.nd, fun m b d h1 h2 => ?_⟩, ?_⟩
  · obtain ⟨u, h1, h2⟩ := s.env i v h
    refine ⟨u, h1, ?_⟩
    cases v with
    | p x => exact RP.mono k (fun _ _ z => z) h2
    | ref n => exact h2
  · by_cases hn : n = m
    · subst hn
      rw [List.getElem?_set_self ln] at h2
      cases h2
      rw [hj] at h1; cases h1
      exact hr fun r => r.mono k fun _ _ z => z
    · rw [List.getElem?_set_ne hn] at h2
      exact (s.cel m b d h1 h2).move k1 (fun z => hn (nodup_at s.nd hj (z ▸ h1))) k (fun _ _ z => z) id
  · exact Tr.mk (Keep.chg ⟨n, c, hj, hc, hm⟩ he nt nf) (fun _ h => .inl h) (fun _ h => .inl h) fun b o => ow_set hc (fun _ => hm) o
end
section
variable {F : Fx} {W : WX} {X : Cx} {pos p py : Pos} {e : Expr} {es : List Expr} {ce ci : CE} {ces : CEs} {le : CL}
theorem imp_l {K : PySem.W.Frag} {σ : L2.St} {H : Hp} {Q : VK} (h : trE F K W (.l le) σ H Q) : trL F K W le σ H Q := by
  obtain ⟨M, js, ρ, cs, s, j, h⟩ := h
  refine ⟨M, js, ρ, cs, s, j, ?_⟩
  simp only [evE] at h
  rw [R.sat_bind] at h
  refine h.mono (fun xs cs1 h a us M1 H1 s1 t1 e1 r1 => ?_) fun _ _ _ h => h
  have h0 := (t1.new a (by simp)).1
  have sub : ∀ b, (M1 b ∧ b ≠ a) → M1 b := fun b h => h.1
  refine h (.ref a) (fun b => M1 b ∧ b ≠ a) H1 ⟨fun b q => s1.dom b q.1, fun i v e => ?_, s1.sl, s1.len, s1.nd, fun n b c h1 h2 => (s1.cel n b c h1 h2).sub sub fun q => ⟨q, fun z => s.js_there h1 (z ▸ h0)⟩⟩
    (Tr.mk t1.keep (fun b q => t1.subN b q.1) (fun b q => (t1.sup b q).imp (fun z => ⟨z, fun e => s.dom b q (e ▸ h0)⟩) id) t1.ow) (.lst e1 (fun z => z.2 rfl) (r1.sub sub))
  obtain ⟨u, h1, h2⟩ := s1.env i v e
  exact ⟨u, h1, h2.sub sub⟩
theorem imp_set {K : PySem.W.Frag} {i : Nat} {D : Ends} {σ : L2.St} {H : Hp} (h : trS F K W (.set (.nm i) ce) D σ H) : tAsg (trE F K W ce) (gName i) D σ H := by
  obtain ⟨M, js, ρ, cs, s, j, h⟩ := h
  refine ⟨M, js, ρ, cs, s, j, ?_⟩
  simp only [evS] at h
  rw [satS_toS] at h
  exact h.mono (fun v cs1 h u M1 H1 s1 t1 r1 => h _ M1 js H1 (s1.set i r1) (t1.j s1)) fun c fs cs1 h => h.eps
theorem imp_setL {K : PySem.W.Frag} {i : Nat} {D : Ends} {σ : L2.St} {H : Hp} (h : trS F K W (.setL i le) D σ H) : tAsg (trL F K W le) (gName i) D σ H := by
  obtain ⟨M, js, ρ, cs, s, j, h⟩ := h
  refine ⟨M, js, ρ, cs, s, j, ?_⟩
  simp only [evS] at h
  rw [satS_toS] at h
  refine h.mono (fun xs cs1 h a us M1 H1 s1 t1 e1 r1 => ?_) fun c fs cs1 h => h.eps
  obtain ⟨s2, t2⟩ := s.adopt t1 s1 e1 r1 i
  exact h _ M1 _ H1 s2 t2
theorem s_set {i : Nat} {x : PySem.Str} (hN : X.N.Nodup) (hi : X.N[i]? = some x) (hx : Loc X.env.scope x) (hf : X.fn x = true ∨ X.env.scope.names.lookup x = some .local) (he : PE X e (trE F X.K W ce)) (hs : noComp e = true) :
    PS X (.Assign [.Name x py] e pos) (trS F X.K W (.set (.nm i) ce)) := (ps_set hN hi hx he (noSwap hs) hf).imp fun D σ H => imp_set
theorem s_setL {i : Nat} {x : PySem.Str} (hN : X.N.Nodup) (hi : X.N[i]? = some x) (hx : Loc X.env.scope x) (hf : X.fn x = true ∨ X.env.scope.names.lookup x = some .local) (he : PE X e (trL F X.K W le)) (hs : noComp e = true) :
    PS X (.Assign [.Name x py] e pos) (trS F X.K W (.setL i le)) := (ps_set hN hi hx he (noSwap hs) hf).imp fun D σ H => imp_setL
/-- a, b = a tuple -/
def notTupE : Expr → Bool
  | .Tuple .. => false
  | _ => true
theorem s_setT {ts : TGs} {k : Nat} {tp : Pos} (he : PE X e (trE F X.K W ce)) (hg : PG X (.Tuple es k tp) (trTg F X.K (.tp ts))) (hn : notTupE e = true) (hs : noComp e = true) : PS X (.Assign [.Tuple es k tp] e pos) (trS F X.K W (.set (.tp ts) ce)) := by
  refine (ps_asg he hg (by show swapsWithSole [Expr.Tuple es k tp] e pos.line X.env = pure false; unfold swapsWithSole; exact noSwap hs) (by cases e <;> first | rfl | cases hn)).imp fun D σ H h => ?_
  obtain ⟨M, js, ρ, cs, s, j, h⟩ := h
  refine ⟨M, js, ρ, cs, s, j, ?_⟩
  simp only [evS] at h
  rw [satS_toS] at h
  refine h.mono (fun v cs1 h u M1 H1 s1 t1 r1 => ?_) fun c fs cs1 h => h.eps
  cases v with
  | ref n => exact h.elim
  | p x =>
    dsimp only at h
    cases ha : asgT (.tp ts) x ρ with
    | none => rw [ha] at h; exact h.elim
    | some ρ' =>
      rw [ha] at h
      exact ⟨M1, js, ρ, cs1, x, ρ', s1, r1, ha, fun σ' s' _ => h σ' M1 js H1 s' (t1.j s1)⟩
theorem s_par {i j : Nat} {x y : PySem.Str} {a b : Expr} {ca cb : CE} {px py pt : Pos} {kt k2 : Nat} {pt2 : Pos} (hc : X.calm = true) (hN : X.N.Nodup) (hi : X.N[i]? = some x) (hj : X.N[j]? = some y) (hij : i ≠ j)
    (hx : X.env.scope.names.lookup x = some .local) (hy : X.env.scope.names.lookup y = some .local) (ha : PA X [a, b] (trA F X.K W (.cons ca (.cons cb .nil))))
    (hw : swappedStores [.Tuple [.Name x px, .Name y py] kt pt] (.Tuple [a, b] k2 pt2) X.env = pure (some [x, y])) :
    PS X (.Assign [.Tuple [.Name x px, .Name y py] kt pt] (.Tuple [a, b] k2 pt2) pos) (trS F X.K W (.par i j ca cb)) := by
  refine (ps_par hc hN hi hj hij hx hy ha hw).imp fun D σ H h => ?_
  obtain ⟨M, js, ρ, cs, s, j0, h⟩ := h
  refine ⟨M, js, ρ, cs, s, j0, ?_⟩
  simp only [evS] at h
  rw [satS_toS] at h
  refine h.mono (fun vs cs1 h us M1 H1 s1 t1 r1 => ?_) fun c fs cs1 h => h.eps
  rw [satS_toS] at h
  cases he : escAll vs cs1 with
  | stk => rw [he] at h; exact h.elim
  | exc c fs cs2 => exact (escAll_exc he).elim
  | ok xs cs2 =>
    rw [he] at h
    replace h := R.sat_ok.mp h
    obtain ⟨M2, s2, t2, r2⟩ := s1.escs r1 he
    split at h
    · rename_i v w
      obtain ⟨u1, u2, rfl, q1, q2⟩ := r2.two
      exact ⟨u1, u2, rfl, h _ M2 js H1 ((s2.set i (v := .p v) q1).set j (v := .p w) q2) ((t1.trans t2).j s2)⟩
    · exact h.elim
theorem augP_ok {o : BOp} (ho : o = .add ∨ o = .sub) : PIp X (opOf o) (fun x y H Q => (∃ i j, o = .add ∧ x = .int i ∧ y = .int j ∧ Q (.int (i + j)) H) ∨ (∃ i j, o = .sub ∧ x = .int i ∧ y = .int j ∧ Q (.int (i - j)) H)) := by
  intro pins s σ H x y v u Q I r1 r2 h
  rcases ho with rfl | rfl
  · rcases h with ⟨i, j, _, e1, e2, q⟩ | ⟨i, j, z, _⟩
    · exact ip_add pins s σ H x y v u Q I r1 r2 ⟨i, j, e1, e2, q⟩
    · cases z
  · rcases h with ⟨i, j, z, _⟩ | ⟨i, j, _, e1, e2, q⟩
    · cases z
    · exact ip_sub pins s σ H x y v u Q I r1 r2 ⟨i, j, e1, e2, q⟩
theorem s_aug {i : Nat} {x : PySem.Str} {o : BOp} (ho : o = .add ∨ o = .sub) (hN : X.N.Nodup) (hi : X.N[i]? = some x) (hx : Loc X.env.scope x) (hf : X.fn x = true ∨ X.env.scope.names.lookup x = some .local) (he : PE X e (trE F X.K W ce)) :
    PS X (.AugAssign (.Name x py) (opOf o) e pos) (trS F X.K W (.aug i o ce)) := by
  refine (ps_aug hN hi hx he (augP_ok ho) hf).imp fun D σ H h => ?_
  obtain ⟨M, js, ρ, cs, s, j, h⟩ := h
  simp only [evS] at h
  split at h
  · rename_i x hx
    obtain ⟨u, hu, rx⟩ := s.env i _ hx
    refine ⟨u, hu, M, js, ρ, cs, s, j, ?_⟩
    rw [satS_toS, sat_vw] at h
    refine h.mono (fun v cs1 h w M1 H1 s1 t1 r1 => ?_) fun c fs cs1 h => h.eps
    obtain ⟨y, hy, h⟩ := h
    have ry := s1.seen r1 hy
    rw [satS_toS, R.sat_opt] at h
    obtain ⟨z, hz, h⟩ := h
    have rx1 : RP F.C X.K M1 H1 u x := s.rp t1 rx
    rcases ho with rfl | rfl
    · unfold augP at hz
      split at hz
      · cases rx1
        have := ry.int; subst this
        cases hz
        exact .inl ⟨_, _, rfl, rfl, rfl, h _ M1 js H1 (s1.set i (v := .p (.int _)) (.int _)) (t1.j s1)⟩
      · rename BOp.add = BOp.sub => z; cases z
      · cases hz
    · unfold augP at hz
      split at hz
      · rename BOp.sub = BOp.add => z; cases z
      · cases rx1
        have := ry.int; subst this
        cases hz
        exact .inr ⟨_, _, rfl, rfl, rfl, h _ M1 js H1 (s1.set i (v := .p (.int _)) (.int _)) (t1.j s1)⟩
      · cases hz
  · exact h.elim
end
end Ev
set_option maxRecDepth 100000
set_option maxHeartbeats 1000000
/-! Ev14: methods of lists, stores, loops -/
namespace Ev
open PySem L2 PyProof.Rows
/-! ### methods that change a list -/
def mName : MM → PySem.Str
  | .append => "append" | .extend => "extend" | .insert => "insert" | .pop => "pop" | .popAt => "pop"
def rM : MM → V → List V → Hp → VK → Prop
  | .append => rAppend | .extend => rExtend | .pop => rPop | .popAt => rPopAt
  | .insert => fun x vs H Q => ∃ (l : Addr) (xs : List V) (i : Int) (y : V), x = .ref l ∧ vs = [.int i, y] ∧ H l = some (.lst xs) ∧ xs.length < sizeLine ∧ 0 ≤ i ∧ i < 2 ^ 63 ∧ Q .non (upd H l (.lst (xs.take i.toNat ++ [y] ++ xs.drop i.toNat)))
theorem notLstAt {i : Nat} {ρ : Env} {cs : Cells} (h : lstAt i ρ cs = true) : ∃ n xs, ρ[i]? = some (some (.ref n)) ∧ cs[n]? = some (.lst xs) := by
  unfold lstAt at h
  split at h
  · split at h
    · exact ⟨_, _, by assumption, by assumption⟩
    · cases h
  · cases h
theorem RPs.dropLast {C : ClsA} {K : PySem.W.Frag} {M : Addr → Prop} {H : Hp} {us : List V} {ps : List P} (h : RPs C K M H us ps) : RPs C K M H us.dropLast ps.dropLast := by
  rw [List.dropLast_eq_take, List.dropLast_eq_take, h.length]
  exact h.take _
theorem RPs.eraseIdx {C : ClsA} {K : PySem.W.Frag} {M : Addr → Prop} {H : Hp} : ∀ {us : List V} {ps : List P} (n : Nat), RPs C K M H us ps → RPs C K M H (us.eraseIdx n) (ps.eraseIdx n)
  | _, _, _, .nil => .nil
  | _, _, 0, .cons _ t => t
  | _, _, n + 1, .cons r t => .cons r (RPs.eraseIdx n t)
theorem mth_ok {C : ClsA} {K : PySem.W.Frag} {M : Addr → Prop} {H : Hp} {o : MM} {a : Addr} {us vs : List V} {xs ys zs : List P} {y : P} (hH : H a = some (.lst us)) (r : RPs C K M H us xs) (rs : RPs C K M H vs ys) (e : mthL o xs ys = some (zs, y)) :
    ∃ us' v, RPs C K M H us' zs ∧ RP C K M H v y ∧ ∀ Q : VK, Q v (upd H a (.lst us')) → rM o (.ref a) vs H Q := by
  have hz : SZ = sizeLine := by rw [sizeLine_eq]
  have hl := r.length
  cases o with
  | append =>
    match ys, rs, e with
    | [x], rs, e =>
      simp only [mthL] at e
      split at e
      · simp only [Option.some.injEq, Prod.mk.injEq] at e
        obtain ⟨rfl, rfl⟩ := e
        obtain ⟨u, rfl, ru⟩ := rs.one
        exact ⟨us ++ [u], .non, r.append (.cons ru .nil), .none, fun Q q => ⟨a, us, u, rfl, rfl, hH, by rw [← hz]; omega, q⟩⟩
      · cases e
  | extend =>
    match ys, rs, e with
    | [.lst ws], rs, e =>
      simp only [mthL] at e
      split at e
      · simp only [Option.some.injEq, Prod.mk.injEq] at e
        obtain ⟨rfl, rfl⟩ := e
        obtain ⟨u, rfl, ru⟩ := rs.one
        cases ru with
        | lst h1 h2 h3 => 
          have := h3.length
          exact ⟨_, .non, r.append h3, .none, fun Q q => ⟨a, _, us, _, rfl, rfl, hH, h1, by rw [← hz]; omega, q⟩⟩
      · cases e
  | pop =>
    match ys, rs, e with
    | [], rs, e =>
      simp only [mthL, Option.map_eq_some_iff, Prod.mk.injEq] at e
      obtain ⟨w, hw, rfl, rfl⟩ := e
      cases rs
      obtain ⟨u, hu, ru⟩ := r.get hw
      exact ⟨us.dropLast, u, r.dropLast, ru, fun Q q => ⟨a, us, u, rfl, rfl, hH, by rw [hl]; exact hu, q⟩⟩
  | popAt =>
    match ys, rs, e with
    | [.int i], rs, e =>
      simp only [mthL] at e
      split at e
      · rename_i hi
        simp only [Option.map_eq_some_iff, Prod.mk.injEq] at e
        obtain ⟨w, hw, rfl, rfl⟩ := e
        obtain ⟨u0, rfl, ru0⟩ := rs.one
        cases ru0
        obtain ⟨u, hu, ru⟩ := r.get hw
        have hlt := (List.getElem?_eq_some_iff.mp hw).1
        exact ⟨us.eraseIdx i.toNat, u, r.eraseIdx _, ru, fun Q q => ⟨a, us, i, i.toNat, u, rfl, rfl, hH, by omega, hi.2, seqIndex_of hi.1 (by omega), hu, q⟩⟩
      · cases e
  | insert =>
    match ys, rs, e with
    | [.int i, x], rs, e =>
      simp only [mthL] at e
      split at e
      · rename_i hi
        simp only [Option.some.injEq, Prod.mk.injEq] at e
        obtain ⟨rfl, rfl⟩ := e
        obtain ⟨u0, u, rfl, ru0, ru⟩ := rs.two
        cases ru0
        refine ⟨us.take i.toNat ++ [u] ++ us.drop i.toNat, .non, ?_, .none, fun Q q => ⟨a, us, i, u, rfl, rfl, hH, by rw [← hz]; omega, hi.2.1, hi.2.2, q⟩⟩
        have := ((r.take i.toNat).append (.cons ru .nil)).append (r.drop i.toNat)
        simpa using this
      · cases e
section
variable {F : Fx} {W : WX} {X : Cx} {pos p apos cpos : Pos} {e : Expr} {es : List Expr} {ce ci : CE} {ces : CEs} {x : PySem.Str} {i : Nat}
/-- what both kinds of calls come to -/
theorem mth_end {K : PySem.W.Frag} {o : MM} {σ : L2.St} {H : Hp} {Q : VK} (h : trE F K W (.mth i o ces) σ H Q) :
    ∃ a, σ[i]? = some (some (.ref a)) ∧ (∃ xs, SqL K H a xs) ∧ trA F K W ces σ H fun vs H2 => rM o (.ref a) vs H2 Q := by
  obtain ⟨M, js, ρ, cs, s, j, h⟩ := h
  simp only [evE] at h
  split at h
  · rename_i hl
    obtain ⟨n, xs, h1, h2⟩ := notLstAt hl
    obtain ⟨u, hu, a, ha, rfl⟩ := s.env i _ h1
    have rc := s.cel n a _ ha h2
    cases rc with
    | lst hM hH r =>
      refine ⟨a, hu, ⟨_, SqL.of hH⟩, M, js, ρ, cs, s, j, ?_⟩
      rw [R.sat_bind] at h
      refine h.mono (fun vs cs1 h us1 M1 H1 s1 t1 r1 => ?_) fun _ _ _ h => h
      rw [R.sat_bind] at h
      cases he : escAll vs cs1 with
      | stk => rw [he] at h; exact h.elim
      | exc c fs cs2 => exact (escAll_exc he).elim
      | ok ys cs2 =>
        rw [he] at h
        replace h := R.sat_ok.mp h
        obtain ⟨M2, s2, t2, r2⟩ := s1.escs r1 he
        rw [R.sat_bind] at h
        unfold onCell at h
        rw [h1] at h
        dsimp only at h
        split at h
        · rename_i c hc
          split at h
          · rename_i hm
            split at h
            · rename_i c' y hf
              unfold mthC at hf
              split at hf
              · simp only [Option.map_eq_some_iff, Prod.mk.injEq] at hf
                obtain ⟨⟨zs, y'⟩, hf, rfl, rfl⟩ := hf
                have rc := s2.cel n a _ ha hc
                cases rc with
                | lst hM2 hH2 rr =>
                  obtain ⟨us', v, g1, g2, g3⟩ := mth_ok hH2 rr r2 hf
                  refine g3 Q ?_
                  obtain ⟨s3, t3⟩ := s2.write (c' := .lst zs) (o' := .lst us') ha hc rfl hH2 (fun _ h => nomatch h) (fun _ _ h => nomatch h) fun f => .lst hM2 upd_same (f g1)
                  have k : Keep M2 H1 (upd H1 a (.lst us')) := Keep.chg hM2 hH2 (fun _ h => nomatch h) fun _ _ h => nomatch h
                  exact (R.sat_ok.mp h) v M2 _ s3 ((t1.trans t2).trans t3) (RP.mono k (fun _ _ z => z) g2)
              · cases hf
            · exact h.elim
          · exact h.elim
        · exact h.elim
  · exact h.elim
def mFew (es : List Expr) : Bool := es.all notStar && decide (es.length < 29)
theorem few_ok {cpos : Pos} {env : PySem.Env} : ∀ {es : List Expr}, es.all notStar = true → (backTo cpos (starEach es env)).all (fun x => !x.1) = true
  | [], _ => rfl
  | e :: es, h => by
    rw [List.all_cons, Bool.and_eq_true] at h
    rw [star_no h.1]
    show (true && (backTo cpos (starEach es env)).all fun x => !x.1) = true
    rw [few_ok h.2]; rfl
theorem s_mth {o : MM} (ho : o ≠ .pop) (hi : X.N[i]? = some x) (hv : Vis X.env.scope x) (hd : (x == ("__debug__" : PySem.Str)) = false) (hcd : (x == ("__classdict__" : PySem.Str)) = false) (ha : PA X (e :: es) (trA F X.K W ces)) (hn : mFew (e :: es) = true) (hl : (apos.endLine == cpos.line) = true) :
    PE X (.Call (.Attribute (.Name x p) (mName o) apos) (e :: es) [] cpos) (trE F X.K W (.mth i o ces)) := by
  unfold mFew at hn
  rw [Bool.and_eq_true] at hn
  have hn0 := hn.1
  rw [List.all_cons, Bool.and_eq_true] at hn0
  have few : ((backTo cpos (starEach (e :: es) X.env)).all (fun x => !x.1) && (backToKw cpos (keywordEach [] X.env)).all (fun x => x.1.isSome)
      && decide ((e :: es).length + ([] : List Keyword).length + (if ([] : List Keyword).isEmpty then 0 else 1) < 30)) = true := by
    rw [few_ok hn.1]
    have := of_decide_eq_true hn.2
    simp only [List.length_cons] at this
    have : decide ((e :: es).length + ([] : List Keyword).length + (if ([] : List Keyword).isEmpty then 0 else 1) < 30) = true := by
      apply decide_eq_true
      simp
      omega
    rw [this]; rfl
  have pv := pe_var (pos := p) hi hv hd hcd
  have fin : ∀ {T : String}, (∀ σ H Q, trE F X.K W (.mth i o ces) σ H Q → tBM X.K "list" (rM o) (tVar i) (trA F X.K W ces) σ H Q) := fun {T} σ H Q h => by
    obtain ⟨a, hu, ⟨xs, hq⟩, h⟩ := mth_end h
    exact ⟨_, hu, .inl ⟨rfl, xs, hq⟩, h⟩
  cases o with
  | append => exact (pe_bm PySem.F.plainAttrs_list PySem.F.slot_list_append PySem.F.type_list_append mt_append pv ha (hfew := few) (hline := hl) (hs := star_no hn0.1) (hplain := back_no hn0.2)).imp (fin (T := ""))
  | extend => exact (pe_bm PySem.F.plainAttrs_list PySem.F.slot_list_extend PySem.F.type_list_extend mt_extend pv ha (hfew := few) (hline := hl) (hs := star_no hn0.1) (hplain := back_no hn0.2)).imp (fin (T := ""))
  | insert => exact (pe_bm PySem.F.plainAttrs_list PySem.F.slot_list_insert PySem.F.type_list_insert mt_insert pv ha (hfew := few) (hline := hl) (hs := star_no hn0.1) (hplain := back_no hn0.2)).imp (fin (T := ""))
  | popAt => exact (pe_bm PySem.F.plainAttrs_list PySem.F.slot_list_pop PySem.F.type_list_pop mt_popAt pv ha (hfew := few) (hline := hl) (hs := star_no hn0.1) (hplain := back_no hn0.2)).imp (fin (T := ""))
  | pop => exact (ho rfl).elim
theorem s_pop (hi : X.N[i]? = some x) (hv : Vis X.env.scope x) (hd : (x == ("__debug__" : PySem.Str)) = false) (hcd : (x == ("__classdict__" : PySem.Str)) = false) (hl : (apos.endLine == cpos.line) = true) :
    PE X (.Call (.Attribute (.Name x p) "pop" apos) [] [] cpos) (trE F X.K W (.mth i .pop .nil)) := by
  refine (pe_bm0 PySem.F.plainAttrs_list PySem.F.slot_list_pop PySem.F.type_list_pop mt_pop (pe_var (pos := p) hi hv hd hcd) (hline := hl)).imp fun σ H Q h => ?_
  obtain ⟨a, hu, ⟨xs, hq⟩, M, js, ρ, cs, s, j, h⟩ := mth_end h
  refine ⟨_, hu, .inl ⟨rfl, xs, hq⟩, ?_⟩
  simp only [evXs] at h
  exact (R.sat_ok.mp h) [] M H s Tr.refl .nil
end
end Ev
set_option maxRecDepth 100000
set_option maxHeartbeats 1000000
/-! Ev15: stores into lists, loops -/
namespace Ev
open PySem L2 PyProof.Rows
theorem ixSet_ixN {α : Type} {xs ys : List α} {i : Int} {v : α} (h : ixSet xs i v = some ys) : ∃ j, ixN xs.length i = some j ∧ ys = xs.set j v := by
  unfold ixSet at h
  unfold ixN
  split at h
  · split at h
    · rename_i h0 h1
      cases h
      exact ⟨i.toNat, by rw [if_pos h0, if_pos h1], rfl⟩
    · cases h
  · split at h
    · rename_i h0 h1
      cases h
      exact ⟨(i + xs.length).toNat, by rw [if_neg h0, if_pos h1], rfl⟩
    · cases h
section
variable {F : Fx} {W : WX} {X : Cx} {pos p p2 : Pos} {e ie : Expr} {es : List Expr} {ce ci : CE} {ces : CEs} {x : PySem.Str} {i : Nat} {K : PySem.W.Frag} {M M1 M' : Addr → Prop} {js js' : List Addr} {ρ ρ' : Env} {cs cs1 cs' : Cells} {σ σ' : L2.St} {H H1 H' : Hp} {D : Ends}
theorem s_sti (hi : X.N[i]? = some x) (hv : Vis X.env.scope x) (hd : (x == ("__debug__" : PySem.Str)) = false) (hcd : (x == ("__classdict__" : PySem.Str)) = false) (hie : PE X ie (trE F X.K W ci)) (hns : notSlice ie = true) (he : PE X e (trE F X.K W ce)) :
    PS X (.Assign [.Subscript (.Name x p) ie p2] e pos) (trS F X.K W (.sti i ci ce)) := by
  refine (ps_asg (tg := .Subscript (.Name x p) ie p2) he (pg_sub (pe_var (pos := p) hi hv hd hcd) hie set_list (by cases ie <;> first | (intro _; rfl) | cases hns))
    (by show swapsWithSole [Expr.Subscript (.Name x p) ie p2] e pos.line X.env = pure false; unfold swapsWithSole; cases e <;> rfl) (by cases e <;> rfl) rfl).imp fun D σ H h => ?_
  obtain ⟨M, js, ρ, cs, s, j, h⟩ := h
  refine ⟨M, js, ρ, cs, s, j, ?_⟩
  simp only [evS] at h
  rw [satS_toS] at h
  refine h.mono (fun v cs1 h u M1 H1 s1 t1 r1 => ?_) fun c fs cs1 h => h.eps
  split at h
  case isFalse => exact h.elim
  rename_i hl
  obtain ⟨n, xs, h1, h2⟩ := notLstAt hl
  obtain ⟨u0, hu, a, ha, rfl⟩ := s.env i _ h1
  rw [satS_toS] at h
  refine ⟨_, hu, M1, js, ρ, cs1, s1, F.st j (t1.j s1), ?_⟩
  refine h.mono (fun k cs2 h w M2 H2 s2 t2 r2 => ?_) fun c fs cs1 h => h.eps
  rw [satS_toS, R.sat_opt] at h
  obtain ⟨kk, hk, h⟩ := h
  have rk := s2.seen r2 hk
  rw [satS_toS] at h
  cases he : escV cs2 v with
  | stk => rw [he] at h; exact h.elim
  | exc c fs cs2 => exact (escV_exc he).elim
  | ok y cs3 =>
    rw [he] at h
    replace h := R.sat_ok.mp h
    obtain ⟨M3, s3, t3, r3⟩ := s2.esc (s1.rv t2 r1) he
    rw [satS_toS] at h
    unfold onCell at h
    rw [h1] at h
    dsimp only at h
    split at h
    · rename_i c hc
      split at h
      · rename_i hm
        split at h
        · rename_i c' _ hf
          simp only [Option.map_eq_some_iff, Prod.mk.injEq, and_true] at hf
          obtain ⟨c2, hf, rfl⟩ := hf
          unfold stoC at hf
          split at hf
          · simp only [Option.map_eq_some_iff] at hf
            obtain ⟨ys, hf, rfl⟩ := hf
            have := rk.int
            subst this
            have rc := s3.cel n a _ ha hc
            cases rc with
            | lst hM3 hH3 rr =>
              obtain ⟨q, hq, rfl⟩ := ixSet_ixN hf
              refine ⟨a, _, _, q, rfl, rfl, hH3, by rw [rr.length]; exact hq, ?_⟩
              obtain ⟨s4, t4⟩ := s3.write (c' := .lst _) (o' := .lst _) ha hc rfl hH3 (fun _ h => nomatch h) (fun _ _ h => nomatch h) fun f => .lst hM3 upd_same (f (RPs.set r3 q rr))
              exact (R.sat_ok.mp h) σ M3 js _ s4 ((((t1.trans t2).trans t3).trans t4).j s4)
          · cases hf
        · exact h.elim
      · exact h.elim
    · exact h.elim
/-! ### loops -/
theorem SR.trim (s : SR F.C K M js ρ cs σ H) (n : Nat) : SR F.C K M (js.take n) (trimE n ρ) (cs.take n) σ H := by
  refine ⟨s.dom, fun i v h => ?_, by simp [trimE, s.sl], by simp [s.len], s.nd.sublist (List.take_sublist _ _), fun m a c h1 h2 => ?_⟩
  · unfold trimE at h
    rw [List.getElem?_map, Option.map_eq_some_iff] at h
    obtain ⟨o, ho, h⟩ := h
    split at h
    · rename_i k
      split at h
      · rename_i hk
        cases h
        obtain ⟨u, h1, a, h2, h3⟩ := s.env i _ ho
        exact ⟨u, h1, a, by rw [List.getElem?_take_of_lt hk]; exact h2, h3⟩
      · cases h
    · rename_i hn
      subst h
      obtain ⟨u, h1, h2⟩ := s.env i _ ho
      cases v with
      | p x => exact ⟨u, h1, h2⟩
      | ref k => exact (hn k rfl).elim
  · have l1 : m < n := by
      have := (List.getElem?_eq_some_iff.mp h1).1
      simp at this; omega
    rw [List.getElem?_take_of_lt l1] at h1 h2
    exact s.cel m a c h1 h2
theorem TrJ.trim (t : TrJ js M cs H js' M' cs' H') (l : js.length ≤ n) : TrJ js M cs H (js'.take n) M' (cs'.take n) H' := by
  have ow : ∀ a, Ow (js'.take n) (cs'.take n) a → Ow js' cs' a := fun a ⟨m, c, h1, h2, h3⟩ => by
    have l1 : m < n := by
      have := (List.getElem?_eq_some_iff.mp h1).1
      simp at this; omega
    rw [List.getElem?_take_of_lt l1] at h1 h2
    exact ⟨m, c, h1, h2, h3⟩
  refine ⟨t.keep, t.sub, t.sup, fun a h => t.ow a (ow a h), fun a h => t.owM a (ow a h), ?_⟩
  obtain ⟨l', rfl, f⟩ := t.pre
  refine ⟨l'.take (n - js.length), ?_, fun a h => f a (List.mem_of_mem_take h)⟩
  rw [List.take_append]
  rw [List.take_of_length_le l]
theorem unlock_tr {it : CI} {o : Option Nat} (ho : lockIx it ρ cs1 = o) (s1 : SR F.C K M1 js ρ cs1 σ H1) (tj : TrJ js M1 (lockC o cs1) H1 js' M' cs' H') (s' : SR F.C K M' js' ρ' cs' σ' H') :
    SR F.C K M' js' ρ' (unlockC o cs1 cs') σ' H' ∧ TrJ js M1 cs1 H1 js' M' (unlockC o cs1 cs') H' := by
  have hlk : ∀ n, o = some n → ∃ xs, cs1[n]? = some (.lst xs) := fun n e => lockIx_at (ho.trans e)
  obtain ⟨s1L, t1L⟩ := s1.lock hlk
  have lk := LkO.step (s1.lkO o) tj
  have pre : ∃ l, js' = js ++ l := tj.pre.imp fun _ h => h.1
  have sU := s'.unlock lk hlk pre
  have owL : ∀ b, Ow js (lockC o cs1) b → Ow js cs1 b := fun b q => (t1L.ow b q).elim id fun z => by obtain ⟨n, c, g1, _, _⟩ := q; exact (s1.js_there g1 z).elim
  refine ⟨sU, tj.keep.mono owL, tj.sub, fun b h => (tj.sup b h).imp id fun z => z.imp (owL b) id, fun b q => ?_, fun b q => sU.ow q, tj.pre⟩
  rcases ow_unlock hlk pre s1.len q with z | z
  · exact (tj.ow b z).imp (owL b) id
  · exact .inl z
def trSsx (F : Fx) (K : PySem.W.Frag) (W : WX) (ss : CSs) : TS := fun D σ H => ∃ J st, trSs (F.wj J st) K W ss D σ H
theorem s_ssx {sts : List Stmt} {ss : CSs} (h : ∀ J st, PSs X sts (trSs (F.wj J st) X.K W ss)) : PSs X sts (trSsx F X.K W ss) := ⟨fun pins s σ H D I ⟨J, st, q⟩ => (h J st).run pins s σ H D I q⟩
theorem satS_unlock {r : RS} {o : Option Nat} {old : Cells} : SatS F K W js M cs H D (r.unlock o old) ↔
    r.sat (fun ρ cs1 => Nx F K js M cs H D.nx ρ (unlockC o old cs1)) (fun x w cs1 => Rt F K js M cs H D.rt x w (unlockC o old cs1)) (fun ρ cs1 => Nx F K js M cs H D.bk ρ (unlockC o old cs1)) (fun ρ cs1 => Nx F K js M cs H D.ct ρ (unlockC o old cs1)) fun c fs ρ cs1 => Ep F K W c fs ρ (unlockC o old cs1) := by
  cases r <;> exact Iff.rfl
theorem s_for {tg iter : Expr} {body : List Stmt} {g : TG} {it : CI} {cb : CSs} (hp : PassesOwn (model X.prog X.w) X.A X.env X.xe) (hc : X.calm = true) (hi : PI X tg iter (trI F X.K W it)) (hg : PG X tg (trTg F X.K g)) (hb : ∀ (J : JT) (st : JClo J), PSs X body (trSs (F.wj J st) X.K W cb)) (hset : notSet iter = true) :
    PS X (.For tg iter body [] pos) (trS F X.K W (.fr g it cb)) := by
  refine (ps_for hp hc hi hg (s_ssx hb) (by cases iter <;> first | (intro _; rfl) | cases hset)).imp fun D σ H h => ?_
  obtain ⟨M0, js, ρ, cs0, s0, j0, h⟩ := h
  refine ⟨M0, js, ρ, cs0, s0, j0, ?_⟩
  simp only [evS] at h
  rw [satS_toS] at h
  refine h.mono (fun xs cs1 h J I M1 H1 s1 t1 src i1 => ?_) fun c fs cs1 h => h.eps
  generalize ho : lockIx it ρ cs1 = o at h i1
  have hlk : ∀ n, o = some n → ∃ xs, cs1[n]? = some (.lst xs) := fun n e => lockIx_at (ho.trans e)
  obtain ⟨s1L, t1L⟩ := s1.lock hlk
  have jj1 := F.st j0 (t1.j s1)
  rw [satS_unlock] at h
  obtain ⟨f, ef, h⟩ : ∃ f : P → Env → Cells → RS, (∀ x ρ cs, f x ρ cs = match asgT g x ρ with | some ρ' => evSs F.G F.call F.m cb ρ' cs | none => .stk) ∧
      (forL f xs ρ (lockC o cs1)).sat (fun ρ cs2 => Nx F X.K js M0 cs0 H D.nx ρ (unlockC o cs1 cs2)) (fun x w cs2 => Rt F X.K js M0 cs0 H D.rt x w (unlockC o cs1 cs2)) (fun ρ cs2 => Nx F X.K js M0 cs0 H D.bk ρ (unlockC o cs1 cs2)) (fun ρ cs2 => Nx F X.K js M0 cs0 H D.ct ρ (unlockC o cs1 cs2)) fun c fs ρ cs2 => Ep F X.K W c fs ρ (unlockC o cs1 cs2) := ⟨_, fun _ _ _ => rfl, h⟩
  -- from the loop's own state to the state behind it
  have out : ∀ {js' M' ρ' cs' σ' H'}, SR F.C X.K M' js' ρ' cs' σ' H' → TrJ js M1 (lockC o cs1) H1 js' M' cs' H' → SR F.C X.K M' js' ρ' (unlockC o cs1 cs') σ' H' ∧ TrJ js M0 cs0 H js' M' (unlockC o cs1 cs') H' := fun s' tj => by
    obtain ⟨a, b⟩ := unlock_tr ho s1 tj s'
    exact ⟨a, (t1.j s1).trans b⟩
  refine ⟨fun i m σ H => m = xs.length - i ∧ i ≤ xs.length ∧ ∃ M js' ρ cs, SR F.C X.K M js' ρ cs σ H ∧ TrJ js M1 (lockC o cs1) H1 js' M cs H ∧ (forL f (xs.drop i) ρ cs).sat (fun ρ cs2 => Nx F X.K js M0 cs0 _ D.nx ρ (unlockC o cs1 cs2)) (fun x w cs2 => Rt F X.K js M0 cs0 _ D.rt x w (unlockC o cs1 cs2)) (fun ρ cs2 => Nx F X.K js M0 cs0 _ D.bk ρ (unlockC o cs1 cs2)) (fun ρ cs2 => Nx F X.K js M0 cs0 _ D.ct ρ (unlockC o cs1 cs2)) fun c fs ρ cs2 => Ep F X.K W c fs ρ (unlockC o cs1 cs2),
    ⟨xs.length, by simp, Nat.zero_le _, M1, js, ρ, lockC o cs1, s1L, (Tr.refl (M := M1) (js := js) (cs := lockC o cs1) (H := H1)).j s1L, h⟩, ?_⟩
  rintro i m σi Hi ⟨rfl, hle, M, js', ρ1, cs, s, tj, hl⟩
  by_cases hlt : i < xs.length
  · have ex : xs.drop i = xs[i] :: xs.drop (i + 1) := (List.drop_eq_getElem_cons hlt)
    rw [ex, forL, ef] at hl
    have iI := src.step i1 tj
    refine .inr ⟨src.go i iI hlt, fun σ H' => ∃ M js' ρ cs, SR F.C X.K M js' ρ cs σ H' ∧ TrJ js M1 (lockC o cs1) H1 js' M cs H' ∧ (forL f (xs.drop (i + 1)) ρ cs).sat _ _ _ _ _, fun σ' H' q => ⟨xs.length - (i + 1), by omega, rfl, hlt, q⟩, fun x H' y => ?_⟩
    obtain ⟨k, rx⟩ := src.yld i xs[i] x iI (by simp [hlt]) y s.dom
    have sH := s.same k
    have tH : TrJ js' M cs Hi js' M cs H' := (Tr.same k).j sH
    have tjH := tj.trans tH
    cases hf : asgT g xs[i] ρ1 with
    | none => rw [hf] at hl; exact hl.elim
    | some ρ2 =>
      rw [hf] at hl
      dsimp only at hl
      refine ⟨M, js', ρ1, cs, xs[i], ρ2, sH, rx, hf, fun σ2 s2 w2 => ?_⟩
      refine ⟨fun js2 M2 cs2 H2 => TrJ js M1 (lockC o cs1) H1 js2 M2 cs2 H2, fun a t => a.trans t, M, js', ρ2, cs, s2, tjH, ?_⟩
      have ln : js.length ≤ cs.length := by
        obtain ⟨l, e, _⟩ := tj.pre
        rw [← s.len, e]; simp
      revert hl
      show RS.sat _ _ _ _ _ _ → RS.sat (evSs F.G F.call F.m cb ρ2 cs) _ _ _ _ _
      cases evSs F.G F.call F.m cb ρ2 cs with
      | stk => exact fun h => h
      | nx ρ3 cs3 => exact fun hl σ3 M3 js3 H3 s3 t3 => ⟨M3, _, _, _, s3.trim cs.length, (tjH.trans t3).trim ln, hl⟩
      | ct ρ3 cs3 => exact fun hl σ3 M3 js3 H3 s3 t3 => ⟨M3, _, _, _, s3.trim cs.length, (tjH.trans t3).trim ln, hl⟩
      | bk ρ3 cs3 =>
          intro hl σ3 M3 js3 H3 s3 t3
          have := out s3 (tjH.trans t3)
          exact hl σ3 M3 js3 H3 this.1 this.2
      | rt x w cs3 =>
          intro hl u M3 js3 H3 s3 t3 r
          obtain ⟨sU, tU⟩ := unlock_tr (ρ' := []) (σ' := []) (σ := σ) ho s1 (tjH.trans t3) s3
          exact hl u M3 js3 H3 sU ((t1.j s1).trans tU) ⟨r.1, fun e => let ⟨a, us, xs, h1, h2, h3, h4, h5, h6⟩ := r.2 e; ⟨a, us, xs, h1, h2, h3, h4, h5, h6.imp (fun z => ((t1.j s1).keep.pure (tjH.keep.pure z))) id⟩⟩
      | exc c fs ρ3 cs3 =>
          intro hl σ3 js3 cls d M3 H3 s3 t3 ex
          obtain ⟨sU, tU⟩ := out s3 t3
          exact hl σ3 js3 cls d M3 H3 sU (F.st j0 tU) ex
  · have e : i = xs.length := by omega
    subst e
    rw [List.drop_length, forL] at hl
    refine .inl ⟨src.stop _ (src.step i1 tj) (Nat.le_refl _), ?_⟩
    obtain ⟨sU, tU⟩ := out s tj
    exact hl σi M js' Hi sU tU
def trTx (F : Fx) (K : PySem.W.Frag) (W : WX) (e : CE) : TT := fun σ H Q => ∃ J st, trT (F.wj J st) K W e σ H Q
theorem s_while {c : Expr} {body : List Stmt} {cc : CE} {cb : CSs} {n : Nat} (hp : PassesOwn (model X.prog X.w) X.A X.env X.xe) (ht : ∀ (J : JT) (st : JClo J), PT X c (trT (F.wj J st) X.K W cc)) (hb : ∀ (J : JT) (st : JClo J), PSs X body (trSs (F.wj J st) X.K W cb)) :
    PS X (.While c body [] pos) (trS F X.K W (.whl n cc cb)) := by
  have hc : PT X c (trTx F X.K W cc) := ⟨fun pins s σ H Q I ⟨J, st, q⟩ => (ht J st).run pins s σ H Q I q⟩
  refine (ps_while hp hc (s_ssx hb)).imp fun D σ H h => ?_
  obtain ⟨M0, js, ρ, cs0, s0, j0, h⟩ := h
  simp only [evS] at h
  refine ⟨fun m σ1 H1 => ∃ M js' ρ cs, SR F.C X.K M js' ρ cs σ1 H1 ∧ TrJ js M0 cs0 H js' M cs H1 ∧ SatS F X.K W js M0 cs0 H D (whL (fun ρ cs => tv (evE F.G F.call cc ρ cs)) (fun ρ cs => evSs F.G F.call F.m cb ρ cs) m ρ cs),
    ⟨n, M0, js, ρ, cs0, s0, (Tr.refl (M := M0) (js := js) (cs := cs0) (H := H)).j s0, h⟩, ?_⟩
  rintro m σ1 H1 ⟨M, js1, ρ1, cs1, s1, t1, h⟩
  cases m with
  | zero => exact h.elim
  | succ m =>
    rw [whL] at h
    refine ⟨fun js2 M2 cs2 H2 => TrJ js M0 cs0 H js2 M2 cs2 H2, fun a t => a.trans t, M, js1, ρ1, cs1, s1, t1, ?_⟩
    rw [satS_toS] at h
    show R.sat (tv (evE F.G F.call cc ρ1 cs1)) _ _
    refine h.mono (fun k cs2 h M2 H2 s2 t2 => ?_) fun c fs cs2 h cls d M2 H2 s2 j2 ex => h σ1 js1 cls d M2 H2 s2 (F.st j0 j2) ex
    have tj := t1.trans (t2.j s2)
    cases k with
    | false => exact h σ1 M2 js1 H2 s2 tj
    | true =>
      rw [if_pos rfl] at h
      show ∃ N, _ ∧ _
      refine ⟨fun σ' H' => ∃ M js' ρ cs, SR F.C X.K M js' ρ cs σ' H' ∧ TrJ js M0 cs0 H js' M cs H' ∧ SatS F X.K W js M0 cs0 H D (whL _ _ m ρ cs), fun σ' H' q => ⟨m, Nat.lt_succ_self m, q⟩, ?_⟩
      refine ⟨fun js2 M2 cs2 H2 => TrJ js M0 cs0 H js2 M2 cs2 H2, fun a t => a.trans t, M2, js1, ρ1, cs2, s2, tj, ?_⟩
      have ln : js.length ≤ cs2.length := by
        obtain ⟨l, e, _⟩ := tj.pre
        rw [← s2.len, e]; simp
      revert h
      show RS.sat _ _ _ _ _ _ → RS.sat (evSs F.G F.call F.m cb ρ1 cs2) _ _ _ _ _
      cases evSs F.G F.call F.m cb ρ1 cs2 with
      | stk => exact fun h => h
      | nx ρ3 cs3 => exact fun hl σ3 M3 js3 H3 s3 t3 => ⟨M3, _, _, _, s3.trim cs2.length, (tj.trans t3).trim ln, hl⟩
      | ct ρ3 cs3 => exact fun hl σ3 M3 js3 H3 s3 t3 => ⟨M3, _, _, _, s3.trim cs2.length, (tj.trans t3).trim ln, hl⟩
      | bk ρ3 cs3 => exact fun hl σ3 M3 js3 H3 s3 t3 => hl σ3 M3 js3 H3 s3 (tj.trans t3)
      | rt x w cs3 => exact fun hl u M3 js3 H3 s3 t3 r => hl u M3 js3 H3 s3 (tj.trans t3) ⟨r.1, fun e => let ⟨a, us, xs, h1, h2, h3, h4, h5, h6⟩ := r.2 e; ⟨a, us, xs, h1, h2, h3, h4, h5, h6.imp (fun z => tj.keep.pure z) id⟩⟩
      | exc c fs ρ3 cs3 => exact fun hl σ3 js3 cls d M3 H3 s3 t3 ex => hl σ3 js3 cls d M3 H3 s3 (F.st j0 t3) ex
end
end Ev
set_option maxRecDepth 100000
set_option maxHeartbeats 1000000
/-! EvD: dicts as values -/
namespace Ev
open PySem L2 PyProof.Rows
theorem SR.pokeO {C : ClsA} {K : PySem.W.Frag} {M : Addr → Prop} {js : List Addr} {ρ : Env} {cs : Cells} {σ : L2.St} {H : Hp} (s : SR C K M js ρ cs σ H) {D : Addr} {o : HO} (m : M D) (n : D ∉ js) (e : H D = some o) (nt : ∀ xs, o ≠ .tup xs) (nf : ∀ x y, o ≠ .frz x y) (o' : HO) :
    SR C K M js ρ cs σ (upd H D o') ∧ ∀ {us xs}, RPs C K M H us xs → RPs C K M (upd H D o') us xs := by
  have k : Keep M H (upd H D o') := Keep.chg m e nt nf
  have kD : Keep (fun b => b = D) H (upd H D o') := Keep.chg (M := fun b => b = D) rfl e nt nf
  refine ⟨⟨fun b q => k.dom b (s.dom b q), fun i v h => let ⟨u, h1, h2⟩ := s.env i v h; ⟨u, h1, ?_⟩, s.sl, s.len, s.nd, fun n' b c h1 h2 => (s.cel n' b c h1 h2).move kD (fun z => n (z ▸ List.mem_of_getElem? h1)) k (fun _ _ z => z) id⟩, fun r => r.mono k fun _ _ z => z⟩
  cases v with
  | p x => exact RP.mono k (fun _ _ z => z) h2
  | ref n => exact h2
theorem putK_new {k : Key} {v : V} : ∀ {acc : List (Key × V)}, k ∉ acc.map (·.1) → putK acc k v = acc ++ [(k, v)] := by
  intro acc h
  unfold putK
  rw [if_neg]
  intro z
  obtain ⟨q, hq, e⟩ := List.any_eq_true.mp z
  exact h (List.mem_map.mpr ⟨q, hq, of_decide_eq_true e⟩)
theorem mergeK_nodup : ∀ (more acc : List (Key × V)), ((acc ++ more).map (·.1)).Nodup → mergeK acc more = acc ++ more
  | [], acc, _ => by simp [mergeK]
  | q :: more, acc, h => by
    have hn : q.1 ∉ acc.map (·.1) := fun z => by
      rw [List.map_append, List.map_cons, List.nodup_append] at h
      exact h.2.2 q.1 z q.1 (by simp) rfl
    show mergeK (putK acc q.1 q.2) more = _
    rw [putK_new hn, mergeK_nodup more _ (by rw [List.append_assoc]; exact h), List.append_assoc]
    rfl
theorem nodup_keys : ∀ {ss : List (List Nat)}, ss.Nodup → (ss.map (fun s => (Sum.inr (mkS s) : Key))).Nodup
  | [], _ => List.nodup_nil
  | s :: ss, h => by
    rw [List.nodup_cons] at h
    refine List.nodup_cons.mpr ⟨fun z => ?_, nodup_keys h.2⟩
    obtain ⟨t, ht, e⟩ := List.mem_map.mp z
    rw [Sum.inr.injEq, mkS_inj] at e
    exact h.1 (e ▸ ht)
/-- the keys and the values, pair by pair -/
def zipK : List (List Nat) → List V → List (Key × V)
  | s :: ss, u :: us => (.inr (mkS s), u) :: zipK ss us
  | _, _ => []
theorem zipK_ok : ∀ {ss : List (List Nat)} {us : List V}, ss.length = us.length → (zipK ss us).map (·.2) = us ∧ (zipK ss us).map (·.1) = ss.map (fun s => Sum.inr (mkS s)) ∧ (zipK ss us).length = ss.length
  | [], [], _ => ⟨rfl, rfl, rfl⟩
  | s :: ss, u :: us, h => by
    obtain ⟨h1, h2, h3⟩ := zipK_ok (ss := ss) (us := us) (by simpa using h)
    simp [zipK, h1, h2, h3]
  | [], _ :: _, h => by simp at h
  | _ :: _, [], h => by simp at h
section
variable {F : Fx} {W : WX} {X : Cx} {pos : Pos} {e : Expr} {es : List Expr} {ce : CE} {ces : CEs}
/-- the pairs of a display -/
def trP (F : Fx) (K : PySem.W.Frag) (W : WX) (ss : List (List Nat)) (es : CEs) : L2.St → Hp → (List (V × V) → Hp → Prop) → Prop := fun σ H Q =>
  ∃ M js ρ cs, SR F.C K M js ρ cs σ H ∧ F.J js M cs H ∧ (evXs F.G F.call es ρ cs).sat (fun vs cs' => ∀ us M' H', SR F.C K M' js ρ cs' σ H' → Tr M js cs H M' cs' H' → RVs F.C K M' js H' us vs → us.length = ss.length → Q ((zipK ss us).map fun q => (kV q.1, q.2)) H') (F.Eps K W js ρ σ)
theorem s_pnil : ∃ trs, PPs X pos [] [] trs ∧ ∀ σ H Q, trP F X.K W [] .nil σ H Q → tPairs trs σ H Q :=
  ⟨_, pps_nil, fun σ H Q ⟨M, js, ρ, cs, s, j, h⟩ => by simp only [evXs] at h; exact (R.sat_ok.mp h) [] M H s Tr.refl .nil rfl⟩
theorem s_pcons {s : List Nat} {ss : List (List Nat)} {ks : List (Option Expr)} {k : Nat} {p : Pos} (he : PE X e (trE F X.K W ce)) (ih : ∃ trs, PPs X pos ks es trs ∧ ∀ σ H Q, trP F X.K W ss ces σ H Q → tPairs trs σ H Q) :
    ∃ trs, PPs X pos (some (.Constant (.str (mkS s)) k p) :: ks) (e :: es) trs ∧ ∀ σ H Q, trP F X.K W (s :: ss) (.cons ce ces) σ H Q → tPairs trs σ H Q := by
  obtain ⟨trs, h1, h2⟩ := ih
  refine ⟨_, pps_cons (pe_str (x := mkS s) (j := k) (pos := p)) he h1, fun σ H Q h => ?_⟩
  obtain ⟨M, js, ρ, cs, s0, j, h⟩ := h
  refine ⟨M, js, ρ, cs, s0, j, ?_⟩
  simp only [evXs] at h
  rw [R.sat_bind] at h
  refine h.mono (fun v cs1 h u M1 H1 s1 t1 r1 => h2 _ _ _ ?_) fun _ _ _ h => h
  refine ⟨M1, js, ρ, cs1, s1, F.st j (t1.j s1), ?_⟩
  rw [R.sat_bind] at h
  refine h.mono (fun vs cs2 h us M2 H2 s2 t2 r2 hl => ?_) fun _ _ _ h => h
  exact (R.sat_ok.mp h) (u :: us) M2 H2 s2 (t1.trans t2) (.cons (s1.rv t2 r1) r2) (by simp [hl])
theorem s_dic0 : PE X (.Dict [] [] pos) (trE F X.K W (.dic [] .nil)) := by
  refine pe_dnewK.imp fun σ H Q h p hp => ?_
  obtain ⟨M, js, ρ, cs, s, j, h⟩ := h
  simp only [evE, evXs, R.ok_bind, escAll] at h
  have h := R.sat_ok.mp h
  exact h (.ref p) M _ (s.same (Keep.new hp)) (Tr.same (Keep.new hp)) (RP.dic upd_same (s.fresh hp) rfl .nil)
theorem s_dic {ss : List (List Nat)} {keys : List (Option Expr)} (hp : ∃ trs, PPs X pos keys es trs ∧ ∀ σ H Q, trP F X.K W ss ces σ H Q → tPairs trs σ H Q) (hall : keys.all (·.isSome) = true) (hl : keys.length = es.length) (h0 : keys ≠ []) (h15 : keys.length ≤ 15) :
    PE X (.Dict keys es pos) (trE F X.K W (.dic ss ces)) := by
  obtain ⟨trs, h1, h2⟩ := hp
  refine (pe_disp h1 hall hl h0 h15).imp fun σ H Q h p hp => h2 _ _ _ ?_
  obtain ⟨M, js, ρ, cs, s, j, h⟩ := h
  have nj : p ∉ js := fun z => by
    obtain ⟨n, hn⟩ := List.getElem?_of_mem z
    exact s.js_there hn hp
  have up : ∀ b, H b ≠ none → (M b ∨ b = p) → M b := fun b hb q => q.elim id fun z => (hb (z ▸ hp)).elim
  have kn : Keep M H (upd H p (.dK [])) := Keep.new hp
  have s0 : SR F.C X.K (fun b => M b ∨ b = p) js ρ cs σ (upd H p (.dK [])) := by
    refine ⟨fun b q => ?_, fun i v e => ?_, s.sl, s.len, s.nd, fun n b c g1 g2 => ?_⟩
    · by_cases e : b = p
      · subst e; rw [upd_same]; simp
      · exact kn.dom b (s.dom b (q.elim id fun z => (e z).elim))
    · obtain ⟨u, g1, g2⟩ := s.env i v e
      refine ⟨u, g1, ?_⟩
      cases v with
      | p x => exact RP.mono kn up g2
      | ref n => exact g2
    · exact (s.cel n b c g1 g2).move (Keep.new (M := fun _ => False) hp) (fun z => z) kn up .inl
  have t0 : Tr M js cs H (fun b => M b ∨ b = p) cs (upd H p (.dK [])) := Tr.mk (Keep.new hp) (fun b q => q.imp id fun (z : b = p) => by rw [z]; exact hp) (fun b q => .inl (.inl q)) fun _ z => z
  refine ⟨_, js, ρ, cs, s0, F.st j (t0.j s0), ?_⟩
  simp only [evE] at h
  rw [R.sat_bind] at h
  refine h.mono (fun vs cs1 h us M1 H1 s1 t1 r1 hlen => ?_) fun _ _ _ h => h
  have no : ∀ {cs'}, ¬ Ow js cs' p := fun ⟨n, c, g1, _, _⟩ => nj (List.mem_of_getElem? g1)
  have m1 : M1 p := (t1.sup p (.inr rfl)).elim id fun z => (no z).elim
  have e1 : H1 p = some (.dK []) := t1.keep.obj p _ upd_same no
  rw [R.sat_bind] at h
  cases he : escAll vs cs1 with
  | stk => rw [he] at h; exact h.elim
  | exc c fs cs2 => exact (escAll_exc he).elim
  | ok xs cs2 =>
    rw [he] at h
    replace h := R.sat_ok.mp h
    obtain ⟨M2, s2, t2, r2⟩ := s1.escs r1 he
    have m2 : M2 p := (t2.sup p m1).elim id fun z => (no z).elim
    split at h
    · rename_i hc
      obtain ⟨c1, c2, c3⟩ := hc
      have zk := zipK_ok hlen.symm
      refine ⟨e1, zipK ss us, rfl, by rw [zk.2.2]; exact c2, ?_⟩
      have hnd : ((([] : List (Key × V)) ++ zipK ss us).map (·.1)).Nodup := by
        rw [List.nil_append, zk.2.1]
        exact nodup_keys c3
      rw [mergeK_nodup _ _ hnd, List.nil_append]
      obtain ⟨s3, mono3⟩ := s2.pokeO m2 nj e1 (fun _ h => nomatch h) (fun _ _ h => nomatch h) (.dK (zipK ss us))
      have sub : ∀ b, (M2 b ∧ b ≠ p) → M2 b := fun b h => h.1
      have k3 : Keep M2 H1 (upd H1 p (.dK (zipK ss us))) := Keep.chg m2 e1 (fun _ h => nomatch h) fun _ _ h => nomatch h
      have r3 := mono3 r2
      refine (R.sat_ok.mp h) (.ref p) (fun b => M2 b ∧ b ≠ p) _ ⟨fun b q => s3.dom b q.1, fun i v e => ?_, s3.sl, s3.len, s3.nd, fun n b c g1 g2 => (s3.cel n b c g1 g2).sub sub fun q => ⟨q, fun z => nj (z ▸ List.mem_of_getElem? g1)⟩⟩
        (Tr.mk ⟨fun b o e n => ?_, fun b ys e => k3.tup _ _ (t1.keep.tup b ys (kn.tup b ys e)), fun b o u e => k3.frz _ _ _ (t1.keep.frz b o u (kn.frz b o u e)), fun b e => k3.dom b (t1.keep.dom b (kn.dom b e))⟩ (fun b q => ?_) (fun b q => ?_) fun b q => t1.ow b (t2.ow b q)) (RP.dic upd_same (fun z => z.2 rfl) ?_ (by rw [zk.1]; exact r3.sub sub))
      · obtain ⟨u, g1, g2⟩ := s3.env i v e
        exact ⟨u, g1, g2.sub sub⟩
      · rw [upd_ne (fun z => by rw [z, hp] at e; cases e)]
        exact t1.keep.obj b o (by rw [upd_ne (fun z => by rw [z, hp] at e; cases e)]; exact e) n
      · rcases t2.subN b q.1 with z | z
        · rcases t1.subN b z with w | w
          · exact w.elim .inl fun v => (q.2 v).elim
          · rw [upd_ne q.2] at w; exact .inr w
        · have := t1.keep.pure z
          rw [upd_ne q.2] at this; exact .inr this
      · rcases t1.sup b (.inl q) with z | z
        · exact (t2.sup b z).elim (fun w => .inl ⟨w, fun v => s.dom b q (v ▸ hp)⟩) fun w => .inr (t1.ow b w)
        · exact .inr z
      · rw [List.map_map]
        have : (zipK ss us).map (fun q => some q.1) = ((zipK ss us).map (·.1)).map some := by rw [List.map_map]; rfl
        rw [this, zk.2.1, List.map_map]
        rfl
    · exact h.elim
end
end Ev
set_option maxRecDepth 100000
set_option maxHeartbeats 1000000
/-! EvK: calls with keywords alone -/
namespace Ev
open PySem L2 PyProof.Rows
theorem vals_perm {pm : List Nat} {vs : List V} {us : List Value} (h : Vals vs us) : Vals (perm pm vs) (perm pm us) := by
  induction pm with
  | nil => exact .nil
  | cons i pm ih =>
    unfold perm at *
    cases hv : vs[i]? with
    | none =>
      have : us[i]? = none := by
        rw [List.getElem?_eq_none_iff] at hv ⊢
        rw [← h.length]; exact hv
      rw [List.filterMap_cons, List.filterMap_cons, hv, this]
      exact ih
    | some v =>
      obtain ⟨u, hu, r⟩ := h.get hv
      rw [List.filterMap_cons, List.filterMap_cons, hv, hu]
      exact .cons r ih
/-- how the keywords bind -/
def KwB (K : PySem.W.Frag) (fd : FuncData) (ps ks : List PySem.Str) (pm : List Nat) : Prop := ∀ (s : Shared) (ws : List Value), K.In s.heap → ws.length = ks.length → BindsTo s fd ⟨[], ks.zip ws⟩ (ps.zip (perm pm ws))
structure KwAt (F : Fx) (X : Cx) (k f : Nat) (x : PySem.Str) (ks : List PySem.Str) (pm : List Nat) : Prop where
  at_ : ∃ a fd ps, X.mg x = some (.ref a) ∧ PySem.W.keepIn X.K (.ref a) = true ∧ KwB X.K fd ps ks pm ∧ FnOk X.prog X.w X.K X.mg X.base (L2.CX X.prog X.w) k a fd ps (SpE F.C F.EC X.K (F.call f))
def tCallW (sp : Sp) (pm : List Nat) (n : Nat) (W : WX) (t : TA) : TE := fun σ H Q => t σ H fun vs H1 => vs.length = n ∧ sp (perm pm vs) H1 Q (WE W σ)
section
variable {F : Fx} {W : WX} {X : Cx} {pos p : Pos} {e : Expr} {es : List Expr} {ce : CE} {ces : CAs} {kws : List Keyword}
theorem callW {k f : Nat} {x : PySem.Str} {ks : List PySem.Str} {pm : List Nat} {t : TA} (g : KwAt F X k f x ks pm) (hr : Room k X.A) (hg : Gl X x) (hd : (x == ("__debug__" : PySem.Str)) = false) (tk : Takes X W) (hkw : PK X kws t)
    (hall : (backToKw pos (keywordEach kws X.env)).all (·.1.isSome) = true) (hks : (backToKw pos (keywordEach kws X.env)).filterMap (·.1) = ks) :
    PE X (.Call (.Name x p) [] kws pos) (tCallW (SpE F.C F.EC X.K (F.call f)) pm ks.length W t) := by
  obtain ⟨a, fd, ps, h1, h2, h3, h4⟩ := g.at_
  refine ⟨fun pins s σ H Q I h => wpAny_Call_Name_kw (ld_glob I hg h1 ?_ hd)⟩
  have plain : ((backTo pos (starEach [] X.env)).any (·.1) || (backToKw pos (keywordEach kws X.env)).any (·.1.isNone)) = false := by
    show (false || _) = false
    rw [Bool.false_or, List.any_eq_false]
    intro q hq
    have := List.all_eq_true.mp hall q hq
    cases hq1 : q.1 <;> simp [hq1] at this ⊢
  refine PySem.W.callWith_KW0 (h₀ := X.base) I.ok.mod.kin h2 hall (thn (hkw.run pos pins s σ H _ I h) fun ws s2 hh => ?_) plain
  obtain ⟨zs, H2, I2, rz, hl, q2⟩ := hh
  refine ⟨I2.kIn, ?_⟩
  rw [hks]
  have r2 := vals_perm (pm := pm) rz
  have b := h3 s2 ws I2.kIn (by rw [← rz.length]; exact hl)
  refine wpAny_call (codeAny_mono (h4.run X.A X.stack s2 H2 ⟨[], ks.zip ws⟩ (perm pm ws) (perm pm zs) Q (WE W σ) hr I2.env0 b r2 q2) fun r s' hq => ?_)
  cases r with
  | error e => exact passAt tk σ pins H2 s2 e s' I2 hq
  | ok fl => cases fl with
    | ret u => exact I2.after hq
    | _ => exact False.elim hq
theorem _root_.L2.PK.imp {X : Cx} {kws : List Keyword} {t t' : TA} (h : PK X kws t) (i : ∀ σ H Q, t' σ H Q → t σ H Q) : PK X kws t' := ⟨fun pos pins s σ H Q I q => h.run pos pins s σ H Q I (i _ _ _ q)⟩
theorem s_knil : PK X [] (trAs F X.K W .nil) := pk_nil.imp fun σ H Q ⟨M, js, ρ, cs, s, j, h⟩ => h [] [] M H s Tr.refl .nil
theorem s_kcons {nm : Option PySem.Str} {kpos : Pos} (ha : PE X e (trE F X.K W ce)) (hr : PK X kws (trAs F X.K W ces)) : PK X (⟨nm, e, kpos⟩ :: kws) (trAs F X.K W (.imm ce ces)) := by
  refine (pk_cons ha hr).imp fun σ H Q h => ?_
  obtain ⟨M, js, ρ, cs, s, j, h⟩ := h
  refine ⟨M, js, ρ, cs, s, j, ?_⟩
  simp only [evAs] at h
  rw [R.sat_bind] at h
  refine h.mono (fun v cs1 h u M1 H1 s1 t1 r1 => ?_) fun _ _ _ h => h
  refine ⟨M1, js, ρ, cs1, s1, F.st j (t1.j s1), ?_⟩
  rw [R.sat_bind] at h
  refine h.mono (fun vs cs2 h us N M2 H2 s2 t2 r2 => ?_) fun _ _ _ h => h
  cases v with
  | p x => exact h (u :: us) N M2 H2 s2 (t1.trans2 s t2) (.val (s1.rp t2 r1) r2)
  | ref n =>
    obtain ⟨a, ha, rfl⟩ := r1
    exact h _ N M2 H2 s2 (t1.trans2 s t2) (.bor ha r2)
/-- one argument -/
def RA1 (C : ClsA) (K : PySem.W.Frag) (M : Addr → Prop) (js : List Addr) (H : Hp) (u : V) : AR → Prop
  | .val x => RP C K M H u x
  | .bor n => ∃ a, js[n]? = some a ∧ u = .ref a
  | _ => False
theorem rar_at {C : ClsA} {K : PySem.W.Frag} {M : Addr → Prop} {js N : List Addr} {H : Hp} {us : List V} {as : List AR} (r : RAr C K M js H us as N) (hs : as.all AR.simple = true) : N = [] ∧ us.length = as.length ∧ ∀ (i : Nat) (a : AR), as[i]? = some a → ∃ u, us[i]? = some u ∧ RA1 C K M js H u a := by
  induction r with
  | nil => exact ⟨rfl, rfl, fun i a h => by simp at h⟩
  | val rp r ih =>
    rw [List.all_cons, Bool.and_eq_true] at hs
    obtain ⟨h1, h2, h3⟩ := ih hs.2
    refine ⟨h1, by simp [h2], fun i a h => ?_⟩
    cases i with
    | zero => simp at h; subst h; exact ⟨_, rfl, rp⟩
    | succ i => exact h3 i a (by simpa using h)
  | bor e r ih =>
    rw [List.all_cons, Bool.and_eq_true] at hs
    obtain ⟨h1, h2, h3⟩ := ih hs.2
    refine ⟨h1, by simp [h2], fun i a h => ?_⟩
    cases i with
    | zero => simp at h; subst h; exact ⟨_, rfl, _, e, rfl⟩
    | succ i => exact h3 i a (by simpa using h)
  | mu e r ih => rw [List.all_cons, Bool.and_eq_true] at hs; cases hs.1
  | tmp _ _ _ _ _ r ih => rw [List.all_cons, Bool.and_eq_true] at hs; cases hs.1
theorem rar_perm {C : ClsA} {K : PySem.W.Frag} {M : Addr → Prop} {js N : List Addr} {H : Hp} {us : List V} {as : List AR} (r : RAr C K M js H us as N) (hs : as.all AR.simple = true) (pm : List Nat) : N = [] ∧ RAr C K M js H (perm pm us) (perm pm as) [] := by
  obtain ⟨h1, h2, h3⟩ := rar_at r hs
  refine ⟨h1, ?_⟩
  induction pm with
  | nil => exact .nil
  | cons i pm ih =>
    unfold perm at *
    cases ha : as[i]? with
    | none =>
      have : us[i]? = none := by
        rw [List.getElem?_eq_none_iff] at ha ⊢
        rw [h2]; exact ha
      rw [List.filterMap_cons, List.filterMap_cons, ha, this]
      exact ih
    | some a =>
      obtain ⟨u, hu, r⟩ := h3 i a ha
      rw [List.filterMap_cons, List.filterMap_cons, ha, hu]
      cases a with
      | val x => exact .val r ih
      | bor n =>
        obtain ⟨b, hb, rfl⟩ := r
        exact .bor hb ih
      | mu n => exact r.elim
      | tmp x => exact r.elim
theorem evAs_len {G : Glob} {call : Nat → List Arg → CR} : ∀ {as : CAs} {ρ : Env} {cs cs' : Cells} {ars : List AR}, evAs G call as ρ cs = .ok ars cs' → ∃ n, n = ars.length := fun _ => ⟨_, rfl⟩
theorem s_callK {k f n : Nat} {x : PySem.Str} {ks : List PySem.Str} {pm : List Nat} {as : CAs} (hn : ∀ {σ : L2.St} {H : Hp} {Q : List V → Hp → Prop}, trAs F X.K W as σ H Q → trAs F X.K W as σ H fun vs H1 => vs.length = ks.length ∧ Q vs H1) (g : KwAt F X k f x ks pm) (hr : Room k X.A) (hg : Gl X x) (hd : (x == ("__debug__" : PySem.Str)) = false) (tk : Takes X W) (hkw : PK X kws (trAs F X.K W as))
    (hall : (backToKw pos (keywordEach kws X.env)).all (·.1.isSome) = true) (hks : (backToKw pos (keywordEach kws X.env)).filterMap (·.1) = ks) :
    PE X (.Call (.Name x p) [] kws pos) (trE F X.K W (.callK f as pm)) := by
  refine (callW g hr hg hd tk hkw hall hks).imp fun σ H Q h => hn ?_
  obtain ⟨M, js, ρ, cs, s, j, h⟩ := h
  refine ⟨M, js, ρ, cs, s, j, ?_⟩
  simp only [evE] at h
  rw [R.sat_bind] at h
  refine h.mono (fun ars cs1 h us N M1 H1 s1 t1 r1 => ?_) fun _ _ _ h => h
  split at h
  · rename_i hs
    rw [R.sat_bind] at h
    obtain ⟨rfl, r2⟩ := rar_perm r1 hs pm
    refine call_end s t1 s1 r2 h (fun x cs' u M' H' q s' t' r => q u M' H' s' t' r) (fun xs cs' a us M' H' q s' t' e1 r => ?_) fun c fs cs' cls d M' H' q s' t' ex => q cls d M' H' s' (F.st j (t'.j s')) ex
    have h0 := (t'.new a (by simp)).1
    have sub : ∀ b, (M' b ∧ b ≠ a) → M' b := fun b h => h.1
    refine q (.ref a) (fun b => M' b ∧ b ≠ a) H' ⟨fun b q => s'.dom b q.1, fun i v e => ?_, s'.sl, s'.len, s'.nd, fun n b c h1 h2 => (s'.cel n b c h1 h2).sub sub fun q => ⟨q, fun z => s.js_there h1 (z ▸ h0)⟩⟩
      (Tr.mk t'.keep (fun b q => t'.subN b q.1) (fun b q => (t'.sup b q).imp (fun z => ⟨z, fun e => s.dom b q (e ▸ h0)⟩) id) t'.ow) (.lst e1 (fun z => z.2 rfl) (r.sub sub))
    obtain ⟨u, h1, h2⟩ := s'.env i v e
    exact ⟨u, h1, h2.sub sub⟩
  · exact h.elim
def CAs.size : CAs → Nat
  | .nil => 0
  | .imm _ r => r.size + 1
  | .mv _ r => r.size + 1
  | .ml _ r => r.size + 1
theorem evAs_size {G : Glob} {call : Nat → List Arg → CR} : ∀ (as : CAs) {ρ : Env} {cs cs' : Cells} {ars : List AR}, evAs G call as ρ cs = .ok ars cs' → ars.length = as.size
  | .nil, ρ, cs, cs', ars, h => by simp only [evAs, R.ok.injEq] at h; rw [← h.1]; rfl
  | .imm e r, ρ, cs, cs', ars, h => by
    simp only [evAs] at h
    cases h1 : evE G call e ρ cs with
    | stk => rw [h1] at h; cases h
    | exc c fs cs1 => rw [h1] at h; cases h
    | ok v cs1 =>
      rw [h1, R.ok_bind] at h
      cases h2 : evAs G call r ρ cs1 with
      | stk => rw [h2] at h; cases h
      | exc c fs cs1 => rw [h2] at h; cases h
      | ok vs cs2 =>
        rw [h2, R.ok_bind] at h
        have := evAs_size r h2
        cases v <;> simp only [R.ok.injEq] at h <;> rw [← h.1] <;> simp [CAs.size, this]
  | .mv i r, ρ, cs, cs', ars, h => by
    simp only [evAs] at h
    split at h
    · cases h2 : evAs G call r ρ cs with
      | stk => rw [h2] at h; cases h
      | exc c fs cs1 => rw [h2] at h; cases h
      | ok vs cs2 =>
        rw [h2, R.ok_bind] at h
        have := evAs_size r h2
        simp only [R.ok.injEq] at h; rw [← h.1]; simp [CAs.size, this]
    · cases h
  | .ml e r, ρ, cs, cs', ars, h => by
    simp only [evAs] at h
    cases h1 : evL G call e ρ cs with
    | stk => rw [h1] at h; cases h
    | exc c fs cs1 => rw [h1] at h; cases h
    | ok v cs1 =>
      rw [h1, R.ok_bind] at h
      cases h2 : evAs G call r ρ cs1 with
      | stk => rw [h2] at h; cases h
      | exc c fs cs1 => rw [h2] at h; cases h
      | ok vs cs2 =>
        rw [h2, R.ok_bind] at h
        have := evAs_size r h2
        simp only [R.ok.injEq] at h; rw [← h.1]; simp [CAs.size, this]
theorem rar_len {C : ClsA} {K : PySem.W.Frag} {M : Addr → Prop} {js N : List Addr} {H : Hp} {us : List V} {as : List AR} (r : RAr C K M js H us as N) : us.length = as.length := by
  induction r <;> simp_all
theorem as_len {K : PySem.W.Frag} {as : CAs} {σ : L2.St} {H : Hp} {Q : List V → Hp → Prop} (h : trAs F K W as σ H Q) : trAs F K W as σ H fun vs H1 => vs.length = as.size ∧ Q vs H1 := by
  obtain ⟨M, js, ρ, cs, s, j, h⟩ := h
  refine ⟨M, js, ρ, cs, s, j, ?_⟩
  cases he : evAs F.G F.call as ρ cs with
  | stk => rw [he] at h; exact h.elim
  | exc c fs cs1 => rw [he] at h; exact h
  | ok ars cs1 =>
    rw [he] at h
    exact fun us N M' H' s' t' r => ⟨by rw [rar_len r, evAs_size as he], h us N M' H' s' t' r⟩
end
end Ev
set_option maxRecDepth 100000
set_option maxHeartbeats 1000000
/-! EvC: classes, their fields -/
namespace Ev
open PySem L2 PyProof.Rows
theorem lookup_at : ∀ {fs : List (Str × V)} {ns : List Str} {j : Nat} {x : Str} {v : V}, fs.map (·.1) = ns.take fs.length → ns.Nodup → ns[j]? = some x → (fs.map (·.2))[j]? = some v → fs.lookup x = some v
  | [], _, j, x, v, _, _, _, h => by simp at h
  | (g, w) :: r, [], j, x, v, h, _, _, _ => by simp at h
  | (g, w) :: r, n :: ns, j, x, v, h, nd, hx, hv => by
    simp only [List.map_cons, List.length_cons, List.take_succ_cons, List.cons.injEq] at h
    obtain ⟨rfl, h⟩ := h
    rw [List.nodup_cons] at nd
    cases j with
    | zero =>
      simp only [List.getElem?_cons_zero, Option.some.injEq, List.map_cons] at hx hv
      subst hx hv
      simp [List.lookup]
    | succ j =>
      simp only [List.getElem?_cons_succ, List.map_cons] at hx hv
      have ne : (x == g) = false := beq_eq_false_iff_ne.mpr fun e => nd.1 (e ▸ List.mem_of_getElem? hx)
      rw [List.lookup, ne]
      exact lookup_at h nd.2 hx hv
theorem putF_set (y : V) : ∀ {fs : List (Str × V)} {ns : List Str} {j : Nat} {x : Str}, fs.map (·.1) = ns.take fs.length → ns.Nodup → ns[j]? = some x → j < fs.length → (putF x y fs).map (·.1) = fs.map (·.1) ∧ (putF x y fs).map (·.2) = (fs.map (·.2)).set j y
  | [], _, j, x, _, _, _, h => by simp at h
  | (g, w) :: r, [], j, x, h, _, _, _ => by simp at h
  | (g, w) :: r, n :: ns, j, x, h, nd, hx, hj => by
    simp only [List.map_cons, List.length_cons, List.take_succ_cons, List.cons.injEq] at h
    obtain ⟨rfl, h⟩ := h
    rw [List.nodup_cons] at nd
    show (if g = x then (g, y) :: r else (g, w) :: putF x y r).map (·.1) = _ ∧ (if g = x then (g, y) :: r else (g, w) :: putF x y r).map (·.2) = _
    cases j with
    | zero =>
      simp only [List.getElem?_cons_zero, Option.some.injEq] at hx
      subst hx
      rw [if_pos rfl]
      exact ⟨rfl, rfl⟩
    | succ j =>
      simp only [List.getElem?_cons_succ] at hx
      have ne : ¬ g = x := fun e => nd.1 (e ▸ List.mem_of_getElem? hx)
      rw [if_neg ne]
      obtain ⟨h1, h2⟩ := putF_set y h nd.2 hx (by simpa using hj)
      exact ⟨by rw [List.map_cons, h1]; rfl, by rw [List.map_cons, h2]; rfl⟩
theorem putF_app (y : V) {x : Str} : ∀ {fs : List (Str × V)}, x ∉ fs.map (·.1) → putF x y fs = fs ++ [(x, y)]
  | [], _ => rfl
  | (g, w) :: r, h => by
    simp only [List.map_cons, List.mem_cons, not_or] at h
    show (if g = x then (g, y) :: r else (g, w) :: putF x y r) = _
    have ne : ¬ g = x := fun e => h.1 e.symm
    rw [if_neg ne, putF_app y h.2]
    rfl
section
variable {C : ClsA} {K : PySem.W.Frag} {M : Addr → Prop} {H : Hp} {u : V}
theorem RS1.ins' {c : Nat} {ps : List P} (h : RS1 C K M H u (.ins c ps)) : ∃ (a A dx : Addr) (ns : List Str) (fs : List (Str × V)), u = .ref a ∧ C c = some (A, ns) ∧ H a = some (.ins A dx fs) ∧ fs.map (·.1) = ns.take fs.length ∧ RPs C K M H (fs.map (·.2)) ps := by
  cases h with
  | rp h => cases h with | ins h1 h2 _ h3 h4 => exact ⟨_, _, _, _, _, rfl, h1, h2, h3, h4⟩
  | ins h1 h2 h3 h4 => exact ⟨_, _, _, _, _, rfl, h1, h2, h3, h4⟩
end
theorem fldP_ok {G : Glob} {y : P} {f : Nat} {r : P ⊕ Nat} (h : fldP G y f = some r) : ∃ c ps d, y = .ins c ps ∧ G.cls c = some d ∧ ((∃ j z, d.flds.idxOf? f = some j ∧ ps[j]? = some z ∧ r = .inl z) ∨ (∃ g, d.flds.idxOf? f = none ∧ d.prps.lookup f = some g ∧ r = .inr g)) := by
  unfold fldP at h
  split at h
  · rename_i c ps
    obtain ⟨d, hd, h⟩ := Option.bind_eq_some_iff.mp h
    refine ⟨c, ps, d, rfl, hd, ?_⟩
    split at h
    · rename_i j hj
      obtain ⟨z, hz, rfl⟩ := Option.map_eq_some_iff.mp h
      exact .inl ⟨j, z, hj, hz, rfl⟩
    · rename_i hj
      obtain ⟨g, hg, rfl⟩ := Option.map_eq_some_iff.mp h
      exact .inr ⟨g, hj, hg, rfl⟩
  · cases h
/-- a name of a field or of a property, in all classes of the text -/
def AttrAt (F : Fx) (X : Cx) (f : Nat) (x : Str) : Prop := ∀ (c : Nat) (d : ClsD) (A : Addr) (ns : List Str), F.G.cls c = some d → F.C c = some (A, ns) → Cls X.K A ∧ ns.Nodup ∧ ns.length ≤ 999 ∧
  (∀ j, d.flds.idxOf? f = some j → NoAttr X.K A x ∧ ns[j]? = some x) ∧
  ∀ g, d.flds.idxOf? f = none → d.prps.lookup f = some g → (∀ vs H Q E, ¬ SpE F.C F.EC X.K (F.call g) vs H Q E) ∨ ∃ p a fd ps k sp, PropOf X.K A x p a ∧ FnOk X.prog X.w X.K X.mg X.base (L2.CX X.prog X.w) k a fd ps sp ∧ Room (k + 1) X.A ∧ Binds X.K fd ps [] ∧ ∀ vs H Q E, SpE F.C F.EC X.K (F.call g) vs H Q E → sp vs H Q E
theorem RPs.rev {C : ClsA} {K : PySem.W.Frag} {M : Addr → Prop} {H : Hp} : ∀ {us : List V} {ps : List P}, RPs C K M H us ps → RPs C K M H us.reverse ps.reverse
  | _, _, .nil => .nil
  | _, _, .cons r t => by
    rw [List.reverse_cons, List.reverse_cons]
    exact (RPs.rev t).append (.cons r .nil)
def baseOk : Expr → Bool
  | .Call .. => false
  | _ => true
theorem base_ok {e : Expr} (h : baseOk e = true) (f : Str) (env : PySem.Env) : attributeBase e f env (eval e env) = eval e env := by cases e <;> first | rfl | cases h
section
variable {F : Fx} {W : WX} {X : Cx} {pos p p2 : Pos} {e : Expr} {ce : CE} {x sx : PySem.Str} {i f : Nat}
theorem nox_pass : Passes (L2.CX X.prog X.w) X.nox (fun _ _ _ => False) := fun pins σ H s e s' I h => by
  obtain ⟨_, _, _, _, _, _, _, _, _, _, _, _, z⟩ := h
  exact z
theorem s_fld (ha : PE X e (trE F X.K W ce)) (hf : AttrAt F X f x) (hb : baseOk e = true) : PE X (.Attribute e x pos) (trE F X.K W (.fld ce f)) := by
  refine ⟨fun pins s σ H Q I h => ?_⟩
  refine attr_of (base_ok hb x X.env) (thn (ha.run pins s σ H (fun u H1 => (∃ a A dx fs v, u = .ref a ∧ H1 a = some (.ins A dx fs) ∧ Cls X.K A ∧ NoAttr X.K A x ∧ fs.lookup x = some v ∧ Q v H1) ∨
    ∃ a A dx fs p g fd ps k sp, u = .ref a ∧ H1 a = some (.ins A dx fs) ∧ Cls X.K A ∧ PropOf X.K A x p g ∧ FnOk X.prog X.w X.K X.mg X.base (L2.CX X.prog X.w) k g fd ps sp ∧ Room (k + 1) X.A ∧ Binds X.K fd ps [] ∧ sp [.ref a] H1 Q (fun _ _ _ => False)) I ?_) fun u s1 ⟨y, H1, I1, rx, q⟩ => ?_)
  · obtain ⟨M, js, ρ, cs, s, j, h⟩ := h
    refine ⟨M, js, ρ, cs, s, j, ?_⟩
    simp only [evE] at h
    rw [R.sat_bind] at h
    refine h.mono (fun v cs1 h u M1 H1 s1 t1 r1 => ?_) fun _ _ _ h => h
    rw [R.sat_bind, R.sat_opt] at h
    obtain ⟨y, hy, h⟩ := h
    have sn := s1.seen r1 hy
    cases hfl : fldP F.G y f with
    | none => rw [hfl] at h; exact h.elim
    | some r =>
      rw [hfl] at h
      obtain ⟨c, ps, d, rfl, hd, hr⟩ := fldP_ok hfl
      obtain ⟨a, A, dx, ns, fs, rfl, g1, g2, g3, g4⟩ := sn.ins'
      obtain ⟨cl, nd, _, a1, a2⟩ := hf c d A ns hd g1
      rcases hr with ⟨k, z, e1, e2, rfl⟩ | ⟨g, e1, e2, rfl⟩
      · obtain ⟨n1, n2⟩ := a1 k e1
        obtain ⟨w, w1, w2⟩ := g4.get e2
        exact .inl ⟨a, A, dx, fs, w, rfl, g2, cl, n1, lookup_at g3 nd n2 w1, (R.sat_ok.mp h) w M1 H1 s1 t1 w2⟩
      · have spe : SpE F.C F.EC X.K (F.call g) [.ref a] H1 Q (fun _ _ _ => False) := by
          cases v with
          | ref n => exact h.elim
          | p y' =>
            simp only [viewV, Option.some.injEq] at hy
            subst hy
            refine ⟨M1, [.imm _], [], s1.dom, List.nodup_nil, .imm r1 .nil, ?_⟩
            revert h
            dsimp only
            cases F.call g [.imm (.ins c ps)] with
            | stk => exact fun h => h.elim
            | exc _ _ _ => exact fun h => h.elim
            | ok r own outs =>
              cases own with
              | true => exact fun h => h.elim
              | false =>
                intro h u' M' H' en h1 _
                have rp := h1 rfl
                have k0 : Keep No H1 H' := en.keep.mono fun b z => by simp at z
                have sub : ∀ b, M1 b → M' b := fun b z => (en.sup b z).elim id fun w => by simp at w
                exact (R.sat_ok.mp h) u' M1 H' (s1.same k0) (t1.trans (Tr.same k0)) (rp.sub sub)
        rcases a2 g e1 e2 with no | ⟨p, ga, fd, ps', k, sp, q1, q2, q3, q4, q5⟩
        · exact (no _ _ _ _ spe).elim
        · exact .inr ⟨a, A, dx, fs, p, ga, fd, ps', k, sp, rfl, g2, cl, q1, q2, q3, q4, q5 _ _ _ _ spe⟩
  · rcases q with ⟨a, A, dx, fs, v, rfl, ea, c, n, l, q⟩ | ⟨a, A, dx, fs, p, g, fd, ps, k, sp, rfl, ea, c, hp, F1, hr, hb, q⟩
    · obtain rfl : u = Value.ref a := rx
      exact getattr_ok I1 ea c n l fun u' s2 I2 ru => ⟨v, H1, I2, ru, q⟩
    · obtain rfl : u = Value.ref a := rx
      exact getprop_ok I1 ea c hp F1 hr hb .nil nox_pass q
theorem s_rev {k : Nat} {p1 p2 p3 : Pos} (ha : PE X e (trE F X.K W ce)) : PE X (.Subscript e (.Slice none none (some (.UnaryOp .USub (.Constant (.int 1) k p1) p2)) p3) pos) (trE F X.K W (.rev ce)) := by
  refine (pe_revL ha).imp fun σ H Q h => ?_
  obtain ⟨M, js, ρ, cs, s, j, h⟩ := h
  refine ⟨M, js, ρ, cs, s, j, ?_⟩
  simp only [evE] at h
  rw [R.sat_bind, sat_vw] at h
  refine h.mono (fun v cs1 h u M1 H1 s1 t1 r1 => ?_) fun _ _ _ h => h
  obtain ⟨x, hx, h⟩ := h
  split at h
  · obtain ⟨a, us, rfl, h1, h2⟩ := (s1.seen r1 hx).list
    refine ⟨a, us, rfl, SqL.of h1, fun p hp => ?_⟩
    exact (R.sat_ok.mp h) _ M1 _ (s1.same (Keep.new hp)) (t1.trans (Tr.same (Keep.new hp))) (.lst upd_same (s1.fresh hp) (RPs.rev (h2.kept (Keep.new hp))))
  · exact h.elim
theorem s_stf (hi : X.N[i]? = some sx) (hv : Vis X.env.scope sx) (hd : (sx == ("__debug__" : PySem.Str)) = false) (hcd : (sx == ("__classdict__" : PySem.Str)) = false) (hf : AttrAt F X f x) (he : PE X e (trE F X.K W ce)) :
    PS X (.Assign [.Attribute (.Name sx p) x p2] e pos) (trS F X.K W (.stf i f ce)) := by
  refine (ps_fld (pe_var (pos := p) hi hv hd hcd) he (by cases e <;> rfl)).imp fun D σ H h => ?_
  obtain ⟨M, js, ρ, cs, s, j, h⟩ := h
  refine ⟨M, js, ρ, cs, s, j, ?_⟩
  simp only [evS, ev] at h
  rw [satS_toS, R.sat_bind] at h
  refine h.mono (fun v cs1 h u M1 H1 s1 t1 r1 => ?_) fun c fs cs1 h => h.eps
  cases he : escV cs1 v with
  | stk => rw [he] at h; exact h.elim
  | exc c fs cs2 => exact (escV_exc he).elim
  | ok y cs2 =>
    rw [he] at h
    replace h := R.sat_ok.mp h
    obtain ⟨M2, s2, t2, r2⟩ := s1.esc r1 he
    rw [satS_toS] at h
    unfold onCell at h
    split at h
    · rename_i n hn
      obtain ⟨u0, hu, a, ha, rfl⟩ := s2.env i _ hn
      refine ⟨_, hu, ?_⟩
      split at h
      · rename_i c hc
        split at h
        · rename_i hm
          split at h
          · rename_i c' _ hf'
            simp only [Option.map_eq_some_iff, Prod.mk.injEq, and_true] at hf'
            obtain ⟨c2, hf', rfl⟩ := hf'
            unfold stfC at hf'
            split at hf'
            · rename_i f0 v0 k ps
              obtain ⟨d, hd, hf'⟩ := Option.bind_eq_some_iff.mp hf'
              have rc := s2.cel n a _ ha hc
              cases rc with
              | @obj A dx _ ns fs _ hM hC hH hfs rr =>
                obtain ⟨cl, nd, nl, a1, _⟩ := hf k d A ns hd hC
                have ln := rr.length
                rw [List.length_map] at ln
                have lt : fs.length ≤ ns.length := by
                  have := congrArg List.length hfs
                  rw [List.length_map, List.length_take] at this
                  omega
                split at hf'
                · rename_i q hq
                  obtain ⟨n1, n2⟩ := a1 q hq
                  have fin : ∀ zs, RPs F.C X.K M2 H1 ((putF x u fs).map (·.2)) zs → (putF x u fs).map (·.1) = ns.take (putF x u fs).length → c2 = .obj k zs → D.nx σ (upd H1 a (.ins A dx (putF x u fs))) := fun zs rz hz e => by
                    subst e
                    obtain ⟨s4, t4⟩ := s2.write (c' := .obj k zs) (o' := .ins A dx (putF x u fs)) ha hc rfl hH (fun _ h => nomatch h) (fun _ _ h => nomatch h) fun f => .obj hM hC upd_same hz (f rz)
                    exact (R.sat_ok.mp h) σ M2 js _ s4 (((t1.trans t2).trans t4).j s4)
                  refine ⟨a, A, dx, fs, rfl, hH, cl, n1, by omega, ?_⟩
                  split at hf'
                  · rename_i hlt
                    cases hf'
                    have hlt' : q < fs.length := by omega
                    obtain ⟨p1, p2⟩ := putF_set u hfs nd n2 hlt'
                    have pl : (putF x u fs).length = fs.length := by
                      have := congrArg List.length p1
                      rwa [List.length_map, List.length_map] at this
                    exact fin _ (by rw [p2]; exact RPs.set r2 q rr) (by rw [p1, pl, hfs]) rfl
                  · split at hf'
                    · rename_i hq2
                      cases hf'
                      have hq3 : q = fs.length := by omega
                      have nm : x ∉ fs.map (·.1) := fun z => by
                        rw [hfs] at z
                        obtain ⟨m, hm'⟩ := List.getElem?_of_mem z
                        have lm : m < fs.length := by
                          have := (List.getElem?_eq_some_iff.mp hm').1
                          rw [List.length_take] at this; omega
                        rw [List.getElem?_take_of_lt lm] at hm'
                        have l1 : m < ns.length := (List.getElem?_eq_some_iff.mp hm').1
                        have := (List.getElem?_inj l1 nd).mp (hm'.trans n2.symm)
                        omega
                      have pa := putF_app u nm
                      refine fin _ (by rw [pa, List.map_append]; exact rr.append (.cons r2 .nil)) ?_ rfl
                      rw [pa, List.map_append, hfs, List.length_append]
                      subst hq3
                      show ns.take fs.length ++ [x] = ns.take (fs.length + 1)
                      rw [List.take_add_one, n2]
                      rfl
                    · cases hf'
                · cases hf'
            · cases hf'
          · exact h.elim
        · exact h.elim
      · exact h.elim
    · exact h.elim
end
/-! ### a class, called -/
section
variable {C : ClsA} {EC : EcA} {K : PySem.W.Frag} {G : Glob}
theorem RAg.mono {M M' : Addr → Prop} {H H' : Hp} (k : Keep No H H') (m : ∀ b, H b ≠ none → M' b → M b) (m2 : ∀ b, M b → M' b) : ∀ {us : List V} {as : List Arg} {js : List Addr}, RAg C K M H us as js → RAg C K M' H' us as js
  | _, _, _, .nil => .nil
  | _, _, _, .imm r q => .imm (RP.mono (k.mono fun _ z => z.elim) m r) (RAg.mono k m m2 q)
  | _, _, _, .mu rc hm q => .mu (rc.move k id (k.mono fun _ z => z.elim) m (m2 _)) hm (RAg.mono k m m2 q)
theorem RAg.js {M : Addr → Prop} {H : Hp} : ∀ {us : List V} {as : List Arg} {js : List Addr}, RAg C K M H us as js → ∀ a, a ∈ js → M a
  | _, _, _, .nil, a, h => by simp at h
  | _, _, _, .imm _ q, a, h => q.js a h
  | _, _, _, .mu rc hm q, a, h => by
    rcases List.mem_cons.mp h with rfl | h
    · cases rc with
      | lst m _ _ => exact m
      | obj m _ _ _ _ => exact m
      | lock m _ _ => exact m
      | frz _ _ _ => simp [Cell.isMut] at hm
    · exact q.js a h
theorem end_mk {M M' : Addr → Prop} {js : List Addr} {H H' : Hp} {x dx A : Addr} {c : Cell} {outs : Cells} (hx : H x = none) (hdx : H dx = none) (hn : dx ≠ x) (dom : ∀ a, M a → H a ≠ none) (nj : x ∉ js)
    (en : EndR C K (fun b => M b ∨ b = x) (x :: js) (upd (upd H dx (.own x)) x (.ins A dx [])) M' (c :: outs) H') : EndR C K M js H (fun b => M' b ∧ b ≠ x) outs H' := by
  have nx : ∀ b, H b ≠ none → b ≠ x := fun b h e => h (e ▸ hx)
  have nd : ∀ b, H b ≠ none → b ≠ dx := fun b h e => h (e ▸ hdx)
  have up : ∀ b, H b ≠ none → upd (upd H dx (.own x)) x (.ins A dx []) b = H b := fun b h => by rw [upd_ne (nx b h), upd_ne (nd b h)]
  refine ⟨⟨fun b o e nb => ?_, fun b xs e => ?_, fun b o u e => ?_, fun b e => ?_⟩, fun a q => en.dom a q.1, fun b q => ?_, fun b q => ?_, ?_, fun n a d h1 h2 => ?_⟩
  · have hb : H b ≠ none := by rw [e]; simp
    exact en.keep.obj b o (by rw [up b hb]; exact e) fun z => (List.mem_cons.mp z).elim (nx b hb) nb
  · have hb : H b ≠ none := by rw [e]; simp
    exact en.keep.tup b xs (by rw [up b hb]; exact e)
  · have hb : H b ≠ none := by rw [e]; simp
    exact en.keep.frz b o u (by rw [up b hb]; exact e)
  · exact en.keep.dom b (by rw [up b e]; exact e)
  · rcases en.sub b q.1 with (z | z) | z
    · exact .inl z
    · exact (q.2 z).elim
    · right
      by_cases hb : H b = none
      · exact hb
      · rw [up b hb] at z; exact z
  · rcases en.sup b (.inl q) with z | z
    · exact .inl ⟨z, nx b (dom b q)⟩
    · rcases List.mem_cons.mp z with z | z
      · exact (nx b (dom b q) z).elim
      · exact .inr z
  · have := en.len
    simpa using this
  · have := en.cel (n + 1) a d (by simpa using h1) (by simpa using h2)
    exact this.sub (fun b z => z.1) fun z => ⟨z, fun e => nj (e ▸ List.mem_of_getElem? h1)⟩
theorem spe_mk {k f c i : Nat} {A : Addr} {ns : List Str} (hf : G.fns f = none) (hm : G.mks f = some (.cls c i)) (hC : C c = some (A, ns)) (vs : List V) (H : Hp) (Q : VK) (E : XK) (h : SpE C EC K (evCall G (k + 1) f) vs H Q E) : SpM A (SpE C EC K (evCall G k i)) vs H Q E := by
  intro x dx hx hdx hn
  obtain ⟨M, as, js, dom, nd, rag, h⟩ := h
  have ev : evCall G (k + 1) f as = runMk (evCall G k) c i as := by rw [evCall, hf, hm]
  rw [ev] at h
  have nj : x ∉ js := fun z => dom x (rag.js x z) hx
  have k0 : Keep No H (upd (upd H dx (.own x)) x (.ins A dx [])) := (Keep.new hdx).trans (Keep.new (by rw [upd_ne hn.symm]; exact hx))
  have un : ∀ b, H b ≠ none → (M b ∨ b = x) → M b := fun b hb z => z.elim id fun e => (hb (e ▸ hx)).elim
  refine ⟨fun b => M b ∨ b = x, .mu (.obj c []) :: as, x :: js, fun a q => ?_, List.nodup_cons.mpr ⟨nj, nd⟩, .mu (.obj (.inr rfl) hC upd_same (by simp) .nil) rfl (rag.mono k0 un fun _ => .inl), ?_⟩
  · rcases q with q | rfl
    · exact k0.dom a (dom a q)
    · rw [upd_same]; simp
  · unfold runMk at h
    revert h
    cases evCall G k i (.mu (.obj c []) :: as) with
    | stk => exact fun h => h
    | exc e fs outs =>
      cases outs with
      | nil => exact fun h => h.elim
      | cons o outs =>
        intro h cls d M' H' en ex
        refine h cls d _ H' (end_mk hx hdx hn dom nj en) ?_
        obtain ⟨A', ns', g1, g2, g3⟩ := ex
        refine ⟨A', ns', g1, g2, g3.imp id ?_⟩
        rintro ⟨dy, kvs, d1, d2, d3, d4, d5⟩
        refine ⟨dy, kvs, d1, d2, d3, d4, fun i n p e1 e2 => ?_⟩
        obtain ⟨u, w1, w2⟩ := d5 i n p e1 e2
        exact ⟨u, w1, w2.sub fun b z => z.1⟩
    | ok r own outs =>
      intro h u M' H' en h1 h2
      cases r with
      | none =>
        cases own with
        | true => exact h.elim
        | false =>
          cases outs with
          | nil => exact h.elim
          | cons o outs =>
            cases o with
            | obj c' fs =>
              dsimp only at h
              by_cases hc : c' = c
              · rw [if_pos hc] at h
                subst hc
                have r0 := h1 rfl
                cases r0
                have rc := en.cel 0 x _ rfl rfl
                cases rc with
                | obj m hC' hH hfs rr =>
                  exact ⟨rfl, h (.ref x) _ H' (end_mk hx hdx hn dom nj en) (fun _ => .ins hC' hH (fun z => z.2 rfl) hfs (rr.sub fun b z => z.1)) fun z => by cases z⟩
              · rw [if_neg hc] at h; exact h.elim
            | _ => exact h.elim
      | _ => exact h.elim
end
end Ev
set_option maxRecDepth 100000
set_option maxHeartbeats 2000000
/-! Ev16: the look at the text: expressions -/
namespace Ev
open PySem L2 PyProof.Rows
/-- the names of the text, by their ids -/
structure Tb where
  fns : List PySem.Str
  gls : List PySem.Str
  flds : List PySem.Str
  cls : List PySem.Str
  kbs : List (Nat × List PySem.Str × List Nat) := []
def nones : List PySem.Str := ["len", "int", "abs", "min", "max", "sum", "all", "any", "tuple", "list", "str", "sorted", "bool", "range", "enumerate", "zip", "isinstance", "dict", "reversed"]
/-- a global by its name -/
def GlAt (F : Fx) (X : Cx) (g : Nat) (x : PySem.Str) : Prop := ∃ (u : Value) (v : V) (p : P), X.mg x = some u ∧ RelV v u ∧ F.G.gls g = some p ∧ ∀ M H, RP F.C X.K M H v p
/-- the context of a text's def or block -/
structure XC (T : Tb) (N : List PySem.Str) (F : Fx) (W : WX) (sc : Scope) (X : Cx) : Prop where
  hN : X.N = N
  nd : N.Nodup
  hs : X.env.scope = sc
  hc : X.calm = true
  hu : X.A.units + 65 < cLine
  tk : Takes X W
  nob : ∀ x, x ∈ nones → X.mg x = none
  fn : ∀ f x, T.fns[f]? = some x → ∃ k, Room k X.A ∧ FnAt F X k f x
  gl : ∀ g x, T.gls[g]? = some x → GlAt F X g x
  at_ : ∀ f x, T.flds[f]? = some x → AttrAt F X f x
  kb : ∀ f ks pm x, (f, ks, pm) ∈ T.kbs → T.fns[f]? = some x → ∃ k, Room k X.A ∧ KwAt F X k f x ks pm
def kwN : List Keyword → Option (List PySem.Str)
  | [] => some []
  | ⟨some n, _, _⟩ :: r => (kwN r).map (n :: ·)
  | _ :: _ => none
theorem s_gl {F : Fx} {W : WX} {X : Cx} {pos : Pos} {g : Nat} {x : PySem.Str} (h : GlAt F X g x) (hg : Gl X x) (hd : (x == ("__debug__" : PySem.Str)) = false) : PE X (.Name x pos) (trE F X.K W (.gl g)) := by
  obtain ⟨u, v, p, h1, h2, h3, h4⟩ := h
  refine PE.imp (t := fun σ H Q => Q v H) ⟨fun pins s σ H Q I q => ld_glob I hg h1 ⟨v, H, I, h2, q⟩ hd⟩ fun σ H Q h => ?_
  obtain ⟨M, js, ρ, cs, s, j, h⟩ := h
  simp only [evE] at h
  rw [h3] at h
  exact h v M H s Tr.refl (h4 M H)
/-! ### the look -/
def visB (sc : Scope) (x : PySem.Str) : Bool := match sc.names.lookup x with
  | some .local => true | some .cell => true | some .free => true | _ => false
def locB (sc : Scope) (x : PySem.Str) : Bool := match sc.names.lookup x with
  | some .local => true | _ => false
def celB (sc : Scope) (x : PySem.Str) : Bool := match sc.names.lookup x with
  | some .cell => true | _ => false
def lcB (sc : Scope) (x : PySem.Str) : Bool := locB sc x || celB sc x
def giB (sc : Scope) (x : PySem.Str) : Bool := (match sc.names.lookup x with
  | some .globalImplicit => true | _ => false) && !(x == ("__debug__" : PySem.Str))
def varB (N : List PySem.Str) (sc : Scope) (i : Nat) (x : PySem.Str) : Bool := decide (N[i]? = some x) && visB sc x && !(x == ("__debug__" : PySem.Str)) && !(x == ("__classdict__" : PySem.Str))
def eqBO : BoolOp → Bool → Bool
  | .And, true => true | .Or, false => true | _, _ => false
/-- it may stand as a test -/
def tstE : CE → Bool
  | .not a => tstE a
  | .bop _ es => tstEs es
  | .ite .. => false
  | _ => true
where tstEs : CEs → Bool
  | .nil => true
  | .cons e es => tstE e && tstEs es
section
variable (T : Tb) (N : List PySem.Str)
mutual
def chkG (b : Bool) (sc : Scope) : TG → Expr → Bool
  | .nm i, e => match e with
    | .Name x _ => decide (N[i]? = some x) && (locB sc x || (b && celB sc x))
    | _ => false
  | .tp ts, e => match e with
    | .Tuple es _ _ => chkGs b sc ts es && es.all notStar && decide (es.length = ts.size)
    | _ => false
def chkGs (b : Bool) (sc : Scope) : TGs → List Expr → Bool
  | .nil, es => match es with
    | [] => true
    | _ => false
  | .cons t ts, es => match es with
    | e :: es => chkG b sc t e && chkGs b sc ts es && notStar e
    | _ => false
end
mutual
def chkE (sc : Scope) : CE → Expr → Bool
  | .none, e => match e with
    | .Constant .none _ _ => true
    | _ => false
  | .bool b, e => match e with
    | .Constant (.bool c) _ _ => decide (b = c)
    | _ => false
  | .int b, e => match e with
    | .Constant (.int c) _ _ => decide (b = c)
    | _ => false
  | .str s, e => match e with
    | .Constant (.str x) _ _ => decide (x = mkS s) && s.all (fun c => decide (c < 0x110000)) && decide (s.length ≤ SZ)
    | _ => false
  | .var i, e => match e with
    | .Name x _ => varB N sc i x
    | _ => false
  | .gl g, e => match e with
    | .Name x _ => decide (T.gls[g]? = some x) && giB sc x
    | _ => false
  | .bin o a b, e => match e with
    | .BinOp x op y _ => decide (op = opOf o) && chkE sc a x && chkE sc b y
    | _ => false
  | .neg a, e => match e with
    | .UnaryOp .USub x _ => chkE sc a x
    | _ => false
  | .not a, e => match e with
    | .UnaryOp .Not x _ => chkE sc a x
    | _ => false
  | .bop k es, e => match e with
    | .BoolOp op xs _ => eqBO op k && chkBo sc es xs
    | _ => false
  | .cmp o a b, e => match e with
    | .Compare x [op] [y] _ => decide (op = copOf o) && notSet y && chkE sc a x && chkE sc b y
    | _ => false
  | .chain o o' a b c, e => match e with
    | .Compare x [op, op'] [y, z] _ => decide (op = copOf o) && decide (op' = copOf o') && notSet z && chkE sc a x && chkE sc b y && chkE sc c z
    | _ => false
  | .ite c a b, e => match e with
    | .IfExp t x y _ => chkE sc c t && tstE c && chkE sc a x && chkE sc b y
    | _ => false
  | .ix a i, e => match e with
    | .Subscript x y _ => notSlice y && chkE sc a x && chkE sc i y
    | _ => false
  | .sl a lo hi, e => match e with
    | .Subscript x (.Slice l h none _) _ => chkE sc a x && chkO sc lo l && chkO sc hi h
    | _ => false
  | .tup es, e => match e with
    | .Tuple xs _ _ => chkEs sc es xs
    | _ => false
  | .l a, e => chkL sc a e
  | .call f as, e => match e with
    | .Call (.Name x _) xs [] _ => decide (T.fns[f]? = some x) && giB sc x && chkAs sc as xs
    | _ => false
  | .bi o es, e => match e with
    | .Call (.Name x _) xs [] _ => decide (x = biName o) && giB sc x && !xs.isEmpty && chkEs sc es xs
    | _ => false
  | .isi a ts, e => match e with
    | .Call (.Name x _) [y, .Name t _] [] _ => (match ts with
      | [ty] => decide (x = "isinstance") && giB sc x && decide (t = tyOf ty) && giB sc t && (match ty with | .own _ => false | _ => true) && decide (t ∈ nones) && notStar y && chkE sc a y
      | _ => false)
    | _ => false
  | .mth i o es, e => match e with
    | .Call (.Attribute (.Name x _) m ap) xs [] cp => decide (m = mName o) && varB N sc i x && (ap.endLine == cp.line) && decide ((xs.isEmpty = true) ↔ (o = .pop)) && decide (xs.length < 29) && chkEs sc es xs
    | _ => false
  | .callK f as pm, e => match e with
    | .Call (.Name x _) [] kws _ => decide (T.fns[f]? = some x) && giB sc x && chkKs sc as kws && (match kwN kws with
      | some ks => decide ((f, ks, pm) ∈ T.kbs) && decide (as.size = ks.length)
      | none => false)
    | _ => false
  | .fld a f, e => match e with
    | .Attribute x n _ => decide (T.flds[f]? = some n) && baseOk x && chkE sc a x
    | _ => false
  | .rev a, e => match e with
    | .Subscript x (.Slice none none (some (.UnaryOp .USub (.Constant (.int 1) _ _) _)) _) _ => chkE sc a x
    | _ => false
  | .dic ss es, e => match e with
    | .Dict keys xs _ => chkD sc es ss keys xs && decide (keys.length ≤ 15)
    | _ => false
  | _, _ => false
def chkKs (sc : Scope) : CAs → List Keyword → Bool
  | .nil, es => match es with
    | [] => true
    | _ => false
  | .imm a as, es => match es with
    | ⟨_, e, _⟩ :: es => chkE sc a e && chkKs sc as es
    | [] => false
  | _, _ => false
def chkD (sc : Scope) : CEs → List (List Nat) → List (Option Expr) → List Expr → Bool
  | .nil, ss, ks, es => ss.isEmpty && ks.isEmpty && es.isEmpty
  | .cons a as, ss, ks, es => match ss, ks, es with
    | s :: ss, some (.Constant (.str x) _ _) :: ks, e :: es => decide (x = mkS s) && chkE sc a e && chkD sc as ss ks es
    | _, _, _ => false
def chkL (sc : Scope) : CL → Expr → Bool
  | .lst es, e => match e with
    | .List xs _ => chkEs sc es xs
    | _ => false
  | .lc g own it ts a, e => match e with
    | .ListComp elt [⟨tg, iter, ifs, 0⟩] scope _ => blkC N sc scope (own.map fun i => (N.getD i "", i)) && chkG N false (relS scope sc) g tg && chkI sc it tg iter && notSet iter && chkTs (relS scope sc) ts ifs && chkE (relS scope sc) a elt && g.ixs.all (fun i => own.contains i)
    | _ => false
  | .lof a, e => match e with
    | .Call (.Name x _) [y] [] _ => decide (x = "list") && giB sc x && notStar y && chkE sc a y
    | _ => false
  | .call f as, e => match e with
    | .Call (.Name x _) xs [] _ => decide (T.fns[f]? = some x) && giB sc x && chkAs sc as xs
    | _ => false
def chkO (sc : Scope) : CO → Option Expr → Bool
  | .none, e => match e with
    | none => true
    | _ => false
  | .some a, e => match e with
    | some x => chkE sc a x
    | _ => false
def chkBo (sc : Scope) : CEs → List Expr → Bool
  | .nil, _ => false
  | .cons a as, es => match es with
    | e :: es => chkE sc a e && (match es with
      | [] => (match as with | .nil => true | .cons .. => false)
      | _ :: _ => chkBo sc as es)
    | [] => false
def chkEs (sc : Scope) : CEs → List Expr → Bool
  | .nil, es => match es with
    | [] => true
    | _ => false
  | .cons a as, es => match es with
    | e :: es => chkE sc a e && notStar e && chkEs sc as es
    | [] => false
def chkTs (sc : Scope) : CEs → List Expr → Bool
  | .nil, es => match es with
    | [] => true
    | _ => false
  | .cons a as, es => match es with
    | [e] => chkE sc a e && tstE a && (match as with | .nil => true | .cons .. => false)
    | _ => false
def chkAs (sc : Scope) : CAs → List Expr → Bool
  | .nil, es => match es with
    | [] => true
    | _ => false
  | .imm a as, es => match es with
    | e :: es => chkE sc a e && notStar e && chkAs sc as es
    | [] => false
  | .mv i as, es => match es with
    | .Name x _ :: es => varB N sc i x && chkAs sc as es
    | _ => false
  | .ml a as, es => match es with
    | e :: es => chkL sc a e && notStar e && chkAs sc as es
    | [] => false
def chkI (sc : Scope) : CI → Expr → Expr → Bool
  | .sq a, _, e => chkE sc a e
  | .r1 a, _, e => match e with
    | .Call (.Name x _) [y] [] _ => decide (x = "range") && giB sc x && notStar y && chkE sc a y
    | _ => false
  | .r2 a b, _, e => match e with
    | .Call (.Name x _) [y, z] [] _ => decide (x = "range") && giB sc x && notStar y && notStar z && chkE sc a y && chkE sc b z
    | _ => false
  | .en a, tg, e => match tg, e with
    | .Tuple .., .Call (.Name x _) [y] [] _ => decide (x = "enumerate") && giB sc x && notStar y && chkE sc a y
    | _, _ => false
  | _, _, _ => false
end
end
end Ev
set_option maxRecDepth 100000
set_option maxHeartbeats 4000000
/-! Ev17: what passed the look is read right: expressions -/
namespace Ev
open PySem L2 PyProof.Rows
theorem visB_ok {sc : Scope} {x : PySem.Str} (h : visB sc x = true) : Vis sc x := by
  unfold visB at h
  split at h <;> first | exact .inl (by assumption) | exact .inr (.inl (by assumption)) | exact .inr (.inr (by assumption)) | cases h
theorem locB_ok {sc : Scope} {x : PySem.Str} (h : locB sc x = true) : sc.names.lookup x = some .local := by
  unfold locB at h
  split at h <;> first | assumption | cases h
theorem celB_ok {sc : Scope} {x : PySem.Str} (h : celB sc x = true) : sc.names.lookup x = some .cell := by
  unfold celB at h
  split at h <;> first | assumption | cases h
theorem lcB_ok {sc : Scope} {x : PySem.Str} (h : lcB sc x = true) : Loc sc x := by
  unfold lcB at h
  rw [Bool.or_eq_true] at h
  exact h.imp locB_ok celB_ok
theorem giB_ok {sc : Scope} {x : PySem.Str} (h : giB sc x = true) : sc.names.lookup x = some .globalImplicit ∧ (x == ("__debug__" : PySem.Str)) = false := by
  unfold giB at h
  rw [Bool.and_eq_true, Bool.not_eq_true'] at h
  refine ⟨?_, h.2⟩
  have := h.1
  split at this <;> first | assumption | cases this
theorem varB_ok {N : List PySem.Str} {sc : Scope} {i : Nat} {x : PySem.Str} (h : varB N sc i x = true) : N[i]? = some x ∧ Vis sc x ∧ (x == ("__debug__" : PySem.Str)) = false ∧ (x == ("__classdict__" : PySem.Str)) = false := by
  unfold varB at h
  simp only [Bool.and_eq_true, Bool.not_eq_true', decide_eq_true_eq] at h
  exact ⟨h.1.1.1, visB_ok h.1.1.2, h.1.2, h.2⟩
theorem noW0 {X : Cx} : Takes X W0 := fun u s' ⟨_, _, _, _, _, _, _, _, _, _, _, _, _, _, _, _, w⟩ => w.elim
section
variable {T : Tb} {N : List PySem.Str} {F : Fx} {W : WX} {sc : Scope} {X : Cx}
theorem XC.gi {x : PySem.Str} (c : XC T N F W sc X) (h : giB sc x = true) : Gl X x := by
  have := (giB_ok h).1
  rw [← c.hs] at this
  exact this
theorem XC.vis {x : PySem.Str} (c : XC T N F W sc X) (h : Vis sc x) : Vis X.env.scope x := by rw [c.hs]; exact h
theorem XC.blk (c : XC T N F W sc X) (J : JT) (st : JClo J) (scope : Scope) (s : Shared) (H : Hp) (C : Addr) (cl : List (PySem.Str × Addr)) (fp : List Addr) : XC T N (F.wj J st) W0 (relS scope sc) (X.blk s H scope (compEnvC scope cl C X.env) fp) where
  hN := c.hN
  nd := c.nd
  hs := by rw [← c.hs]; rfl
  hc := c.hc
  hu := c.hu
  tk := noW0
  nob := c.nob
  fn := fun f x h => by
    obtain ⟨k, hr, g⟩ := c.fn f x h
    exact ⟨k, hr, ⟨g.at_⟩⟩
  at_ := fun f x h => c.at_ f x h
  gl := fun g x h => by
    obtain ⟨u, v, p, h1, h2, h3, h4⟩ := c.gl g x h
    exact ⟨u, v, p, h1, h2, h3, h4⟩
  kb := fun f ks pm x h1 h2 => by
    obtain ⟨k, hr, a, fd, ps, h1, h2, h3, h4⟩ := c.kb f ks pm x h1 h2
    exact ⟨k, hr, a, fd, ps, h1, h2, h3, h4⟩
theorem kwN_ok {pos : Pos} {env : PySem.Env} : ∀ {kws : List Keyword} {ks : List PySem.Str}, kwN kws = some ks → (backToKw pos (keywordEach kws env)).all (·.1.isSome) = true ∧ (backToKw pos (keywordEach kws env)).filterMap (·.1) = ks
  | [], ks, h => by simp only [kwN, Option.some.injEq] at h; subst h; exact ⟨rfl, rfl⟩
  | ⟨some n, e, kp⟩ :: r, ks, h => by
    simp only [kwN, Option.map_eq_some_iff] at h
    obtain ⟨ks', h, rfl⟩ := h
    obtain ⟨h1, h2⟩ := kwN_ok (pos := pos) (env := env) h
    exact ⟨by show (true && _) = true; rw [Bool.true_and]; exact h1, by show n :: _ = _; congr 1⟩
  | ⟨none, e, kp⟩ :: r, ks, h => by simp [kwN] at h
mutual
theorem sndG : ∀ (g : TG) {F : Fx} {W : WX} {sc : Scope} {X : Cx} {e : Expr} {b : Bool}, XC T N F W sc X → (b = true → ∀ x, X.fn x = true) → chkG N b sc g e = true → PG X e (trTg F X.K g)
  | .nm i, F, W, sc, X, e, b, c, hb, h => by
    simp only [chkG] at h
    split at h
    · simp only [Bool.and_eq_true, decide_eq_true_eq, Bool.or_eq_true] at h
      rcases h.2 with h2 | ⟨h2, h3⟩
      · have hl := locB_ok h2
        rw [← c.hs] at hl
        exact s_gname (by rw [c.hN]; exact c.nd) (by rw [c.hN]; exact h.1) (.inl hl) (.inr hl)
      · have hl := celB_ok h3
        rw [← c.hs] at hl
        exact s_gname (by rw [c.hN]; exact c.nd) (by rw [c.hN]; exact h.1) (.inr hl) (.inl (hb h2 _))
    · cases h
  | .tp ts, F, W, sc, X, e, b, c, hb, h => by
    simp only [chkG] at h
    split at h
    · simp only [Bool.and_eq_true, decide_eq_true_eq] at h
      exact s_gtup c.hc (sndGs ts c hb h.1.1) h.1.2 h.2
    · cases h
theorem sndGs : ∀ (ts : TGs) {F : Fx} {W : WX} {sc : Scope} {X : Cx} {es : List Expr} {b : Bool}, XC T N F W sc X → (b = true → ∀ x, X.fn x = true) → chkGs N b sc ts es = true → PGs X es (trTgs F X.K ts)
  | .nil, F, W, sc, X, es, b, c, hb, h => by
    simp only [chkGs] at h
    split at h
    · exact s_gsnil
    · cases h
  | .cons t ts, F, W, sc, X, es, b, c, hb, h => by
    simp only [chkGs] at h
    split at h
    · simp only [Bool.and_eq_true] at h
      exact s_gscons (sndG t c hb h.1.1) (sndGs ts c hb h.1.2) h.2
    · cases h
end
theorem eqBO_ok {op : BoolOp} {k : Bool} (h : eqBO op k = true) : op = if k then .And else .Or := by
  unfold eqBO at h
  split at h <;> first | rfl | cases h
/-- what a piece of text is read as -/
def Snd (F : Fx) (W : WX) (X : Cx) (c : CE) (e : Expr) : Prop := PE X e (trE F X.K W c) ∧ (tstE c = true → PT X e (trT F X.K W c))
theorem Snd.plain {c : CE} {e : Expr} (h : PE X e (trE F X.K W c)) (hp : plainT e = true) : Snd F W X c e := ⟨h, fun _ => s_truth h hp⟩
def SndL (F : Fx) (W : WX) (X : Cx) (c : CL) (e : Expr) : Prop := PE X e (trL F X.K W c) ∧ plainT e = true ∧ (noComp e = true ∨ ∀ (i : Nat) (y : PySem.Str) (py spos : Pos), X.N.Nodup → X.N[i]? = some y → X.env.scope.names.lookup y = some .local → swapsWith e (some (.Name y py)) spos.line X.env = pure true → PS X (.Assign [.Name y py] e spos) (tAsg (trL F X.K W c) (gName i)))
mutual
theorem sndE : ∀ (c : CE) {F : Fx} {W : WX} {sc : Scope} {X : Cx} {e : Expr}, XC T N F W sc X → chkE T N sc c e = true → Snd F W X c e
  | .none, F, W, sc, X, e, c, h => by
    simp only [chkE] at h
    split at h
    · exact .plain s_none rfl
    · cases h
  | .bool b, F, W, sc, X, e, c, h => by
    simp only [chkE] at h
    split at h
    · simp only [decide_eq_true_eq] at h; subst h
      exact .plain s_bool rfl
    · cases h
  | .int b, F, W, sc, X, e, c, h => by
    simp only [chkE] at h
    split at h
    · simp only [decide_eq_true_eq] at h; subst h
      exact .plain s_int rfl
    · cases h
  | .str b, F, W, sc, X, e, c, h => by
    simp only [chkE] at h
    split at h
    · simp only [Bool.and_eq_true, decide_eq_true_eq] at h
      obtain ⟨⟨rfl, h2⟩, h3⟩ := h
      exact .plain (s_str (by rw [strOk_iff]; exact h2) h3) rfl
    · cases h
  | .var i, F, W, sc, X, e, c, h => by
    simp only [chkE] at h
    split at h
    · obtain ⟨h1, h2, h3, h4⟩ := varB_ok h
      exact .plain (s_var (by rw [c.hN]; exact h1) (c.vis h2) h3 h4) rfl
    · cases h
  | .gl g, F, W, sc, X, e, c, h => by
    simp only [chkE] at h
    split at h
    · simp only [Bool.and_eq_true, decide_eq_true_eq] at h
      exact .plain (s_gl (c.gl _ _ h.1) (c.gi h.2) (giB_ok h.2).2) rfl
    · cases h
  | .bin o a b, F, W, sc, X, e, c, h => by
    simp only [chkE] at h
    split at h
    · simp only [Bool.and_eq_true, decide_eq_true_eq] at h
      obtain ⟨⟨rfl, h2⟩, h3⟩ := h
      exact .plain (s_bin (sndE a c h2).1 (sndE b c h3).1) rfl
    · cases h
  | .neg a, F, W, sc, X, e, c, h => by
    simp only [chkE] at h
    split at h
    · exact .plain (s_neg (sndE a c h).1) rfl
    · cases h
  | .not a, F, W, sc, X, e, c, h => by
    simp only [chkE] at h
    split at h
    · exact ⟨s_not (sndE a c h).1, fun t => s_notT ((sndE a c h).2 t)⟩
    · cases h
  | .bop k es, F, W, sc, X, e, c, h => by
    simp only [chkE] at h
    split at h
    · simp only [Bool.and_eq_true] at h
      obtain ⟨h1, h2⟩ := h
      cases eqBO_ok h1
      obtain ⟨g1, g2⟩ := sndBo es (k := k) c h2
      exact ⟨g1, fun t => (g2 t).pt⟩
    · cases h
  | .cmp o a b, F, W, sc, X, e, c, h => by
    simp only [chkE] at h
    split at h
    · simp only [Bool.and_eq_true, decide_eq_true_eq] at h
      obtain ⟨⟨⟨rfl, h2⟩, h3⟩, h4⟩ := h
      exact ⟨s_cmp c.hu (sndE a c h3).1 (sndE b c h4).1 h2, fun _ => s_cmpT c.hu (sndE a c h3).1 (sndE b c h4).1 h2⟩
    · cases h
  | .chain o o' a b d, F, W, sc, X, e, c, h => by
    simp only [chkE] at h
    split at h
    · simp only [Bool.and_eq_true, decide_eq_true_eq] at h
      obtain ⟨⟨⟨⟨⟨rfl, rfl⟩, h2⟩, h3⟩, h4⟩, h5⟩ := h
      exact ⟨s_chain c.hu (sndE a c h3).1 (sndE b c h4).1 (sndE d c h5).1 h2, fun _ => s_chainT c.hu (sndE a c h3).1 (sndE b c h4).1 (sndE d c h5).1 h2⟩
    · cases h
  | .ite d a b, F, W, sc, X, e, c, h => by
    simp only [chkE] at h
    split at h
    · simp only [Bool.and_eq_true] at h
      obtain ⟨⟨⟨h1, h2⟩, h3⟩, h4⟩ := h
      exact ⟨s_ite ((sndE d c h1).2 h2) (sndE a c h3).1 (sndE b c h4).1, fun t => by cases t⟩
    · cases h
  | .ix a i, F, W, sc, X, e, c, h => by
    simp only [chkE] at h
    split at h
    · simp only [Bool.and_eq_true] at h
      exact .plain (s_ix (by have := c.hu; omega) (sndE a c h.1.2).1 (sndE i c h.2).1 h.1.1) rfl
    · cases h
  | .sl a lo hi, F, W, sc, X, e, c, h => by
    simp only [chkE] at h
    split at h
    · simp only [Bool.and_eq_true] at h
      exact .plain (s_sl (sndE a c h.1.1).1 (sndO lo c h.1.2) (sndO hi c h.2)) rfl
    · cases h
  | .tup es, F, W, sc, X, e, c, h => by
    simp only [chkE] at h
    split at h
    · exact .plain (s_tup (sndEs es c h).1) rfl
    · cases h
  | .l a, F, W, sc, X, e, c, h => by
    simp only [chkE] at h
    obtain ⟨g1, g2, _⟩ := sndL a c h
    exact .plain (s_l g1) g2
  | .call f as, F, W, sc, X, e, c, h => by
    simp only [chkE] at h
    split at h
    · simp only [Bool.and_eq_true, decide_eq_true_eq] at h
      obtain ⟨⟨h1, h2⟩, h3⟩ := h
      obtain ⟨k, hr, g⟩ := c.fn _ _ h1
      obtain ⟨ha, hn⟩ := sndAs as c h3
      rename_i xs _
      refine .plain ?_ rfl
      match xs, ha, hn with
      | [], ha, hn =>
        have e0 : as = .nil := by
          cases as <;> first | rfl | (simp only [chkAs] at h3; first | cases h3 | (split at h3 <;> first | cases h3 | (rename_i z; cases z)))
        subst e0
        exact (callS0 g hr (c.gi h2) (giB_ok h2).2 c.tk).imp fun σ H Q h => by
          obtain ⟨M, js, ρ, cs, s, j, h⟩ := imp_call h
          simp only [evAs] at h
          exact h [] [] M H s Tr.refl .nil
      | x :: xs, ha, hn => exact (callS g hr (c.gi h2) (giB_ok h2).2 c.tk ha hn).imp fun σ H Q h => imp_call h
    · cases h
  | .bi o es, F, W, sc, X, e, c, h => by
    simp only [chkE] at h
    split at h
    · simp only [Bool.and_eq_true, decide_eq_true_eq] at h
      obtain ⟨⟨⟨rfl, h2⟩, h3⟩, h4⟩ := h
      rename_i xs _
      obtain ⟨ha, hn⟩ := sndEs es c h4
      refine .plain ?_ rfl
      match xs, h3, ha, hn with
      | x :: xs, _, ha, hn => exact s_bi o c.hc (c.gi h2) (c.nob _ (by cases o <;> decide)) ha hn
    · cases h
  | .isi a ts, F, W, sc, X, e, c, h => by
    simp only [chkE] at h
    split at h
    · split at h
      · simp only [Bool.and_eq_true, decide_eq_true_eq] at h
        obtain ⟨⟨⟨⟨⟨⟨⟨rfl, h2⟩, rfl⟩, h4⟩, h5⟩, h6⟩, h7⟩, h8⟩ := h
        exact .plain (s_isi1 (fun c hc => by subst hc; cases h5) (c.gi h2) (c.nob _ (by decide)) (c.gi h4) (c.nob _ h6) (sndE a c h8).1 h7) rfl
      · cases h
    · cases h
  | .mth i o es, F, W, sc, X, e, c, h => by
    simp only [chkE] at h
    split at h
    · simp only [Bool.and_eq_true, decide_eq_true_eq] at h
      obtain ⟨⟨⟨⟨⟨rfl, h2⟩, h3⟩, h4⟩, h5⟩, h6⟩ := h
      rename_i xs _
      obtain ⟨g1, g2, g3, g4⟩ := varB_ok h2
      obtain ⟨ha, hn⟩ := sndEs es c h6
      refine .plain ?_ rfl
      match xs, h4, h5, ha, hn, h6 with
      | [], h4, h5, ha, hn, h6 =>
        have := h4.mp rfl
        subst this
        have e0 : es = .nil := by
          cases es with
          | nil => rfl
          | cons a b => simp only [chkEs] at h6; cases h6
        subst e0
        exact s_pop (by rw [c.hN]; exact g1) (c.vis g2) g3 g4 h3
      | x :: xs, h4, h5, ha, hn, h6 =>
        exact s_mth (fun z => by have := h4.mpr z; cases this) (by rw [c.hN]; exact g1) (c.vis g2) g3 g4 ha (by unfold mFew; rw [hn, Bool.true_and]; exact decide_eq_true h5) h3
    · cases h
  | .callK f as pm, F, W, sc, X, e, c, h => by
    simp only [chkE] at h
    split at h
    · simp only [Bool.and_eq_true, decide_eq_true_eq] at h
      obtain ⟨⟨⟨h1, h2⟩, h3⟩, h4⟩ := h
      split at h4
      · rename_i ks hk
        rw [Bool.and_eq_true, decide_eq_true_eq, decide_eq_true_eq] at h4
        obtain ⟨k, hr, g⟩ := c.kb _ _ _ _ h4.1 h1
        exact .plain (s_callK (n := 0) (fun q => by rw [← h4.2]; exact as_len q) g hr (c.gi h2) (giB_ok h2).2 c.tk (sndKs as c h3) (kwN_ok hk).1 (kwN_ok hk).2) rfl
      · cases h4
    · cases h
  | .dic ss es, F, W, sc, X, e, c, h => by
    simp only [chkE] at h
    split at h
    · rename_i keys xs _
      simp only [Bool.and_eq_true, decide_eq_true_eq] at h
      obtain ⟨g1, g2, g3, g4⟩ := sndD es c h.1
      refine .plain ?_ rfl
      by_cases h0 : keys = []
      · subst h0
        have hx : xs = [] := by cases xs with | nil => rfl | cons _ _ => simp at g3
        subst hx
        obtain ⟨rfl, rfl⟩ := g4 rfl
        exact s_dic0
      · exact s_dic g1 g2 g3 h0 h.2
    · cases h
  | .mk .., F, W, sc, X, e, c, h => by simp only [chkE] at h; cases h
  | .fld a f, F, W, sc, X, e, c, h => by
    simp only [chkE] at h
    split at h
    · simp only [Bool.and_eq_true, decide_eq_true_eq] at h
      exact .plain (s_fld (sndE a c h.2).1 (c.at_ _ _ h.1.1) h.1.2) rfl
    · cases h
  | .rev a, F, W, sc, X, e, c, h => by
    simp only [chkE] at h
    split at h
    · exact .plain (s_rev (sndE a c h).1) rfl
    · cases h
  | .pm .., F, W, sc, X, e, c, h => by simp only [chkE] at h; cases h
theorem sndKs : ∀ (es : CAs) {F : Fx} {W : WX} {sc : Scope} {X : Cx} {xs : List Keyword}, XC T N F W sc X → chkKs T N sc es xs = true → PK X xs (trAs F X.K W es)
  | .nil, F, W, sc, X, xs, c, h => by
    simp only [chkKs] at h
    split at h
    · exact s_knil
    · cases h
  | .imm a as, F, W, sc, X, xs, c, h => by
    simp only [chkKs] at h
    split at h
    · simp only [Bool.and_eq_true] at h
      exact s_kcons (sndE a c h.1).1 (sndKs as c h.2)
    · cases h
  | .mv .., F, W, sc, X, xs, c, h => by simp only [chkKs] at h; cases h
  | .ml .., F, W, sc, X, xs, c, h => by simp only [chkKs] at h; cases h
theorem sndD : ∀ (es : CEs) {F : Fx} {W : WX} {sc : Scope} {X : Cx} {ss : List (List Nat)} {ks : List (Option Expr)} {xs : List Expr} {pos : Pos}, XC T N F W sc X → chkD T N sc es ss ks xs = true →
    (∃ trs, PPs X pos ks xs trs ∧ ∀ σ H Q, trP F X.K W ss es σ H Q → tPairs trs σ H Q) ∧ ks.all (·.isSome) = true ∧ ks.length = xs.length ∧ (ks = [] → ss = [] ∧ es = .nil)
  | .nil, F, W, sc, X, ss, ks, xs, pos, c, h => by
    simp only [chkD, Bool.and_eq_true, List.isEmpty_iff] at h
    obtain ⟨⟨rfl, rfl⟩, rfl⟩ := h
    exact ⟨s_pnil, rfl, rfl, fun _ => ⟨rfl, rfl⟩⟩
  | .cons a as, F, W, sc, X, ss, ks, xs, pos, c, h => by
    simp only [chkD] at h
    split at h
    · simp only [Bool.and_eq_true, decide_eq_true_eq] at h
      obtain ⟨⟨rfl, h2⟩, h3⟩ := h
      obtain ⟨g1, g2, g3, _⟩ := sndD as (pos := pos) c h3
      exact ⟨s_pcons (sndE a c h2).1 g1, by rw [List.all_cons, g2]; rfl, by simp [g3], fun z => by cases z⟩
    · cases h
theorem sndL : ∀ (c : CL) {F : Fx} {W : WX} {sc : Scope} {X : Cx} {e : Expr}, XC T N F W sc X → chkL T N sc c e = true → SndL F W X c e
  | .lst es, F, W, sc, X, e, c, h => by
    simp only [chkL] at h
    split at h
    · exact ⟨s_lst (sndEs es c h).1, rfl, .inl rfl⟩
    · cases h
  | .lc g own it ts a, F, W, sc, X, e, c, h => by
    simp only [chkL] at h
    split at h
    · rename_i elt tg iter ifs scope pos
      simp only [Bool.and_eq_true, List.all_eq_true] at h
      obtain ⟨⟨⟨⟨⟨⟨h1, h2⟩, h3⟩, h4⟩, h5⟩, h6⟩, h7⟩ := h
      have ok := blkOk_by h1
      have eo : ((own.map fun i => (N.getD i "", i)).map (·.2)) = own := by rw [List.map_map]; exact (List.map_congr_left fun _ _ => rfl).trans (List.map_id own)
      have hi : PI X tg iter (trI F X.K W it) := sndI it c h3
      have hix : ∀ i, i ∈ g.ixs → i ∈ own := fun i hi => by simpa using h7 i hi
      have hset : ∀ x, foldedSetIterable iter X.env x = pure x := by cases iter <;> first | (intro _; rfl) | cases h4
      have b : ∀ (J : JT) (st : JClo J) (s : Shared) (H : Hp) (C : Addr) (cl : List (PySem.Str × Addr)) (fp : List Addr), XC T N (F.wj J st) W0 (relS scope sc) (X.blk s H scope (compEnvC scope cl C X.env) fp) := fun J st s H C cl fp => c.blk J st scope s H C cl fp
      have hg := fun (s : Shared) (H : Hp) (C : Addr) (cl : List (PySem.Str × Addr)) (fp : List Addr) => sndG (b := false) g (b F.J F.st s H C cl fp) (fun z => by cases z) h2
      have ht := fun (J : JT) (st : JClo J) (s : Shared) (H : Hp) (C : Addr) (cl : List (PySem.Str × Addr)) (fp : List Addr) => sndTs ts (b J st s H C cl fp) h5
      have he := fun (J : JT) (st : JClo J) (s : Shared) (H : Hp) (C : Addr) (cl : List (PySem.Str × Addr)) (fp : List Addr) => (sndE a (b J st s H C cl fp) h6).1
      have ok' : BlkOk X.N X.env.scope scope (own.map fun i => (N.getD i "", i)) := by rw [c.hN, c.hs]; exact ok
      refine ⟨?_, rfl, .inr fun i y py spos hN hi' hl hsw => ?_⟩
      · obtain ⟨t', p, q⟩ := s_lc (W := W) (own := own) (g := g) (it := it) (ts := ts) (e := a) (t := fun te => PE X (.ListComp elt [⟨tg, iter, ifs, 0⟩] scope pos) te)
          (fun a1 a2 a3 a4 => by have := pe_lc (pos := pos) c.hc (by rw [c.hN]; exact c.nd) a1 ok' a2 a3 a4 hset; rw [eo] at this; exact this) hi hg ht he hix
        exact p.imp q
      · obtain ⟨t', p, q⟩ := s_lc (W := W) (own := own) (g := g) (it := it) (ts := ts) (e := a) (t := fun te => PS X (.Assign [.Name y py] (.ListComp elt [⟨tg, iter, ifs, 0⟩] scope pos) spos) (tAsg te (gName i)))
          (fun a1 a2 a3 a4 => by have := ps_setLc (pos := pos) (spos := spos) c.hc (by rw [c.hN]; exact c.nd) hi' hl hsw a1 ok' a2 a3 a4 hset; rw [eo] at this; exact this) hi hg ht he hix
        exact p.imp fun D σ H h => q _ _ _ h
    · cases h
  | .lof a, F, W, sc, X, e, c, h => by
    simp only [chkL] at h
    split at h
    · simp only [Bool.and_eq_true, decide_eq_true_eq] at h
      obtain ⟨⟨⟨rfl, h2⟩, h3⟩, h4⟩ := h
      exact ⟨s_lof (c.gi h2) (c.nob _ (by decide)) (sndE a c h4).1 h3, rfl, .inl rfl⟩
    · cases h
  | .call f as, F, W, sc, X, e, c, h => by
    simp only [chkL] at h
    split at h
    · simp only [Bool.and_eq_true, decide_eq_true_eq] at h
      obtain ⟨⟨h1, h2⟩, h3⟩ := h
      obtain ⟨k, hr, g⟩ := c.fn _ _ h1
      obtain ⟨ha, hn⟩ := sndAs as c h3
      rename_i xs _
      refine ⟨?_, rfl, .inl rfl⟩
      match xs, ha, hn with
      | [], ha, hn =>
        have e0 : as = .nil := by
          cases as <;> first | rfl | (simp only [chkAs] at h3; first | cases h3 | (split at h3 <;> first | cases h3 | (rename_i z; cases z)))
        subst e0
        exact (callS0 g hr (c.gi h2) (giB_ok h2).2 c.tk).imp fun σ H Q h => by
          obtain ⟨M, js, ρ, cs, s, j, h⟩ := imp_callL h
          simp only [evAs] at h
          exact h [] [] M H s Tr.refl .nil
      | x :: xs, ha, hn => exact (callS g hr (c.gi h2) (giB_ok h2).2 c.tk ha hn).imp fun σ H Q h => imp_callL h
    · cases h
theorem sndO : ∀ (c : CO) {F : Fx} {W : WX} {sc : Scope} {X : Cx} {e : Option Expr}, XC T N F W sc X → chkO T N sc c e = true → PO X e (trO F X.K W c)
  | .none, F, W, sc, X, e, c, h => by
    simp only [chkO] at h
    split at h
    · exact s_onone
    · cases h
  | .some a, F, W, sc, X, e, c, h => by
    simp only [chkO] at h
    split at h
    · exact s_osome (sndE a c h).1
    · cases h
theorem sndBo : ∀ (es : CEs) {F : Fx} {W : WX} {sc : Scope} {X : Cx} {xs : List Expr} {k : Bool} {pos : Pos}, XC T N F W sc X → chkBo T N sc es xs = true →
    PE X (.BoolOp (if k then .And else .Or) xs pos) (trE F X.K W (.bop k es)) ∧ (tstE.tstEs es = true → PW X (.BoolOp (if k then .And else .Or) xs pos) (trT F X.K W (.bop k es)))
  | .nil, F, W, sc, X, xs, k, pos, c, h => by simp only [chkBo] at h; cases h
  | .cons a as, F, W, sc, X, xs, k, pos, c, h => by
    simp only [chkBo] at h
    split at h
    · simp only [Bool.and_eq_true] at h
      obtain ⟨h1, h2⟩ := h
      obtain ⟨g1, g2⟩ := sndE a c h1
      split at h2
      · cases as with
        | nil => exact ⟨s_bop1 g1, fun t => s_bopT1 (g2 (by simp only [tstE.tstEs, Bool.and_eq_true] at t; exact t.1))⟩
        | cons _ _ => cases h2
      · cases as with
        | nil => simp only [chkBo] at h2; cases h2
        | cons d es =>
          obtain ⟨q1, q2⟩ := sndBo (.cons d es) (k := k) (pos := pos) c h2
          refine ⟨?_, fun t => ?_⟩
          · cases k with
            | true => exact s_and g1 q1
            | false => exact s_or g1 q1
          · rw [tstE.tstEs, Bool.and_eq_true] at t
            exact s_bopT (g2 t.1) (q2 t.2)
    · cases h
theorem sndEs : ∀ (es : CEs) {F : Fx} {W : WX} {sc : Scope} {X : Cx} {xs : List Expr}, XC T N F W sc X → chkEs T N sc es xs = true → PA X xs (trA F X.K W es) ∧ xs.all notStar = true
  | .nil, F, W, sc, X, xs, c, h => by
    simp only [chkEs] at h
    split at h
    · exact ⟨s_anil, rfl⟩
    · cases h
  | .cons a as, F, W, sc, X, xs, c, h => by
    simp only [chkEs] at h
    split at h
    · simp only [Bool.and_eq_true] at h
      obtain ⟨⟨h1, h2⟩, h3⟩ := h
      obtain ⟨g1, g2⟩ := sndEs as c h3
      exact ⟨s_acons (sndE a c h1).1 g1 h2, by rw [List.all_cons, h2, g2]; rfl⟩
    · cases h
theorem sndTs : ∀ (es : CEs) {F : Fx} {W : WX} {sc : Scope} {X : Cx} {xs : List Expr}, XC T N F W sc X → chkTs T N sc es xs = true → PTs X xs (trTs F X.K W es)
  | .nil, F, W, sc, X, xs, c, h => by
    simp only [chkTs] at h
    split at h
    · exact s_tsnil
    · cases h
  | .cons a as, F, W, sc, X, xs, c, h => by
    simp only [chkTs] at h
    split at h
    · simp only [Bool.and_eq_true] at h
      obtain ⟨⟨h1, h2⟩, h3⟩ := h
      cases as with
      | nil => exact s_tsone ((sndE a c h1).2 h2)
      | cons _ _ => cases h3
    · cases h
theorem sndAs : ∀ (es : CAs) {F : Fx} {W : WX} {sc : Scope} {X : Cx} {xs : List Expr}, XC T N F W sc X → chkAs T N sc es xs = true → PA X xs (trAs F X.K W es) ∧ xs.all notStar = true
  | .nil, F, W, sc, X, xs, c, h => by
    simp only [chkAs] at h
    split at h
    · exact ⟨s_asnil, rfl⟩
    · cases h
  | .imm a as, F, W, sc, X, xs, c, h => by
    simp only [chkAs] at h
    split at h
    · simp only [Bool.and_eq_true] at h
      obtain ⟨⟨h1, h2⟩, h3⟩ := h
      obtain ⟨g1, g2⟩ := sndAs as c h3
      exact ⟨s_asimm (sndE a c h1).1 g1 h2, by rw [List.all_cons, h2, g2]; rfl⟩
    · cases h
  | .mv i as, F, W, sc, X, xs, c, h => by
    simp only [chkAs] at h
    split at h
    · simp only [Bool.and_eq_true] at h
      obtain ⟨g1, g2⟩ := sndAs as c h.2
      obtain ⟨q1, q2, q3, q4⟩ := varB_ok h.1
      exact ⟨s_asmv (by rw [c.hN]; exact q1) (c.vis q2) q3 q4 g1, by rw [List.all_cons, g2]; rfl⟩
    · cases h
  | .ml a as, F, W, sc, X, xs, c, h => by
    simp only [chkAs] at h
    split at h
    · simp only [Bool.and_eq_true] at h
      obtain ⟨⟨h1, h2⟩, h3⟩ := h
      obtain ⟨g1, g2⟩ := sndAs as c h3
      exact ⟨s_asml (sndL a c h1).1 g1 h2, by rw [List.all_cons, h2, g2]; rfl⟩
    · cases h
theorem sndI : ∀ (it : CI) {F : Fx} {W : WX} {sc : Scope} {X : Cx} {tg e : Expr}, XC T N F W sc X → chkI T N sc it tg e = true → PI X tg e (trI F X.K W it)
  | .sq a, F, W, sc, X, tg, e, c, h => by
    simp only [chkI] at h
    exact s_isq (sndE a c h).1
  | .r1 a, F, W, sc, X, tg, e, c, h => by
    simp only [chkI] at h
    split at h
    · simp only [Bool.and_eq_true, decide_eq_true_eq] at h
      obtain ⟨⟨⟨rfl, h2⟩, h3⟩, h4⟩ := h
      exact s_ir1 (c.gi h2) (c.nob _ (by decide)) (sndE a c h4).1 h3
    · cases h
  | .r2 a b, F, W, sc, X, tg, e, c, h => by
    simp only [chkI] at h
    split at h
    · simp only [Bool.and_eq_true, decide_eq_true_eq] at h
      obtain ⟨⟨⟨⟨⟨rfl, h2⟩, h3⟩, h4⟩, h5⟩, h6⟩ := h
      exact s_ir2 (c.gi h2) (c.nob _ (by decide)) (sndE a c h5).1 (sndE b c h6).1 h3 h4
    · cases h
  | .en a, F, W, sc, X, tg, e, c, h => by
    simp only [chkI] at h
    split at h
    · simp only [Bool.and_eq_true, decide_eq_true_eq] at h
      obtain ⟨⟨⟨rfl, h2⟩, h3⟩, h4⟩ := h
      exact s_ien (c.gi h2) (c.nob _ (by decide)) (sndE a c h4).1 h3
    · cases h
  | .r3 .., F, W, sc, X, tg, e, c, h => by simp only [chkI] at h; cases h
  | .zp .., F, W, sc, X, tg, e, c, h => by simp only [chkI] at h; cases h
end
end
end Ev
set_option maxRecDepth 100000
set_option maxHeartbeats 4000000
/-! Ev18: the look at the text: statements -/
namespace Ev
open PySem L2 PyProof.Rows
/-- the context of a def's body -/
structure XS (T : Tb) (N : List PySem.Str) (F : Fx) (W : WX) (sc : Scope) (X : Cx) : Prop extends XC T N F W sc X where
  ps : PassesOwn (model X.prog X.w) X.A X.env X.xe
  fnT : ∀ x, X.fn x = true
  kd : sc.kind = .function
/-- a literal that the compiler may fold -/
def swapOk (env : PySem.Env) : Bool := true
section
variable (T : Tb) (N : List PySem.Str)
/-- y = [..] on one line, y a local -/
def swB (sc scope : Scope) (y : PySem.Str) (py pos : Pos) : Bool := locB sc y && (py.line == pos.line) && !(scope.names.any fun (n, k) => n == y && (k == .local || k == .cell))
def setLB (sc : Scope) (i : Nat) (c : CL) (x : PySem.Str) (py : Pos) (e : Expr) : Bool :=
  decide (N[i]? = some x) && lcB sc x && chkL T N sc c e && (match e with
    | .ListComp _ _ scope pos => swB sc scope x py pos || celB sc x
    | _ => noComp e)
/-- the pair of a tuple's parts, stored from the right -/
def fewC : CE → Bool
  | .none | .bool _ | .int _ | .str _ => false
  | .var _ => true
  | _ => false
mutual
def chkS (sc : Scope) : CS → Stmt → Bool
  | .ex a, s => match s with
    | .Expr e _ => noComp e && chkE T N sc a e
    | _ => false
  | .set t a, s => match s with
    | .Assign [.Name x py] e _ => (match t with
      | .nm i => decide (N[i]? = some x) && lcB sc x && (match a with
        | .l c => setLB T N sc i c x py e
        | _ => chkE T N sc a e && noComp e)
      | _ => false)
    | .Assign [.Tuple es k p] e _ => (match t with
      | .tp ts => notTupE e && noComp e && chkE T N sc a e && chkG N true sc (.tp ts) (.Tuple es k p)
      | _ => false)
    | _ => false
  | .setL i c, s => match s with
    | .Assign [.Name x py] e _ => setLB T N sc i c x py e
    | _ => false
  | .sti i a b, s => match s with
    | .Assign [.Subscript (.Name x _) ie _] e _ => varB N sc i x && notSlice ie && chkE T N sc a ie && chkE T N sc b e
    | _ => false
  | .stf i f a, s => match s with
    | .Assign [.Attribute (.Name x _) n _] e _ => varB N sc i x && decide (T.flds[f]? = some n) && chkE T N sc a e
    | _ => false
  | .aug i o a, s => match s with
    | .AugAssign (.Name x _) op e _ => decide (N[i]? = some x) && lcB sc x && decide (op = opOf o) && (match o with | .add => true | .sub => true | _ => false) && chkE T N sc a e
    | _ => false
  | .iff c a b, s => match s with
    | .If t x y _ => chkE T N sc c t && tstE c && chkSs sc a x && chkSs sc b y
    | _ => false
  | .fr g it b, s => match s with
    | .For tg iter body [] _ => chkG N true sc g tg && chkI T N sc it tg iter && notSet iter && chkSs sc b body
    | _ => false
  | .whl _ c b, s => match s with
    | .While t body [] _ => chkE T N sc c t && tstE c && chkSs sc b body
    | _ => false
  | .ret a, s => match s with
    | .Return (some e) _ => chkE T N sc a e
    | _ => false
  | .retL a, s => match s with
    | .Return (some e) _ => chkL T N sc a e
    | _ => false
  | .retN, s => match s with
    | .Return none _ => true
    | _ => false
  | .pass, s => match s with
    | .Pass _ => true
    | .Expr (.Constant (.str _) _ _) _ => true
    | _ => false
  | .brk, s => match s with
    | .Break _ => true
    | _ => false
  | .cnt, s => match s with
    | .Continue _ => true
    | _ => false
  | .stk, _ => true
  | _, _ => false
def chkSs (sc : Scope) : CSs → List Stmt → Bool
  | .nil, ss => match ss with
    | [] => true
    | _ => false
  | .cons s r, ss => match ss with
    | t :: ss => chkS sc s t && chkSs sc r ss
    | [] => false
  | .kill _ r, ss => chkSs sc r ss
end
end
section
variable {T : Tb} {N : List PySem.Str} {F : Fx} {W : WX} {sc : Scope} {X : Cx}
theorem XS.wj (c : XS T N F W sc X) (J : JT) (st : JClo J) : XS T N (F.wj J st) W sc X :=
  ⟨⟨c.hN, c.nd, c.hs, c.hc, c.hu, c.tk, c.nob, fun f x h => by
      obtain ⟨k, hr, g⟩ := c.fn f x h
      exact ⟨k, hr, ⟨g.at_⟩⟩, fun g x h => by
      obtain ⟨u, v, p, h1, h2, h3, h4⟩ := c.gl g x h
      exact ⟨u, v, p, h1, h2, h3, h4⟩, fun f x h => c.at_ f x h, fun f ks pm x h1 h2 => by
      obtain ⟨k, hr, a, fd, ps, h1, h2, h3, h4⟩ := c.kb f ks pm x h1 h2
      exact ⟨k, hr, a, fd, ps, h1, h2, h3, h4⟩⟩, c.ps, c.fnT, c.kd⟩
theorem s_stk {st : Stmt} : PS X st (trS F X.K W .stk) := ps_never.imp fun D σ H ⟨M, js, ρ, cs, s, j, h⟩ => h.elim
theorem setLB_ok {i : Nat} {cl : CL} {x : PySem.Str} {py pos : Pos} {e : Expr} (c : XS T N F W sc X) (h : setLB T N sc i cl x py e = true) : PS X (.Assign [.Name x py] e pos) (tAsg (trL F X.K W cl) (gName i)) := by
  unfold setLB at h
  simp only [Bool.and_eq_true, decide_eq_true_eq] at h
  obtain ⟨⟨⟨h1, h2⟩, h3⟩, h4⟩ := h
  have hl := lcB_ok h2
  rw [← c.hs] at hl
  obtain ⟨g1, _, g2⟩ := sndL cl c.toXC h3
  have hN : X.N.Nodup := by rw [c.hN]; exact c.nd
  have hi : X.N[i]? = some x := by rw [c.hN]; exact h1
  rcases g2 with g2 | g2
  · exact ps_set hN hi hl g1 (noSwap g2) (.inl (c.fnT x))
  · split at h4
    · rw [Bool.or_eq_true] at h4
      rcases h4 with h4 | h4
      · unfold swB at h4
        simp only [Bool.and_eq_true, Bool.not_eq_true'] at h4
        have hl := locB_ok h4.1.1
        rw [← c.hs] at hl
        exact g2 i x py pos hN hi hl (sw_true (by rw [c.hs]; exact c.kd) hl h4.1.2 h4.2)
      · have hc := celB_ok h4
        rw [← c.hs] at hc
        refine ps_set hN hi hl g1 ?_ (.inl (c.fnT x))
        unfold swapsWith
        dsimp only
        have : (X.env.kindOf x == some .local) = false := by
          unfold Env.kindOf
          rw [hc]
          rfl
        rw [this, Bool.and_false, Bool.false_and, Bool.false_and]
    · exact ps_set hN hi hl g1 (noSwap h4) (.inl (c.fnT x))
mutual
theorem sndS : ∀ (s : CS) {F : Fx} {W : WX} {sc : Scope} {X : Cx} {st : Stmt}, XS T N F W sc X → chkS T N sc s st = true → PS X st (trS F X.K W s)
  | .ex a, F, W, sc, X, st, c, h => by
    simp only [chkS] at h
    split at h
    · simp only [Bool.and_eq_true] at h
      exact s_expr (sndE a c.toXC h.2).1 h.1
    · cases h
  | .set t a, F, W, sc, X, st, c, h => by
    simp only [chkS] at h
    split at h
    · split at h
      · simp only [Bool.and_eq_true, decide_eq_true_eq] at h
        obtain ⟨⟨h1, h2⟩, h3⟩ := h
        have hl := lcB_ok h2
        rw [← c.hs] at hl
        split at h3
        · exact (setLB_ok c h3).imp fun D σ H h => imp_l (imp_set h)
        · simp only [Bool.and_eq_true] at h3
          exact s_set (by rw [c.hN]; exact c.nd) (by rw [c.hN]; exact h1) hl (.inl (c.fnT _)) (sndE a c.toXC h3.1).1 h3.2
      · cases h
    · split at h
      · simp only [Bool.and_eq_true] at h
        exact s_setT (sndE a c.toXC h.1.2).1 (sndG _ c.toXC (fun _ => c.fnT) h.2) h.1.1.1 h.1.1.2
      · cases h
    · cases h
  | .setL i cl, F, W, sc, X, st, c, h => by
    simp only [chkS] at h
    split at h
    · exact (setLB_ok c h).imp fun D σ H h => imp_setL h
    · cases h
  | .sti i a b, F, W, sc, X, st, c, h => by
    simp only [chkS] at h
    split at h
    · simp only [Bool.and_eq_true] at h
      obtain ⟨⟨⟨h1, h2⟩, h3⟩, h4⟩ := h
      obtain ⟨g1, g2, g3, g4⟩ := varB_ok h1
      exact s_sti (by rw [c.hN]; exact g1) (c.vis g2) g3 g4 (sndE a c.toXC h3).1 h2 (sndE b c.toXC h4).1
    · cases h
  | .aug i o a, F, W, sc, X, st, c, h => by
    simp only [chkS] at h
    split at h
    · simp only [Bool.and_eq_true, decide_eq_true_eq] at h
      obtain ⟨⟨⟨⟨h1, h2⟩, rfl⟩, h4⟩, h5⟩ := h
      have hl := lcB_ok h2
      rw [← c.hs] at hl
      exact s_aug (by cases o <;> first | exact .inl rfl | exact .inr rfl | cases h4) (by rw [c.hN]; exact c.nd) (by rw [c.hN]; exact h1) hl (.inl (c.fnT _)) (sndE a c.toXC h5).1
    · cases h
  | .iff t a b, F, W, sc, X, st, c, h => by
    simp only [chkS] at h
    split at h
    · simp only [Bool.and_eq_true] at h
      obtain ⟨⟨⟨h1, h2⟩, h3⟩, h4⟩ := h
      exact s_if ((sndE t c.toXC h1).2 h2) (sndSs a c h3) (sndSs b c h4)
    · cases h
  | .fr g it b, F, W, sc, X, st, c, h => by
    simp only [chkS] at h
    split at h
    · simp only [Bool.and_eq_true] at h
      obtain ⟨⟨⟨h1, h2⟩, h3⟩, h4⟩ := h
      exact s_for c.ps c.hc (sndI it c.toXC h2) (sndG g c.toXC (fun _ => c.fnT) h1) (fun J st => sndSs b (c.wj J st) h4) h3
    · cases h
  | .whl n t b, F, W, sc, X, st, c, h => by
    simp only [chkS] at h
    split at h
    · simp only [Bool.and_eq_true] at h
      obtain ⟨⟨h1, h2⟩, h3⟩ := h
      exact s_while c.ps (fun J st => (sndE t (c.wj J st).toXC h1).2 h2) fun J st => sndSs b (c.wj J st) h3
    · cases h
  | .ret a, F, W, sc, X, st, c, h => by
    simp only [chkS] at h
    split at h
    · exact s_ret (sndE a c.toXC h).1
    · cases h
  | .retL a, F, W, sc, X, st, c, h => by
    simp only [chkS] at h
    split at h
    · exact s_retL (sndL a c.toXC h).1
    · cases h
  | .retN, F, W, sc, X, st, c, h => by
    simp only [chkS] at h
    split at h
    · exact s_retN
    · cases h
  | .pass, F, W, sc, X, st, c, h => by
    simp only [chkS] at h
    split at h
    · exact s_pass
    · exact s_doc
    · cases h
  | .brk, F, W, sc, X, st, c, h => by
    simp only [chkS] at h
    split at h
    · exact s_brk
    · cases h
  | .cnt, F, W, sc, X, st, c, h => by
    simp only [chkS] at h
    split at h
    · exact s_cnt
    · cases h
  | .stk, F, W, sc, X, st, c, h => s_stk
  | .stf i f a, F, W, sc, X, st, c, h => by
    simp only [chkS] at h
    split at h
    · simp only [Bool.and_eq_true, decide_eq_true_eq] at h
      obtain ⟨⟨h1, h2⟩, h3⟩ := h
      obtain ⟨g1, g2, g3, g4⟩ := varB_ok h1
      exact s_stf (by rw [c.hN]; exact g1) (c.vis g2) g3 g4 (c.at_ _ _ h2) (sndE a c.toXC h3).1
    · cases h
  | .par .., F, W, sc, X, st, c, h => by simp only [chkS] at h; cases h
theorem sndSs : ∀ (s : CSs) {F : Fx} {W : WX} {sc : Scope} {X : Cx} {ss : List Stmt}, XS T N F W sc X → chkSs T N sc s ss = true → PSs X ss (trSs F X.K W s)
  | .nil, F, W, sc, X, ss, c, h => by
    simp only [chkSs] at h
    split at h
    · exact s_nil
    · cases h
  | .cons s r, F, W, sc, X, ss, c, h => by
    simp only [chkSs] at h
    split at h
    · simp only [Bool.and_eq_true] at h
      exact s_cons (sndS s c h.1) (sndSs r c h.2)
    · cases h
  | .kill is r, F, W, sc, X, ss, c, h => by
    simp only [chkSs] at h
    exact s_kill (sndSs r c h)
end
end
end Ev
set_option maxRecDepth 100000
set_option maxHeartbeats 4000000
/-! Ev19: defs -/
namespace Ev
open PySem L2 PyProof.Rows
/-- the parameters of a def -/
def psOf (a : Arguments) : List PySem.Str := a.args.map (·.arg)
def scB (N P : List PySem.Str) (sc : Scope) : Bool :=
  decide (sc.kind = .function) && !sc.isCoroutine && !sc.isGenerator && decide N.Nodup && decide (N.take P.length = P) && P.all (fun x => decide (sc.names.lookup x = some .local) || decide (sc.names.lookup x = some .cell)) && sc.names.all (fun y => !decide (y.2 = .free))
theorem scB_ok {N P : List PySem.Str} {sc : Scope} (h : scB N P sc = true) : FnScope N P sc := by
  unfold scB at h
  simp only [Bool.and_eq_true, Bool.not_eq_true', decide_eq_true_eq, List.all_eq_true, Bool.or_eq_true, decide_eq_false_iff_not] at h
  obtain ⟨⟨⟨⟨⟨⟨h1, h2⟩, h3⟩, h4⟩, h5⟩, h6⟩, h7⟩ := h
  exact ⟨h1, h2, h3, h4, h5, h6, h7⟩
def fnChk (T : Tb) (d : FnD) (r : He.DefD) (N : List PySem.Str) : Bool := scB N (psOf r.params) r.scope && decide (d.np = (psOf r.params).length) && decide (d.ns = N.length) && decide ((psOf r.params).length ≤ N.length) && chkSs T N r.scope d.body r.body
section
variable {P : Program} {w : World} {K : PySem.W.Frag} {mg : PySem.Str → Option Value} {base : Heap} {T : Tb} {G : Glob} {C : ClsA} {EC : EcA} {a : Nat → Addr}
/-- the def f of the text stands at a -/
structure DefAt (K : PySem.W.Frag) (T : Tb) (d : FnD) (a : Addr) (r : He.DefD) (N : List PySem.Str) (fd : FuncData) : Prop where
  fn : FunD K r.name r.qual r.params r.body r.scope [] [] a fd
  bd : Binds K fd (psOf r.params) []
  ck : fnChk T d r N = true
structure Prog (K : PySem.W.Frag) (mg : PySem.Str → Option Value) (T : Tb) (G : Glob) (C : ClsA) (EC : EcA) (a : Nat → Addr) : Prop where
  ok : ∀ f d, G.fns f = some d → ∃ r N fd, DefAt K T d (a f) r N fd
  nm : ∀ f x, T.fns[f]? = some x → ((∃ d, G.fns f = some d) ∧ mg x = some (.ref (a f))) ∨
    ∃ c i A ns di, G.fns f = none ∧ G.mks f = some (.cls c i) ∧ C c = some (A, ns) ∧ mg x = some (.ref A) ∧ L2.Mk K A (a i) ∧ G.fns i = some di
  at_ : ∀ f x, T.flds[f]? = some x → ∀ (c : Nat) (d : ClsD) (A : Addr) (ns : List PySem.Str), G.cls c = some d → C c = some (A, ns) → Cls K A ∧ ns.Nodup ∧ ns.length ≤ 999 ∧
    (∀ j, d.flds.idxOf? f = some j → NoAttr K A x ∧ ns[j]? = some x) ∧
    ∀ g, d.flds.idxOf? f = none → d.prps.lookup f = some g → ∃ p i di, PropOf K A x p (a i) ∧ G.fns g = none ∧ G.mks g = some (.prop i) ∧ G.fns i = some di
  nob : ∀ x, x ∈ nones → mg x = none
  gl : ∀ g x, T.gls[g]? = some x → ∃ (u : Value) (v : V) (p : Ev.P), mg x = some u ∧ RelV v u ∧ G.gls g = some p ∧ ∀ M H, RP C K M H v p
  kb : ∀ f ks pm x, (f, ks, pm) ∈ T.kbs → T.fns[f]? = some x → ∃ d r N fd, G.fns f = some d ∧ mg x = some (.ref (a f)) ∧ DefAt K T d (a f) r N fd ∧ KwB K fd (psOf r.params) ks pm
theorem rag_len {M : Addr → Prop} {H : Hp} : ∀ {us : List V} {as : List Arg} {js : List Addr}, RAg C K M H us as js → us.length = as.length ∧ js.length = (argCells as).length
  | _, _, _, .nil => ⟨rfl, rfl⟩
  | _, _, _, .imm _ r => ⟨by simp [(rag_len r).1], by simp [argCells, (rag_len r).2]⟩
  | _, _, _, .mu _ _ r => ⟨by simp [(rag_len r).1], by simp [argCells, (rag_len r).2]⟩
/-- the state at a def's entry -/
theorem rag_start {M : Addr → Prop} {H : Hp} : ∀ {us : List V} {as : List Arg} {js : List Addr} (n : Nat) (js0 : List Addr), RAg C K M H us as js → js0.length = n →
    (argEnv as n).length = us.length ∧ ∀ (i : Nat) (v : VP), (argEnv as n)[i]? = some (some v) → ∃ u, us[i]? = some u ∧ RV C K M (js0 ++ js) H u v
  | _, _, _, n, js0, .nil, _ => ⟨rfl, fun i v h => by simp [argEnv] at h⟩
  | _, _, _, n, js0, .imm r q, e => by
    obtain ⟨g1, g2⟩ := rag_start n js0 q e
    refine ⟨by simp [argEnv, g1], fun i v h => ?_⟩
    cases i with
    | zero => simp [argEnv] at h; subst h; exact ⟨_, rfl, r⟩
    | succ i => exact g2 i v (by simpa [argEnv] using h)
  | _, _, _, n, js0, .mu (a := a) (js := js) r m q, e => by
    obtain ⟨g1, g2⟩ := rag_start (n + 1) (js0 ++ [a]) q (by simp [e])
    refine ⟨by simp [argEnv, g1], fun i v h => ?_⟩
    cases i with
    | zero =>
      simp [argEnv] at h; subst h
      exact ⟨_, rfl, a, by rw [List.getElem?_append_right (by omega)]; simp [e], rfl⟩
    | succ i =>
      obtain ⟨u, h1, h2⟩ := g2 i v (by simpa [argEnv] using h)
      exact ⟨u, h1, by simpa using h2⟩
theorem rag_cells {M : Addr → Prop} {H : Hp} : ∀ {us : List V} {as : List Arg} {js : List Addr}, RAg C K M H us as js → ∀ (n : Nat) (a : Addr) (c : Cell), js[n]? = some a → (argCells as)[n]? = some c → RC C K M H a c
  | _, _, _, .nil, n, a, c, h1, h2 => by simp at h1
  | _, _, _, .imm _ r, n, a, c, h1, h2 => rag_cells r n a c h1 (by simpa [argCells] using h2)
  | _, _, _, .mu rc _ r, 0, a, c, h1, h2 => by simp [argCells] at h1 h2; subst h1 h2; exact rc
  | _, _, _, .mu _ _ r, n + 1, a, c, h1, h2 => rag_cells r n a c (by simpa using h1) (by simpa [argCells] using h2)
theorem start_get {N : List PySem.Str} {us : List V} {i : Nat} {u : V} (h : us[i]? = some u) : (L2.start N us)[i]? = some (some u) := by
  unfold L2.start
  have l := (List.getElem?_eq_some_iff.mp h).1
  rw [List.getElem?_append_left (by simpa using l), List.getElem?_map, h]
  rfl
/-- every def keeps its promise -/
theorem Prog.fn (p : Prog K mg T G C EC a) : ∀ (k f : Nat) (d : FnD), G.fns f = some d → ∀ (r : He.DefD) (N : List PySem.Str) (fd : FuncData), DefAt K T d (a f) r N fd → FnOk P w K mg base (L2.CX P w) k (a f) fd (psOf r.params) (SpE C EC K (evCall G k f))
  | 0, f, d, hd, rr, N, fd, _ => ⟨fun vs H Q E h => by obtain ⟨M, as, js, _, _, _, h⟩ := h; exact h.elim, fun A outer s H args us vs Q E _ _ _ _ h => by obtain ⟨M, as, js, _, _, _, h⟩ := h; exact h.elim⟩
  | k + 1, f, d, hd, rr, N, fd, DA => by
    have hc := DA.ck
    unfold fnChk at hc
    simp only [Bool.and_eq_true, decide_eq_true_eq] at hc
    obtain ⟨⟨⟨⟨h1, h2⟩, h3⟩, h4⟩, h5⟩ := hc
    have hS := scB_ok h1
    have ev : ∀ as, evCall G (k + 1) f as = runFn G (evCall G k) d as := fun as => by rw [evCall, hd]
    refine DA.fn.ok hS (fun vs H Q E h => ?_) fun cdv A outer s H vs Q E hr h => ?_
    · obtain ⟨M, as, js, _, _, r, h⟩ := h
      by_cases hl : as.length = d.np
      · rw [(rag_len r).1, hl, h2]
      · rw [ev, runFn, if_neg hl] at h; exact h.elim
    · obtain ⟨M, as, js, hdom, hnd, r, h⟩ := h
      rw [ev] at h
      unfold runFn at h
      obtain ⟨l1, l2⟩ := rag_len r
      by_cases hl : as.length = d.np
      case neg => rw [if_neg hl] at h; exact h.elim
      rw [if_pos hl] at h
      let F : Fx := ⟨C, EC, G, evCall G k, (argCells as).length, fun js' M' cs' H' => TrJ js M (argCells as) H js' M' cs' H', fun a t => a.trans t⟩
      let W : WX := fun cls d _ H => E cls d H
      refine ⟨trSs F K W d.body, sndSs (T := T) (N := N) d.body (sc := rr.scope) ⟨⟨rfl, hS.nd, rfl, rfl, ?_, ?_, p.nob, fun g x e => ?_, fun g x e => ?_, fun g x e => ?_, fun g ks pm x e1 e2 => ?_⟩, ?_, fun _ => rfl, hS.kind⟩ h5, ?_⟩
      · have := hr.un
        show (A.deeper _).units + 65 < cLine
        omega
      · exact takes_of rfl rfl rfl rfl
      · rcases p.nm g x e with ⟨⟨d', hd'⟩, hm⟩ | ⟨c, i, A, ns, di, n1, n2, n3, n4, n5, n6⟩
        · obtain ⟨r', N', fd', DA'⟩ := p.ok g d' hd'
          exact ⟨k, hr, ⟨.inl ⟨a g, fd', _, hm, DA'.fn.kp, DA'.bd, Prog.fn p k g d' hd' r' N' fd' DA'⟩⟩⟩
        · rcases (show k = 0 ∨ ∃ j, k = j + 1 by cases k with | zero => exact .inl rfl | succ j => exact .inr ⟨j, rfl⟩) with ek | ⟨j, ek⟩
          · exact ⟨k, hr, ⟨.inr (.inr ⟨A, n4, n5.kp, fun vs H Q E h => by
              obtain ⟨M, as, js, _, _, _, z⟩ := (show SpE C EC K (evCall G k g) vs H Q E from h)
              rw [ek] at z
              exact z⟩)⟩⟩
          · obtain ⟨r', N', fd', DA'⟩ := p.ok i di n6
            have ih := Prog.fn p j i di n6 r' N' fd' DA'
            exact ⟨k, hr, ⟨.inr (.inl ⟨A, a i, fd', _, j, _, ek, n4, n5, DA'.bd, ih, fun vs H Q E h => spe_mk n1 n2 n3 vs H Q E (by
              have h' : SpE C EC K (evCall G k g) vs H Q E := h
              rw [ek] at h'
              exact h')⟩)⟩⟩
      · exact p.gl g x e
      · intro c d' A ns h1 h2
        obtain ⟨q1, q2, q3, q4, q5⟩ := p.at_ g x e c d' A ns h1 h2
        refine ⟨q1, q2, q3, q4, fun f' e1 e2 => ?_⟩
        obtain ⟨pp, i, di, w1, w2, w3, w4⟩ := q5 f' e1 e2
        rcases (show k = 0 ∨ ∃ j, k = j + 1 by cases k with | zero => exact .inl rfl | succ j => exact .inr ⟨j, rfl⟩) with ek | ⟨j, ek⟩
        · refine .inl fun vs H Q E h => ?_
          obtain ⟨M, as, js, _, _, _, z⟩ := (show SpE C EC K (evCall G k f') vs H Q E from h)
          rw [ek] at z
          exact z
        · obtain ⟨r', N', fd', DA'⟩ := p.ok i di w4
          have ih := Prog.fn p j i di w4 r' N' fd' DA'
          refine .inr ⟨pp, a i, fd', _, j, _, w1, ih, by rw [← ek]; exact hr, DA'.bd, fun vs H Q E h => ?_⟩
          have ee : evCall G k f' = evCall G j i := by
            funext as
            rw [ek, evCall, w2, w3]
          show SpE C EC K (evCall G j i) vs H Q E
          rw [← ee]
          exact h
      · obtain ⟨d', r', N', fd', hd', hm, DA', kw⟩ := p.kb g ks pm x e1 e2
        exact ⟨k, hr, a g, fd', _, hm, DA'.fn.kp, kw, Prog.fn p k g d' hd' r' N' fd' DA'⟩
      · exact passes_of (K := fun e s'' => L2.CX P w outer H s E e s'') rfl
      · obtain ⟨e1, e2⟩ := rag_start 0 [] r rfl
        have s0 : SR C K M js (argEnv as 0 ++ List.replicate (d.ns - d.np) none) (argCells as) (L2.start N vs) H := by
          refine ⟨hdom, fun i v h => ?_, ?_, l2, hnd, fun n a c h1 h2 => rag_cells r n a c h1 h2⟩
          · by_cases hi : i < (argEnv as 0).length
            · rw [List.getElem?_append_left hi] at h
              obtain ⟨u, g1, g2⟩ := e2 i v h
              exact ⟨u, start_get g1, g2⟩
            · rw [List.getElem?_append_right (by omega), List.getElem?_replicate] at h
              split at h <;> simp at h
          · unfold L2.start
            rw [List.length_append, List.length_append, List.length_map, List.length_replicate, List.length_replicate, e1, l1, hl, h3, h2]
        refine ⟨M, js, _, argCells as, s0, (Tr.refl (M := M) (js := js) (cs := argCells as) (H := H)).j s0, ?_⟩
        show SatS F K W js M (argCells as) H _ (evSs G (evCall G k) (argCells as).length d.body _ _)
        have owj : ∀ b, Ow js (argCells as) b → b ∈ js := fun b ⟨n, c, g, _, _⟩ => List.mem_of_getElem? g
        have fin : ∀ {js' M' cs' H' ρ' σ'}, SR C K M' js' ρ' cs' σ' H' → TrJ js M (argCells as) H js' M' cs' H' → EndR C K M js H M' (cs'.take (argCells as).length) H' := fun {js' M' cs' H' ρ' σ'} s' t => by
          obtain ⟨l, e, _⟩ := t.pre
          have len : js'.length = cs'.length := s'.len
          refine ⟨t.keep.mono owj, s'.dom, t.sub, fun b q => ?_, ?_, fun n a c g1 g2 => ?_⟩
          · rcases t.sup b q with z | z | z
            · exact .inl z
            · exact .inr (owj b z)
            · exact (hdom b q z).elim
          · rw [List.length_take, ← len, e, List.length_append, l2]; omega
          · have ln : n < js.length := (List.getElem?_eq_some_iff.mp g1).1
            rw [List.getElem?_take_of_lt (by omega)] at g2
            exact s'.cel n a c (by rw [e, List.getElem?_append_left ln]; exact g1) g2
        revert h
        generalize evSs G (evCall G k) (argCells as).length d.body (argEnv as 0 ++ List.replicate (d.ns - d.np) none) (argCells as) = res
        cases res with
        | stk => exact fun h => h
        | bk ρ' cs' => exact fun h => h.elim
        | ct ρ' cs' => exact fun h => h.elim
        | nx ρ' cs' =>
          intro h σ' M' js' H' s' t'
          exact h .non M' H' (fin s' t') (fun _ => .none) fun z => by cases z
        | rt x own cs' =>
          intro h u M' js' H' s' t' rv
          refine h u M' H' (fin s' t') rv.1 fun z => ?_
          obtain ⟨a, us, xs, g1, g2, g3, g4, g5, g6⟩ := rv.2 z
          refine ⟨a, us, xs, g1, g2, g6.elim id fun ⟨n, hn, hj⟩ => ?_, g3, g4, g5⟩
          obtain ⟨l, e, f⟩ := t'.pre
          rw [e, List.getElem?_append_right (by rw [l2]; exact hn)] at hj
          exact f a (List.mem_of_getElem? hj)
        | exc c fs ρ' cs' =>
          intro h σ' js' cls dd M' H' s' t' ex
          exact h cls dd M' H' (fin s' t') ex
termination_by k => k
decreasing_by all_goals omega
end
end Ev
set_option maxRecDepth 100000
set_option maxHeartbeats 4000000
/-! Ev20: a law's data, its end -/
namespace Ev
open PySem L2 PyProof.Rows
structure LawD where
  fn : List He.DefD         -- the defs, by their ids; at a class's id its __init__ once more
  ev : List (Option FnD)    -- their core texts (none: a class), then those of pf
  Ns : List (List PySem.Str)
  T : Tb
  gv : List P
  pf : List He.DefD := []   -- the getters of properties
  mks : List (Nat × MkD) := []
  cl : List ClsD := []
def LawD.fns (L : LawD) (f : Nat) : Option FnD := match L.ev[f]? with
  | some (some d) => some d
  | _ => none
def LawD.G (L : LawD) : Glob := ⟨L.fns, fun c => L.cl[c]?, fun g => L.gv[g]?, fun f => L.mks.lookup f⟩
def LawD.fname (L : LawD) (f : Nat) : PySem.Str := L.T.flds.getD f ""
def LawD.C (L : LawD) (K : PySem.W.Frag) : ClsA := fun c => match L.cl[c]?, L.T.cls[c]? with
  | some d, some x => some (He.ga K x, d.flds.map L.fname)
  | _, _ => none
/-! getters of properties -/
def pAd (K : PySem.W.Frag) (p : PySem.Str × Option PySem.Str) : Addr := match PySem.W.findIn K (.ref (He.ga K p.1)) (p.2.getD "") with
  | some (some (.ref a)) => (match PySem.W.recIn K a "property" with
    | some (.ref g :: _) => g
    | _ => 0)
  | _ => 0
def propB (K : PySem.W.Frag) (p : PySem.Str × Option PySem.Str) : Bool := match PySem.W.findIn K (.ref (He.ga K p.1)) (p.2.getD "") with
  | some (some (.ref a)) => He.eqO (PySem.W.specialIn K (.ref a) "__get__") (some (some (.builtin "property.__get__"))) && decide (PySem.W.takesIn K (.ref a) = some true) && (match PySem.W.recIn K a "property" with
    | some (.ref _ :: _) => true
    | _ => false)
  | _ => false
theorem propB_ok {K : PySem.W.Frag} {x n : PySem.Str} (h : propB K (x, some n) = true) : ∃ p, PropOf K (He.ga K x) n p (pAd K (x, some n)) := by
  unfold propB at h
  have e : pAd K (x, some n) = match PySem.W.findIn K (.ref (He.ga K x)) n with
    | some (some (.ref a)) => (match PySem.W.recIn K a "property" with
      | some (.ref g :: _) => g
      | _ => 0)
    | _ => 0 := rfl
  rw [e]
  split at h
  · rename_i a ha
    simp only [Bool.and_eq_true, decide_eq_true_eq] at h
    obtain ⟨⟨h1, h2⟩, h3⟩ := h
    have ha : PySem.W.findIn K (.ref (He.ga K x)) n = some (some (.ref a)) := ha
    split at h3
    · rename_i g r hr
      rw [ha]
      dsimp only
      rw [hr]
      exact ⟨a, ha, He.eqO_ok h1, h2, r, hr⟩
    · cases h3
  · cases h
def fnWA (K : PySem.W.Frag) (a : Addr) : He.FnW := match K.lookup a with
  | some ⟨_, _, .func fd, _⟩ => some (fd.name, fd.qualname, fd.params, fd.body, fd.scope, fd.globals, fd.closure, fd.builtins)
  | _ => none
def okA (K : PySem.W.Frag) (a : Addr) (d : He.DefD) : Bool := PySem.W.keepIn K (.ref a) && (match K.lookup a with
  | some ⟨_, _, .func fd, _⟩ => PySem.W.codeIn K fd.code d.qual && (He.dflB K fd.defaults (d.dvs K) && He.kwdB K fd.kwdefaults (d.kws K))
  | _ => false)
theorem funDA {K : PySem.W.Frag} {d : He.DefD} {a : Addr} (e : fnWA K a = d.val) (c : okA K a d = true) : ∃ fd, FunD K d.name d.qual d.params d.body d.scope (d.dvs K) (d.kws K) a fd := by
  obtain ⟨kp, c2⟩ := He.ba c
  unfold fnWA at e
  cases q : K.lookup a with
  | none =>
    rw [q] at c2
    cases c2
  | some o =>
    obtain ⟨oc, od, dt, osl⟩ := o
    rw [q] at c2 e
    cases dt with
    | func fd =>
      obtain ⟨n1, n2, n3, n4, n5, n6, n7, n8, n9, n10, n11, n12, n13, n14, n15⟩ := fd
      have e2 : (some (n1, n2, n3, n4, n5, n6, n7, n15) : He.FnW) = some (d.name, d.qual, d.params, .stmts d.body, d.scope, mainGlobals, [], builtinsNs) := e
      simp only [Option.some.injEq, Prod.mk.injEq] at e2
      obtain ⟨h1, h2, h3, h4, h5, h6, h7, h8⟩ := e2
      subst h1 h2 h3 h4 h5 h6 h7 h8
      have c3 : (PySem.W.codeIn K n13 d.qual && (He.dflB K n8 (d.dvs K) && He.kwdB K n9 (d.kws K))) = true := c2
      obtain ⟨k1, k2⟩ := He.ba c3
      obtain ⟨k3, k4⟩ := He.ba k2
      exact ⟨_, ⟨oc, od, n8, n9, n10, n11, n12, n13, n14, osl, rfl, q, k1, He.dflB_ok k3, He.kwdB_ok k4⟩, kp⟩
    | _ => cases c2
/-! a value of the top -/
mutual
def gvB (K : PySem.W.Frag) : P → Value → Bool
  | .none, u => match u with
    | .none => true
    | _ => false
  | .bool b, u => match u with
    | .bool c => decide (b = c)
    | _ => false
  | .int b, u => match u with
    | .int c _ => decide (b = c)
    | _ => false
  | .str s, u => match u with
    | .str x _ => decide (x = mkS s) && s.all (fun c => decide (c < 0x110000)) && decide (s.length ≤ SZ)
    | _ => false
  | .tup xs, u => match u with
    | .ref a => (match K.lookup a with
      | some ⟨.type c, _, .seq its _, _⟩ => decide (c = "tuple") && decide (its.size ≤ sizeLine) && gvsB K xs its.toList
      | _ => false)
    | _ => false
  | _, _ => false
def gvsB (K : PySem.W.Frag) : List P → List Value → Bool
  | [], us => us.isEmpty
  | x :: xs, us => match us with
    | u :: us => gvB K x u && gvsB K xs us
    | [] => false
end
mutual
theorem gvB_ok {K : PySem.W.Frag} {C : ClsA} : ∀ {p : P} {u : Value}, gvB K p u = true → ∃ v, RelV v u ∧ ∀ M H, RP C K M H v p
  | .none, u, h => by
    simp only [gvB] at h
    split at h
    · exact ⟨.non, rfl, fun _ _ => .none⟩
    · cases h
  | .bool b, u, h => by
    simp only [gvB] at h
    split at h
    · simp only [decide_eq_true_eq] at h; subst h
      exact ⟨.bl b, rfl, fun _ _ => .bool b⟩
    · cases h
  | .int b, u, h => by
    simp only [gvB] at h
    split at h
    · simp only [decide_eq_true_eq] at h; subst h
      exact ⟨.int b, ⟨_, rfl⟩, fun _ _ => .int b⟩
    · cases h
  | .str s, u, h => by
    simp only [gvB] at h
    split at h
    · simp only [Bool.and_eq_true, decide_eq_true_eq] at h
      obtain ⟨⟨rfl, h2⟩, h3⟩ := h
      exact ⟨.str (mkS s), ⟨_, rfl⟩, fun _ _ => .str s (by rw [strOk_iff]; exact h2) h3⟩
    · cases h
  | .tup xs, u, h => by
    simp only [gvB] at h
    split at h
    · split at h
      · rename_i a _ c _ its _ _ hl
        simp only [Bool.and_eq_true, decide_eq_true_eq] at h
        obtain ⟨⟨rfl, h2⟩, h3⟩ := h
        obtain ⟨vs, g1, g2⟩ := gvsB_ok (C := C) h3
        exact ⟨.ref a, rfl, fun M H => .tup (.inr ⟨_, its, _, hl, rfl, rfl, h2, g1⟩) (g2 M H)⟩
      · cases h
    · cases h
  | .lst _, u, h => by simp only [gvB] at h; cases h
  | .dic _ _, u, h => by simp only [gvB] at h; cases h
  | .ins _ _, u, h => by simp only [gvB] at h; cases h
  | .scr _, u, h => by simp only [gvB] at h; cases h
theorem gvsB_ok {K : PySem.W.Frag} {C : ClsA} : ∀ {p : List P} {u : List Value}, gvsB K p u = true → ∃ v, Vals v u ∧ ∀ M H, RPs C K M H v p
  | [], us, h => by
    cases us with
    | nil => exact ⟨[], .nil, fun _ _ => .nil⟩
    | cons _ _ => cases h
  | x :: xs, us, h => by
    simp only [gvsB] at h
    split at h
    · rw [Bool.and_eq_true] at h
      obtain ⟨v, g1, g2⟩ := gvB_ok (C := C) h.1
      obtain ⟨vs, g3, g4⟩ := gvsB_ok (C := C) h.2
      exact ⟨v :: vs, .cons g1 g3, fun M H => .cons (g2 M H) (g4 M H)⟩
    · cases h
end
def LawD.clB (L : LawD) (K : PySem.W.Frag) : Bool := (List.range L.cl.length).all fun c => match L.cl[c]?, L.T.cls[c]? with
  | some d, some x => (He.Fa.glo x).ok K && ((He.Fa.cls x).ok K && ((He.Fa.mkr x).ok K && ((d.flds.all fun f => (He.Fa.noat x (L.fname f)).ok K) && (d.prps.all fun q => propB K (x, some (L.fname q.1))))))
  | _, _ => false
def LawD.exB (L : LawD) (K : PySem.W.Frag) : Bool := (((List.range L.T.fns.length).all fun f => match L.T.fns[f]?, L.ev[f]? with
    | some x, some (some _) => (He.Fa.glo x).ok K
    | _, _ => true) && (nones.all fun x => (He.Fa.free x).ok K) && L.clB K && (L.pf.all fun d => okA K (pAd K d.at_) d)) &&
  (List.range L.T.gls.length).all fun g => match L.T.gls[g]?, L.gv[g]? with
    | some x, some p => (match PySem.W.nsIn K mainGlobals x with
      | some (some u) => gvB K p u
      | _ => false)
    | _, _ => false
def LawD.df (L : LawD) (f : Nat) : Option He.DefD := if f < L.fn.length then L.fn[f]? else L.pf[f - L.fn.length]?
/-- the look at the text -/
def LawD.chk (L : LawD) : Bool := ((List.range L.ev.length).all fun f => match L.ev[f]?, L.df f, L.Ns[f]? with
    | some (some d), some r, some N => fnChk L.T d r N && r.dfl.isEmpty && r.kwd.isEmpty
    | some none, _, _ => true
    | _, _, _ => false) &&
  ((List.range L.T.fns.length).all fun f => match L.T.fns[f]?, L.fn[f]?, L.ev[f]? with
    | some x, some r, some (some _) => decide (r.at_ = (x, none))
    | some x, _, some none => (match L.mks.lookup f with
      | some (.cls c i) => decide (L.T.cls[c]? = some x) && decide (c < L.cl.length) && (match L.fn[i]?, L.ev[i]? with
        | some r, some (some _) => decide (r.at_ = (x, some ("__init__" : PySem.Str)))
        | _, _ => false)
      | _ => false)
    | _, _, _ => false) &&
  (List.range L.cl.length).all fun c => match L.cl[c]?, L.T.cls[c]? with
    | some d, some x => decide (d.flds.map L.fname).Nodup && decide (d.flds.length ≤ 999) && d.prps.all fun q => match L.mks.lookup q.2 with
      | some (.prop i) => decide (L.ev.length ≤ q.2) && decide (L.fn.length ≤ i) && (match L.ev[i]?, L.pf[i - L.fn.length]? with
        | some (some _), some r => decide (r.at_ = (x, some (L.fname q.1)))
        | _, _ => false)
      | _ => false
    | _, _ => false
/-- how a def's arguments bind -/
def BindP (d : He.DefD) : Prop := ∀ (kV doc pm : Value) (an : Option Addr) (cdv ct : Value) (us : List Value), us.length = (psOf d.params).length → bindArgs (PySem.W.fnOf d.name d.qual d.params d.body d.scope .none kV doc pm an cdv ct) ⟨us, []⟩ = pure ((psOf d.params).zip us)
def BindA : List He.DefD → Prop
  | [] => True
  | d :: r => BindP d ∧ BindA r
theorem BindA.at {d : He.DefD} : ∀ {l : List He.DefD} {i : Nat}, BindA l → l[i]? = some d → BindP d
  | [], _, _, h => by simp at h
  | _ :: _, 0, h, e => by simp at e; subst e; exact h.1
  | _ :: _, i + 1, h, e => BindA.at h.2 (by simpa using e)
/-- how keywords bind -/
def KwP (L : LawD) (q : Nat × List PySem.Str × List Nat) : Prop := ∃ d, L.fn[q.1]? = some d ∧ (∃ e, L.ev[q.1]? = some (some e)) ∧ ∀ (kV doc pm : Value) (an : Option Addr) (cdv ct : Value) (ws : List Value), ws.length = q.2.1.length → bindArgs (PySem.W.fnOf d.name d.qual d.params d.body d.scope .none kV doc pm an cdv ct) ⟨[], q.2.1.zip ws⟩ = pure ((psOf d.params).zip (perm q.2.2 ws))
def KwA (L : LawD) : List (Nat × List PySem.Str × List Nat) → Prop
  | [] => True
  | q :: r => KwP L q ∧ KwA L r
theorem KwA.at {L : LawD} {q : Nat × List PySem.Str × List Nat} : ∀ {l : List (Nat × List PySem.Str × List Nat)}, KwA L l → q ∈ l → KwP L q
  | [], _, h => by simp at h
  | _ :: _, h, e => by
    rcases List.mem_cons.mp e with rfl | e
    · exact h.1
    · exact KwA.at h.2 e
def LawD.adr (L : LawD) (K : PySem.W.Frag) (f : Nat) : Addr := if f < L.fn.length then (match L.fn[f]? with
  | some r => He.fAd K r.at_
  | none => 0) else (match L.pf[f - L.fn.length]? with
  | some r => pAd K r.at_
  | none => 0)
theorem fns_ev {L : LawD} {f : Nat} {d : FnD} (h : L.G.fns f = some d) : L.ev[f]? = some (some d) := by
  have h : L.fns f = some d := h
  unfold LawD.fns at h
  split at h
  · rename_i e; cases h; exact e
  · cases h
theorem ev_fns {L : LawD} {f : Nat} {d : FnD} (h : L.ev[f]? = some (some d)) : L.G.fns f = some d := by
  show L.fns f = some d
  unfold LawD.fns
  rw [h]
def LawD.pfs (L : LawD) (K : PySem.W.Frag) : Prop := L.pf.map (fun d => fnWA K (pAd K d.at_)) = L.pf.map He.DefD.val
section
variable {L : LawD} {K : PySem.W.Frag} {h : Heap} {mg : PySem.Str → Option Value} {fa : List He.Fa} {C : ClsA} {EC : EcA}
theorem LawD.defAt (c : He.SaysD fa L.fn K) (pc : L.pfs K) (ex : L.exB K = true) (ck : L.chk = true) (hb : BindA (L.fn ++ L.pf)) {f : Nat} {d : FnD} (hd : L.G.fns f = some d) : ∃ r N fd, L.df f = some r ∧ DefAt K L.T d (L.adr K f) r N fd ∧ ∀ (s : Shared) (us : List Value), us.length = (psOf r.params).length → BindsTo s fd ⟨us, []⟩ ((psOf r.params).zip us) := by
  have hd := fns_ev hd
  unfold LawD.chk at ck
  rw [Bool.and_eq_true, Bool.and_eq_true, List.all_eq_true, List.all_eq_true] at ck
  have := ck.1.1 f (List.mem_range.mpr (List.getElem?_eq_some_iff.mp hd).1)
  rw [hd] at this
  split at this
  · rename_i d' r N e1 e2 e3
    cases e1
    simp only [Bool.and_eq_true, List.isEmpty_iff] at this
    obtain ⟨⟨h1, h2⟩, h3⟩ := this
    have key : ∃ fd, FunD K r.name r.qual r.params r.body r.scope (r.dvs K) (r.kws K) (L.adr K f) fd ∧ BindP r := by
      unfold LawD.df at e2
      unfold LawD.adr
      split at e2
      · rename_i hlt
        rw [if_pos hlt, e2]
        obtain ⟨fd, F⟩ := c.def_ f e2
        exact ⟨fd, F, hb.at (i := f) (by rw [List.getElem?_append_left hlt]; exact e2)⟩
      · rename_i hlt
        rw [if_neg hlt, e2]
        unfold LawD.exB at ex
        simp only [Bool.and_eq_true] at ex
        have ok := List.all_eq_true.mp ex.1.2 r (List.mem_of_getElem? e2)
        have ev : fnWA K (pAd K r.at_) = r.val := by
          have z := congrArg (fun l => l[f - L.fn.length]?) pc
          simpa [List.getElem?_map, e2] using z
        obtain ⟨fd, F⟩ := funDA ev ok
        exact ⟨fd, F, hb.at (i := f) (by rw [List.getElem?_append_right (Nat.le_of_not_lt hlt)]; exact e2)⟩
    obtain ⟨fd, F, B⟩ := key
    have F' : FunD K r.name r.qual r.params r.body r.scope [] [] (L.adr K f) fd := by
      have := F
      unfold He.DefD.dvs He.DefD.kws at this
      rw [h2, h3] at this
      exact this
    exact ⟨r, N, fd, e2, ⟨F', F'.bindsN B, h1⟩, fun s us hl => F'.bindsA B s us hl⟩
  · rename_i e1; cases e1
  · cases this
theorem adr_fn {f : Nat} {r : He.DefD} (h : L.fn[f]? = some r) : L.adr K f = He.fAd K r.at_ := by
  unfold LawD.adr
  rw [if_pos (List.getElem?_eq_some_iff.mp h).1, h]
theorem df_fn {f : Nat} {r : He.DefD} (h : L.fn[f]? = some r) : L.df f = some r := by
  unfold LawD.df
  rw [if_pos (List.getElem?_eq_some_iff.mp h).1, h]
theorem idx_at {l : List Nat} {f j : Nat} (h : l.idxOf? f = some j) : l[j]? = some f := by
  rw [List.idxOf?, List.findIdx?_eq_some_iff_getElem] at h
  obtain ⟨h1, h2, _⟩ := h
  rw [List.getElem?_eq_getElem h1]
  simp only [beq_iff_eq] at h2
  rw [h2]
theorem lookup_mem {l : List (Nat × Nat)} {f g : Nat} (h : l.lookup f = some g) : (f, g) ∈ l := by
  induction l with
  | nil => cases h
  | cons q r ih =>
    obtain ⟨a, b⟩ := q
    rw [List.lookup] at h
    split at h
    · rename_i e
      cases h
      rw [beq_iff_eq] at e
      subst e
      simp
    · exact List.mem_cons_of_mem _ (ih h)
theorem LawD.prog (X : K.In h) (hG : h.Ns mainGlobals mg) (c : He.SaysD fa L.fn K) (pc : L.pfs K) (ex : L.exB K = true) (ck : L.chk = true) (hb : BindA (L.fn ++ L.pf)) (hk : KwA L L.T.kbs) : Prog K mg L.T L.G (L.C K) EC (L.adr K) := by
  have ck' := ck
  unfold LawD.chk at ck'
  rw [Bool.and_eq_true, Bool.and_eq_true, List.all_eq_true, List.all_eq_true, List.all_eq_true] at ck'
  have ex' := ex
  unfold LawD.exB at ex'
  rw [Bool.and_eq_true, Bool.and_eq_true, Bool.and_eq_true, Bool.and_eq_true, List.all_eq_true, List.all_eq_true, List.all_eq_true, List.all_eq_true] at ex'
  obtain ⟨⟨⟨⟨x1, x2⟩, x4⟩, x5⟩, x3⟩ := ex'
  unfold LawD.clB at x4
  rw [List.all_eq_true] at x4
  have glo : ∀ f x d, L.T.fns[f]? = some x → L.ev[f]? = some (some d) → mg x = some (.ref (He.ga K x)) := fun f x d hx hd => by
    have := x1 f (List.mem_range.mpr (List.getElem?_eq_some_iff.mp hx).1)
    rw [hx, hd] at this
    exact He.glo_ok X hG this
  refine ⟨fun f d hd => ?_, fun f x hx => ?_, fun f x hx c d A ns hc hC => ?_, fun x hx => He.free_ok X hG (x2 x hx), fun g x hx => ?_, fun f ks pm x hq hx => ?_⟩
  · obtain ⟨r, N, fd, _, h1, _⟩ := LawD.defAt c pc ex ck hb hd
    exact ⟨r, N, fd, h1⟩
  · have := ck'.1.2 f (List.mem_range.mpr (List.getElem?_eq_some_iff.mp hx).1)
    rw [hx] at this
    split at this
    · rename_i x' r d e1 e2 e3
      cases e1
      simp only [decide_eq_true_eq] at this
      refine .inl ⟨⟨d, ev_fns e3⟩, ?_⟩
      rw [adr_fn e2, this]
      exact glo f x d hx e3
    · rename_i x' e1 e3
      cases e1
      split at this
      · rename_i c i hmk
        rw [Bool.and_eq_true, Bool.and_eq_true, decide_eq_true_eq, decide_eq_true_eq] at this
        obtain ⟨⟨h1, h2⟩, h3⟩ := this
        split at h3
        · rename_i r d' g1 g2
          rw [decide_eq_true_eq] at h3
          have q := x4 c (List.mem_range.mpr h2)
          rw [h1] at q
          split at q
          · rename_i d x' w1 w2
            cases w2
            simp only [Bool.and_eq_true] at q
            obtain ⟨q1, q2, q3, q4, q5⟩ := q
            have nf : L.G.fns f = none := by
              show L.fns f = none
              unfold LawD.fns
              rw [e3]
            refine .inr ⟨c, i, He.ga K x, d.flds.map L.fname, d', nf, hmk, by unfold LawD.C; rw [w1, h1], He.glo_ok X hG q1, ?_, ev_fns g2⟩
            rw [adr_fn g1, h3]
            exact He.mkr_ok q3
          · cases q
        · cases h3
      · cases this
    · cases this
  · have hc : L.cl[c]? = some d := hc
    unfold LawD.C at hC
    rw [hc] at hC
    split at hC
    · rename_i d' x' w1 w2
      cases w1
      simp only [Option.some.injEq, Prod.mk.injEq] at hC
      obtain ⟨rfl, rfl⟩ := hC
      have lc := (List.getElem?_eq_some_iff.mp hc).1
      have q := x4 c (List.mem_range.mpr lc)
      rw [hc, w2] at q
      simp only [Bool.and_eq_true, List.all_eq_true] at q
      obtain ⟨q1, q2, q3, q4, q5⟩ := q
      have z := ck'.2 c (List.mem_range.mpr lc)
      rw [hc, w2] at z
      simp only [Bool.and_eq_true, List.all_eq_true, decide_eq_true_eq] at z
      obtain ⟨⟨z1, z2⟩, z3⟩ := z
      have nm : L.fname f = x := by
        unfold LawD.fname
        rw [List.getD_eq_getElem?_getD, hx]
        rfl
      refine ⟨He.cls_ok q2, z1, by rw [List.length_map]; exact z2, fun j hj => ?_, fun g hno hg => ?_⟩
      · have a := idx_at hj
        refine ⟨?_, by rw [List.getElem?_map, a]; exact congrArg some nm⟩
        have := He.noat_ok (q4 f (List.mem_of_getElem? a))
        rw [nm] at this
        exact this
      · have m := lookup_mem hg
        have y := z3 _ m
        dsimp only at y
        split at y
        · rename_i i hmk
          simp only [Bool.and_eq_true, decide_eq_true_eq] at y
          obtain ⟨⟨y1, y2⟩, y3⟩ := y
          split at y3
          · rename_i di r g1 g2
            rw [decide_eq_true_eq] at y3
            obtain ⟨p, hp⟩ := propB_ok (q5 _ m)
            have ea : L.adr K i = pAd K (x', some (L.fname f)) := by
              unfold LawD.adr
              rw [if_neg (Nat.not_lt.mpr y2), g2]
              show pAd K r.at_ = _
              rw [y3]
            refine ⟨p, i, di, ?_, ?_, hmk, ev_fns g1⟩
            · rw [ea]
              dsimp only at hp
              rw [nm] at hp ⊢
              exact hp
            · show L.fns g = none
              unfold LawD.fns
              rw [List.getElem?_eq_none y1]
          · cases y3
        · cases y
    · cases hC
  · have := x3 g (List.mem_range.mpr (List.getElem?_eq_some_iff.mp hx).1)
    rw [hx] at this
    split at this
    · rename_i x' p e1 e2
      cases e1
      split at this
      · rename_i u hu
        obtain ⟨v, g1, g2⟩ := gvB_ok (C := L.C K) this
        exact ⟨u, v, p, PySem.W.mg_of X hG hu, g1, e2, g2⟩
      · cases this
    · cases this
  · have := ck'.1.2 f (List.mem_range.mpr (List.getElem?_eq_some_iff.mp hx).1)
    rw [hx] at this
    obtain ⟨d', e5, ⟨d0, e6⟩, hbk⟩ := hk.at hq
    dsimp only at e5 e6
    rw [e5, e6] at this
    have this : decide (d'.at_ = (x, none)) = true := this
    rw [decide_eq_true_eq] at this
    obtain ⟨r', N, fd, e4, DA, _⟩ := LawD.defAt c pc ex ck hb (ev_fns e6)
    rw [df_fn e5] at e4; cases e4
    refine ⟨d0, d', N, fd, ev_fns e6, ?_, DA, fun s ws _ hl => ?_⟩
    · rw [adr_fn e5, this]
      exact glo f x d0 hx e6
    · obtain ⟨oc, od, dV, kV, doc, pmv, an, cdv, ct, osl, rfl, lk, hcd, hD, hK⟩ := DA.fn.ex
      rcases hD with ⟨_, rfl⟩ | ⟨e, _⟩
      · exact .of_eq (hbk kV doc pmv an cdv ct ws hl)
      · exact absurd rfl e
/-- what the law's own def is asked -/
def spLaw (K : PySem.W.Frag) : Sp := fun vs H Q _ => ∃ (a : Addr) (ns : List Int), vs = [.ref a] ∧ Scr K H a (ns.map V.int) ∧ ns.length ≤ 63 ∧ ∀ H', Q (.bl true) H'
def LawD.Law (L : LawD) (k f : Nat) : Prop := ∀ ns : List Int, ns.length ≤ 63 → ∃ own outs, evCall L.G k f [.imm (.scr ns)] = .ok (.bool true) own outs
theorem only_scr {H : Hp} {a : Addr} {us : List V} (o : Only H) (h : SqL K H a us) : Scr K H a us := by
  rcases h with (h | ⟨x, h⟩) | h
  · rcases o a with z | ⟨x, xs, z⟩ <;> rw [h] at z <;> cases z
  · exact .inl ⟨x, h⟩
  · exact .inr h
abbrev EC0 : EcA := fun _ => none
theorem LawD.end_ (X : K.In h) (hG : h.Ns mainGlobals mg) (c : He.SaysD fa L.fn K) (pc : L.pfs K) (ex : L.exB K = true) (ck : L.chk = true) (hb : BindA (L.fn ++ L.pf)) (hk : KwA L L.T.kbs) {k f : Nat} {r : He.DefD} {x : PySem.Str} {af : Addr} (hf : L.fn[f]? = some r) (hfe : (L.fns f).isSome = true) (hat : r.at_ = (x, none)) (hps : psOf r.params = (["script"] : List PySem.Str)) (hT : L.T.fns[f]? = some x) (hfa : mg x = some (.ref af)) (hlaw : L.Law k f) {P : Program} {w : World} :
    ∃ fd : FuncData, (∀ (s : Shared) (u : Value), BindsTo s fd ⟨[u], []⟩ [("script", u)]) ∧ ∀ base : Heap, FnOk P w K mg base (L2.CX P w) k af fd ["script"] (spLaw K) := by
  have p : Prog K mg L.T L.G (L.C K) EC0 (L.adr K) := LawD.prog X hG c pc ex ck hb hk
  obtain ⟨d, hd⟩ : ∃ d, L.G.fns f = some d := Option.isSome_iff_exists.mp hfe
  obtain ⟨r', N, fd, e1, DA, hB⟩ := LawD.defAt c pc ex ck hb hd
  rw [df_fn hf] at e1; cases e1
  have ea : mg x = some (.ref (L.adr K f)) := (p.nm f x hT).elim (fun z => z.2) fun ⟨_, _, _, _, _, z, _⟩ => by rw [hd] at z; cases z
  rw [hfa] at ea
  have ea : af = L.adr K f := by injection ea with z; injection z
  subst ea
  refine ⟨fd, fun s u => ?_, fun base => ?_⟩
  · have := hB s [u] (by rw [hps]; rfl)
    rw [hps] at this
    exact this
  · have := p.fn (P := P) (w := w) (base := base) k f d hd r N fd DA
    rw [hps] at this
    refine this.imp fun vs H Q E ⟨a, ns, e, hS, hl, q⟩ => ?_
    subst e
    obtain ⟨own, outs, ev⟩ := hlaw ns hl
    refine ⟨No, [.imm (.scr ns)], [], fun a z => z.elim, List.nodup_nil, .imm (.scr hS) .nil, ?_⟩
    rw [ev]
    intro u M' H' en h1 h2
    cases own with
    | false =>
      have := h1 rfl
      cases this
      exact q H'
    | true =>
      obtain ⟨_, _, _, _, z, _⟩ := h2 rfl
      cases z
end
end Ev
set_option maxRecDepth 100000
set_option maxHeartbeats 4000000
/-! Ev21: a law over its data -/
namespace Ev
open PySem L2 PyProof.Rows
theorem cx_no {P : Program} {w : World} {H : Hp} {s s' : Shared} {e : Value} (h : L2.CX P w [] H s (fun _ _ _ => False) e s') : False := by
  obtain ⟨_, _, _, _, _, _, _, _, _, _, _, _, z⟩ := h
  exact z
/-! ### the head's hook: the defs, the facts, the getters -/
abbrev AlP : Type := He.AlX × List He.FnW
def obsP (n : Nat) (L : LawD) (g : Addr → Option Obj) : AlP := (He.obsX n [] L.fn [] [] L.exB g, L.pf.map fun d => fnWA (He.frT g (He.asD g n)) (pAd (He.frT g (He.asD g n)) d.at_))
def hookP (n : Nat) (L : LawD) : PySem.W.Hook where
  α := AlP
  obs := fun s => obsP n L s.heap.get?
  val := fun w => (He.valX L.fn [] w, L.pf.map He.DefD.val)
  says := fun w h => ∃ K : PySem.W.Frag, K.In h ∧ He.SaysX [] L.fn [] [] L.exB w h K ∧ L.pfs K
  of := fun _ _ e => ⟨_, He.frT_in, He.saysX_of (congrArg (fun z : AlP => z.1) e), congrArg (fun z : AlP => z.2) e⟩
  keeps := fun _ _ _ ⟨K, hK, c, pc⟩ k => ⟨K, PySem.W.Frag.In.keeps hK k, ⟨c.t, c.more, c.hd, c.out, fun p hp => k _ _ (c.empty p hp)⟩, pc⟩
theorem obsP_eq {n : Nat} {L : LawD} {g : Addr → Option Obj} {s : Shared} (h : ∀ a, g a = s.heap.get? a) : obsP n L g = (hookP n L).obs s := by
  have e : g = s.heap.get? := funext h
  rw [e] <;> rfl
/-- a law's end -/
theorem LawD.walk {L : LawD} {l : PySem.W.OpenLaw} {q : Program} {loose : List PySem.Str} {XP : (PySem.Str → Option Value) → Heap → Prop} {d : DefRec} {n k f : Nat} {r : He.DefD}
    (ck : L.chk = true) (hb : BindA (L.fn ++ L.pf)) (hk : KwA L L.T.kbs) (hf : L.fn[f]? = some r) (hfe : (L.fns f).isSome = true) (hat : r.at_ = (d.name, none)) (hps : psOf r.params = (["script"] : List PySem.Str)) (hT : L.T.fns[f]? = some d.name) (hlaw : L.Law k f)
    (h1 : l.most = some 63) (h2 : d.params.defaults = []) (hr : Room k callerA) :
    PySem.W.WalkO q loose XP (hookP n L).says l.row.toRowW d [] (fun f vs => PySem.call f vs) := by
  refine Att.attach_call h1 h2 ?_
  intro w _ s1 mg mb af _ _ _ _ la _ ns GG YY _ _ _ gm obj nums short gens
  obtain ⟨K, KX, says, pc⟩ := YY
  obtain ⟨fd, bd, ok⟩ := LawD.end_ (P := l.prog) (w := w) KX GG.T.g says.t.d pc says.more ck hb hk hf hfe hat hps hT gm hlaw
  refine law_call KX GG.T.g GG.T.b GG.T.builtins GG.T.nolimit gens obj nums (Nat.le_trans short (by decide)) hr
    (fun base _ _ => ok base) bd (fun H only sq => ⟨la, ns, rfl, only_scr only sq, short, fun _ => rfl⟩) fun H e s' => cx_no
end Ev
set_option maxRecDepth 100000
set_option maxHeartbeats 4000000
/-! Ev22: what the evaluator comes to -/
namespace Ev
def R.wp {α : Type} (r : R α) (φ : α → Cells → Prop) : Prop := match r with
  | .ok a cs => φ a cs
  | _ => False
def RS.wp (r : RS) (nx : Env → Cells → Prop) (rt : P → Bool → Cells → Prop) (bk ct : Env → Cells → Prop) : Prop := match r with
  | .nx ρ cs => nx ρ cs
  | .rt x w cs => rt x w cs
  | .bk ρ cs => bk ρ cs
  | .ct ρ cs => ct ρ cs
  | _ => False
def CR.wp (r : CR) (φ : P → Bool → Cells → Prop) : Prop := match r with
  | .ok x w cs => φ x w cs
  | _ => False
section
variable {α β : Type} {φ : α → Cells → Prop} {ψ : β → Cells → Prop} {nx bk ct : Env → Cells → Prop} {rt : P → Bool → Cells → Prop} {cs : Cells} {ρ : Env} {a : α}
theorem wp_ok : (R.ok a cs).wp φ ↔ φ a cs := Iff.rfl
theorem wp_stk : (R.stk).wp φ ↔ False := Iff.rfl
theorem wp_bind {r : R α} {f : α → Cells → R β} : (r.bind f).wp ψ ↔ r.wp fun a cs => (f a cs).wp ψ := by cases r <;> exact Iff.rfl
theorem wp_ite {c : Prop} [Decidable c] {r s : R α} : (if c then r else s).wp φ ↔ if c then r.wp φ else s.wp φ := by split <;> exact Iff.rfl
theorem wp_some : (R.opt cs (some a)).wp φ ↔ φ a cs := Iff.rfl
theorem wp_none : (R.opt cs (none : Option α)).wp φ ↔ False := Iff.rfl
theorem wp_optite {c : Prop} [Decidable c] : (R.opt cs (if c then some a else none)).wp φ ↔ c ∧ φ a cs := by
  split
  · rename_i h; exact ⟨fun q => ⟨h, q⟩, fun q => q.2⟩
  · rename_i h; exact ⟨fun q => q.elim, fun q => (h q.1).elim⟩
theorem wp_opt {o : Option α} : (R.opt cs o).wp φ ↔ ∃ a, o = some a ∧ φ a cs := by
  cases o with
  | none => exact ⟨fun h => h.elim, fun ⟨_, h, _⟩ => by cases h⟩
  | some a => exact ⟨fun h => ⟨a, rfl, h⟩, fun ⟨_, h, q⟩ => by cases h; exact q⟩
theorem swp_toS {r : R α} {f : α → Cells → RS} : (r.toS ρ f).wp nx rt bk ct ↔ r.wp fun a cs => (f a cs).wp nx rt bk ct := by cases r <;> exact Iff.rfl
theorem swp_seq {r : RS} {f : Env → Cells → RS} : (r.seq f).wp nx rt bk ct ↔ r.wp (fun ρ cs => (f ρ cs).wp nx rt bk ct) rt bk ct := by cases r <;> exact Iff.rfl
theorem swp_nx : (RS.nx ρ cs).wp nx rt bk ct ↔ nx ρ cs := Iff.rfl
theorem swp_rt {x : P} {w : Bool} : (RS.rt x w cs).wp nx rt bk ct ↔ rt x w cs := Iff.rfl
theorem swp_bk : (RS.bk ρ cs).wp nx rt bk ct ↔ bk ρ cs := Iff.rfl
theorem swp_ct : (RS.ct ρ cs).wp nx rt bk ct ↔ ct ρ cs := Iff.rfl
theorem swp_stk : (RS.stk).wp nx rt bk ct ↔ False := Iff.rfl
theorem swp_ite {c : Prop} [Decidable c] {r s : RS} : (if c then r else s).wp nx rt bk ct ↔ if c then r.wp nx rt bk ct else s.wp nx rt bk ct := by split <;> exact Iff.rfl
theorem R.wp.mono {r : R α} {φ' : α → Cells → Prop} (h : r.wp φ) (i : ∀ a cs, φ a cs → φ' a cs) : r.wp φ' := by cases r <;> first | exact i _ _ h | exact h
theorem CR.wp.mono {r : CR} {φ φ' : P → Bool → Cells → Prop} (h : r.wp φ) (i : ∀ a w cs, φ a w cs → φ' a w cs) : r.wp φ' := by cases r <;> first | exact i _ _ _ h | exact h
theorem RS.wp.mono {r : RS} {nx' bk' ct' : Env → Cells → Prop} {rt' : P → Bool → Cells → Prop} (h : r.wp nx rt bk ct) (i1 : ∀ ρ cs, nx ρ cs → nx' ρ cs) (i2 : ∀ x w cs, rt x w cs → rt' x w cs) (i3 : ∀ ρ cs, bk ρ cs → bk' ρ cs) (i4 : ∀ ρ cs, ct ρ cs → ct' ρ cs) : r.wp nx' rt' bk' ct' := by
  cases r <;> first | exact i1 _ _ h | exact i2 _ _ _ h | exact i3 _ _ h | exact i4 _ _ h | exact h
/-- a call with evaluated arguments -/
theorem wp_call {call : Nat → List Arg → CR} {f : Nat} {as : List AR} {xs : List Arg} {φ : P × Bool → Cells → Prop} (h1 : (nodupB (mutIx as) && disjB (mutIx as) (borIx as)) = true) (h2 : argsOf cs as = some xs)
    (h : (call f xs).wp fun r w outs => ∃ cs', settle as (resFlat r w) outs cs = some cs' ∧ φ (r, w) cs') : (doCall call f as cs).wp φ := by
  unfold doCall
  rw [if_pos h1, h2]
  dsimp only
  revert h
  cases call f xs with
  | ok r w outs =>
    rintro ⟨cs', e, h⟩
    dsimp only
    rw [e]
    exact h
  | exc c fs outs => exact fun h => h.elim
  | stk => exact fun h => h
theorem wp_fn {G : Glob} {k f : Nat} {d : FnD} {args : List Arg} {φ : P → Bool → Cells → Prop} (hd : G.fns f = some d) (hl : args.length = d.np)
    (h : (evSs G (evCall G k) (argCells args).length d.body (argEnv args 0 ++ List.replicate (d.ns - d.np) none) (argCells args)).wp (fun _ cs => φ .none false (cs.take (argCells args).length)) (fun x w cs => φ x w (cs.take (argCells args).length)) (fun _ _ => False) fun _ _ => False) :
    (evCall G (k + 1) f args).wp φ := by
  rw [evCall, hd]
  dsimp only
  rw [runFn, if_pos hl]
  revert h
  generalize evSs G (evCall G k) (argCells args).length d.body (argEnv args 0 ++ List.replicate (d.ns - d.np) none) (argCells args) = r
  cases r <;> exact fun h => h
end
end Ev
namespace Ev
/-! ### loops -/
section
variable {G : Glob} {call : Nat → List Arg → CR} {m : Nat}
theorem for_eq {t : TG} {it : CI} {b : CSs} {ρ : Env} {cs : Cells} {xs : List P} (h1 : evI G call it ρ cs = .ok xs cs) (h2 : lockIx it ρ cs = none) :
    evS G call m (.fr t it b) ρ cs = forL (fun x ρ cs => match asgT t x ρ with | some ρ' => evSs G call m b ρ' cs | none => .stk) xs ρ cs := by
  simp only [evS, h1, R.toS, h2, lockC]
  generalize forL _ xs ρ cs = r
  cases r <;> rfl
theorem for_eq2 {t : TG} {it : CI} {b : CSs} {ρ : Env} {cs cs' : Cells} {xs : List P} (h1 : evI G call it ρ cs = .ok xs cs') (h2 : lockIx it ρ cs' = none) :
    evS G call m (.fr t it b) ρ cs = forL (fun x ρ cs => match asgT t x ρ with | some ρ' => evSs G call m b ρ' cs | none => .stk) xs ρ cs' := by
  simp only [evS, h1, R.toS, h2, lockC]
  generalize forL _ xs ρ cs' = r
  cases r <;> rfl
theorem forL_gen {body : P → Env → Cells → RS} {Q : RS → Prop} (I : List P → Env → Cells → Prop)
    (hs : ∀ x xs ρ cs, I (x :: xs) ρ cs → (∃ ρ' cs', (body x ρ cs = .nx ρ' cs' ∨ body x ρ cs = .ct ρ' cs') ∧ I xs (trimE cs.length ρ') (cs'.take cs.length)) ∨ (∃ ρ' cs', body x ρ cs = .bk ρ' cs' ∧ Q (.nx ρ' cs')) ∨ ∃ y w cs', body x ρ cs = .rt y w cs' ∧ Q (.rt y w cs'))
    (he : ∀ ρ cs, I [] ρ cs → Q (.nx ρ cs)) : ∀ (xs : List P) (ρ : Env) (cs : Cells), I xs ρ cs → Q (forL body xs ρ cs)
  | [], ρ, cs, h => he ρ cs h
  | x :: xs, ρ, cs, h => by
    rw [forL]
    rcases hs x xs ρ cs h with ⟨ρ', cs', e, h'⟩ | ⟨ρ', cs', e, q⟩ | ⟨y, w, cs', e, q⟩
    · rcases e with e | e <;> rw [e] <;> exact forL_gen I hs he xs _ _ h'
    · rw [e]; exact q
    · rw [e]; exact q
end
/-- a comprehension whose turns give items -/
theorem lcL_all {f : P → Cells → R (Option P)} {g : P → P} : ∀ (xs : List P) (cs : Cells) (acc : List P), (∀ x, x ∈ xs → f x cs = .ok (some (g x)) cs) → lcLoop f xs cs acc = .ok (acc ++ xs.map g) cs
  | [], cs, acc, _ => by simp [lcLoop]
  | x :: xs, cs, acc, h => by
    rw [lcLoop, h x (by simp)]
    show lcLoop f xs cs (acc ++ [g x]) = _
    rw [lcL_all xs cs _ fun y hy => h y (by simp [hy])]
    simp
end Ev
set_option maxRecDepth 100000
set_option maxHeartbeats 4000000
/-! EvS: the evaluator over words that may be left open -/
namespace Ev
inductive OpN where
  | iadd | isub | imul | idiv | imod | ipow | ineg | iabs | imin | imax | isum | ilt | ile | bint | ieq | mulB | divB | modB | powB | eqOk | box
  | ixv | len | bil | sto | mth | eqc | inn | slw | cat | revw | boxL | flw
@[reducible] def OpN.ty : OpN → Type
  | .iadd | .isub | .imul | .idiv | .imod | .ipow | .imin | .imax => Int → Int → Int
  | .ineg | .iabs => Int → Int
  | .isum => List Int → Int
  | .ilt | .ile | .ieq | .mulB | .powB => Int → Int → Bool
  | .bint => Bool → Int
  | .divB | .modB => Int → Bool
  | .eqOk => P → P → Bool
  | .box => CS → Env → Cells → (Unit → RS) → RS
  | .ixv | .cat => P → P → Option P
  | .len => P → Option P
  | .bil => BI → P → Option P
  | .sto => Cell → P → P → Option Cell
  | .mth => MM → Cell → List P → Option (Cell × P)
  | .eqc => P → P → Option Bool
  | .inn => P → P → Option Bool
  | .slw => P → Option Int → Option Int → Option P
  | .revw => List P → List P
  | .boxL => CL → Env → Cells → (Unit → R (List P)) → R (List P)
  | .flw => P → Bool → Cells → Bool
abbrev Ops := (n : OpN) → n.ty
def std : Ops := fun n => match n with
  | .iadd => iadd | .isub => isub | .imul => imul | .idiv => idiv | .imod => imod | .ipow => ipow | .ineg => ineg | .iabs => iabs | .imin => imin | .imax => imax | .isum => isum
  | .ilt => ilt | .ile => ile | .bint => bint | .ieq => ieq | .mulB => mulB | .divB => divB | .modB => modB | .powB => powB | .eqOk => eqOk | .box => fun _ _ _ f => f ()
  | .ixv => ixP | .cat => fun a b => match b with | .int _ => binP .mul a b | _ => binP .add a b
  | .len => fun x => biP .len [x] | .bil => fun b x => biP b [x] | .sto => stoC | .mth => mthC | .eqc => fun a b => cmpP .eq a b | .inn => fun a b => cmpP .inn a b | .slw => slP | .revw => List.reverse
  | .boxL => fun _ _ _ f => f () | .flw => fun r own outs => resFlat r own && outs.all Cell.flat
/-- as ixAt, but a number that is not known stops it -/
def ixM {α : Type} (xs : List α) (i : Int) : Option α :=
  match i with
  | .ofNat n => xs[n]?
  | .negSucc n => if n < xs.length then xs[xs.length - (n + 1)]? else Option.none
namespace Sy
section
variable (O : Ops)
mutual
/-- Python's == on data -/
def eqB : P → P → Bool
  | .none, .none => true
  | .bool a, .bool b => a == b
  | .bool a, .int j => decide ((if a then 1 else 0) = j)
  | .int i, .bool b => decide (i = (if b then 1 else 0))
  | .int i, .int j => O .ieq i j
  | .str x, .str y => decide (x = y)
  | .lst xs, .lst ys => eqL xs ys
  | .tup xs, .tup ys => eqL xs ys
  | _, _ => false
def eqL : List P → List P → Bool
  | [], [] => true
  | x :: xs, y :: ys => eqB x y && eqL xs ys
  | _, _ => false
end
def sc2 (a b : P) : Bool := match a, b with
  | .int _, .int _ | .str _, .str _ | .bool _, .bool _ | .none, .none => true
  | _, _ => false
def settle (as : List AR) (r : P) (own : Bool) (outs cs : Cells) : Option Cells :=
  match borIx as with
  | [] => some (back as outs cs)
  | bs => match O .flw r own outs with
    | true => some (back as outs cs)
    | false => frzAll bs (back as outs cs)
def doCall (call : Nat → List Arg → CR) (f : Nat) (as : List AR) (cs : Cells) : R (P × Bool) :=
  if nodupB (mutIx as) && disjB (mutIx as) (borIx as) then
    match argsOf cs as with
    | Option.none => .stk
    | some xs => match call f xs with
      | .ok r own outs => (R.opt cs (settle O as r own outs cs)).bind fun cs' _ => .ok (r, own) cs'
      | .exc c fs outs => match Ev.settle as (P.flatL fs) outs cs with
        | some cs' => .exc c fs cs'
        | Option.none => .stk
      | .stk => .stk
  else .stk
def binP : BOp → P → P → Option P
  | .add, .int i, .int j => some (.int (O .iadd i j))
  | .sub, .int i, .int j => some (.int (O .isub i j))
  | .mul, .int i, .int j => if O .mulB i j then some (.int (O .imul i j)) else Option.none
  | .fdiv, .int i, .int j => if O .divB j then some (.int (O .idiv i j)) else Option.none
  | .mod, .int i, .int j => if O .modB j then some (.int (O .imod i j)) else Option.none
  | .pow, .int i, .int j => if O .powB i j then some (.int (O .ipow i j)) else Option.none
  | .add, .str s, .str t => if s.length + t.length ≤ SZ then some (.str (s ++ t)) else Option.none
  | .add, .tup xs, .tup ys => O .cat (.tup xs) (.tup ys)
  | .add, .lst xs, .lst ys => O .cat (.lst xs) (.lst ys)
  | .mul, .lst xs, .int k => O .cat (.lst xs) (.int k)
  | .mul, .tup xs, .int k => O .cat (.tup xs) (.int k)
  | _, _, _ => Option.none
def cmpP : COp → P → P → Option Bool
  | .eq, a, b => (match sc2 a b with
    | true => some (eqB O a b)
    | false => O .eqc a b)
  | .ne, a, b => (match sc2 a b with
    | true => some (eqB O a b)
    | false => O .eqc a b).map fun z => !z
  | .lt, .int i, .int j => some (O .ilt i j)
  | .le, .int i, .int j => some (O .ile i j)
  | .gt, .int i, .int j => some (O .ilt j i)
  | .ge, .int i, .int j => some (O .ile j i)
  | .lt, .str s, .str t => some (lexLt s t)
  | .isx, a, .none => some a.isN
  | .isn, a, .none => some (!a.isN)
  | .inn, .str [c], .str t => some (decide (c ∈ t))
  | .nin, .str [c], .str t => some (!decide (c ∈ t))
  | .inn, x, .lst ys => O .inn x (.lst ys)
  | .nin, x, .lst ys => (O .inn x (.lst ys)).map fun z => !z
  | .inn, x, .tup ys => O .inn x (.tup ys)
  | .nin, x, .tup ys => (O .inn x (.tup ys)).map fun z => !z
  | _, _, _ => Option.none
def truP : P → Option Bool
  | .none => some false
  | .bool b => some b
  | .int i => some (!O .ieq i 0)
  | .str s => some (!s.isEmpty)
  | .tup xs => some (!xs.isEmpty)
  | .lst xs => some (!xs.isEmpty)
  | _ => Option.none

def dicGet : List P → List P → P → Option P
  | k :: ks, v :: vs, x => if eqB O k x then some v else dicGet ks vs x
  | _, _, _ => Option.none
def ixP : P → P → Option P
  | .tup xs, .int i => ixM xs i
  | .lst xs, .int i => ixM xs i
  | .str s, .int i => (ixM s i).map fun c => .str [c]
  | .scr ns, .int i => (ixM ns i).map .int
  | .dic ks vs, .str s => (dicGet O) ks vs (.str s)
  | .dic ks vs, .int i => (dicGet O) ks vs (.int i)
  | _, _ => Option.none
def biP : BI → List P → Option P
  | .len, [x] => O .len x
  | .int, [.int i] => some (.int i)
  | .int, [.bool b] => some (.int (O .bint b))
  | .abs, [.int i] => some (.int (O .iabs i))
  | .min, [.int i, .int j] => some (.int (O .imin i j))
  | .max, [.int i, .int j] => some (.int (O .imax i j))
  | .tuple, [.lst xs] => some (.tup xs)
  | .tuple, [.tup xs] => some (.tup xs)
  | .min, [.lst xs] => O .bil .min (.lst xs)
  | .max, [.lst xs] => O .bil .max (.lst xs)
  | .sum, [.lst xs] => O .bil .sum (.lst xs)
  | .all, [.lst xs] => O .bil .all (.lst xs)
  | .any, [.lst xs] => O .bil .any (.lst xs)
  | _, _ => Option.none
def cst : CE → Bool
  | .int _ | .neg _ | .str _ => true
  | _ => false
def ixC (i : CE) (x y : P) : Option P := match cst i with
  | true => ixP O x y
  | false => O .ixv x y
def tv (r : R VP) : R Bool := (vw r).bind fun x cs => R.opt cs (truP O x)
def augP : BOp → P → P → Option P
  | .add, .int i, .int j => some (.int (O .iadd i j))
  | .sub, .int i, .int j => some (.int (O .isub i j))
  | _, _, _ => Option.none
section
variable (G : Glob) (call : Nat → List Arg → CR)
mutual
def evE : CE → Env → Cells → R VP
  | .none, _, cs => .ok (.p .none) cs
  | .bool b, _, cs => .ok (.p (.bool b)) cs
  | .int i, _, cs => .ok (.p (.int i)) cs
  | .str s, _, cs => .ok (.p (.str s)) cs
  | .var i, ρ, cs => match ρ[i]? with | some (some v) => .ok v cs | _ => .stk
  | .gl g, _, cs => (R.opt cs (G.gls g)).bind fun x cs => .ok (.p x) cs
  | .bin o a b, ρ, cs => (evE a ρ cs).bind fun x cs => (evE b ρ cs).bind fun y cs => (op2 ((binP O) o) x y cs).bind fun z cs => .ok (.p z) cs
  | .neg a, ρ, cs => (vw (evE a ρ cs)).bind fun x cs => match x with | .int i => .ok (.p (.int (O .ineg i))) cs | _ => .stk
  | .not a, ρ, cs => ((tv O) (evE a ρ cs)).bind fun b cs => .ok (.p (.bool (!b))) cs
  | .bop k es, ρ, cs => evBo k es ρ cs
  | .cmp o a b, ρ, cs => (evE a ρ cs).bind fun x cs => (evE b ρ cs).bind fun y cs => (op2 ((cmpP O) o) x y cs).bind fun z cs => .ok (.p (.bool z)) cs
  | .chain o o' a b c, ρ, cs => (evE a ρ cs).bind fun x cs => (evE b ρ cs).bind fun y cs => (op2 ((cmpP O) o) x y cs).bind fun z cs =>
      if z then (evE c ρ cs).bind fun w cs => (op2 ((cmpP O) o') y w cs).bind fun z cs => .ok (.p (.bool z)) cs else .ok (.p (.bool false)) cs
  | .ite c a b, ρ, cs => ((tv O) (evE c ρ cs)).bind fun k cs => if k then evE a ρ cs else evE b ρ cs
  | .ix a i, ρ, cs => (evE a ρ cs).bind fun x cs => (evE i ρ cs).bind fun y cs => (op2 ((ixC O) i) x y cs).bind fun z cs => .ok (.p z) cs
  | .sl a lo hi, ρ, cs => (evE a ρ cs).bind fun x cs => (evO lo ρ cs).bind fun l cs => (evO hi ρ cs).bind fun h cs => (R.opt cs ((viewV cs x).bind fun x => O .slw x l h)).bind fun z cs => .ok (.p z) cs
  | .tup es, ρ, cs => (evXs es ρ cs).bind fun vs cs => (escAll vs cs).bind fun xs cs => if xs.length ≤ SZ then .ok (.p (.tup xs)) cs else .stk
  | .l e, ρ, cs => (evL e ρ cs).bind fun xs cs => .ok (.p (.lst xs)) cs
  | .call f as, ρ, cs => (evAs as ρ cs).bind fun as cs => (doCall O call f as cs).bind fun r cs => .ok (.p r.1) cs
  | .callK f as pm, ρ, cs => (evAs as ρ cs).bind fun as cs => if as.all AR.simple then (doCall O call f (perm pm as) cs).bind fun r cs => .ok (.p r.1) cs else .stk
  | .mk c as, ρ, cs => .stk
  | .bi b es, ρ, cs => (evXs es ρ cs).bind fun vs cs => (R.opt cs ((viewAll cs vs).bind ((biP O) b))).bind fun z cs => .ok (.p z) cs
  | .isi a ts, ρ, cs => (vw (evE a ρ cs)).bind fun x cs => (R.opt cs (kindP x)).bind fun _ cs => .ok (.p (.bool (ts.any fun t => isT t x))) cs
  | .fld a f, ρ, cs => (evE a ρ cs).bind fun v cs => (R.opt cs (viewV cs v)).bind fun x cs => match Ev.fldP G x f with
      | some (.inl y) => .ok (.p y) cs
      | some (.inr g) => match v with
        | .p _ => (match call g [.imm x] with
          | .ok r false _ => .ok (.p r) cs
          | _ => .stk)
        | .ref _ => .stk
      | Option.none => .stk
  | .rev a, ρ, cs => (vw (evE a ρ cs)).bind fun x cs => match x with | .lst xs => .ok (.p (.lst (O .revw xs))) cs | _ => .stk
  | .pm m a es, ρ, cs => .stk
  | .dic ks es, ρ, cs => (evXs es ρ cs).bind fun vs cs => (escAll vs cs).bind fun xs cs => if ks.length = xs.length ∧ ks.length ≤ 15 ∧ ks.Nodup then .ok (.p (.dic (ks.map .str) xs)) cs else .stk
  | .mth i o es, ρ, cs => if lstAt i ρ cs then (evXs es ρ cs).bind fun vs cs => (escAll vs cs).bind fun ys cs => (onCell i ρ cs fun c => O .mth o c ys).bind fun y cs => .ok (.p y) cs else .stk
def evL : CL → Env → Cells → R (List P)
  | .lst es, ρ, cs => (evXs es ρ cs).bind fun vs cs => (escAll vs cs).bind fun xs cs => if xs.length ≤ SZ then .ok xs cs else .stk
  | .lc g own it ts e, ρ, cs => O .boxL (.lc g own it ts e) ρ cs fun _ => (evI it ρ cs).bind fun xs cs => if xs.length ≤ SZ then
      (lcLoop (fun x cs => match asgT g x (wipe ρ own) with
        | some ρ' => (evTs ts ρ' cs).bind fun k cs => if k then (evE e ρ' cs).bind fun v cs => (escV cs v).bind fun y cs => .ok (some y) cs else .ok Option.none cs
        | Option.none => .stk) xs (lockC (lockIx it ρ cs) cs) []).unlock (lockIx it ρ cs) cs else .stk
  | .lof e, ρ, cs => (vw (evE e ρ cs)).bind fun x cs => match x with | .lst xs => .ok xs cs | .tup xs => .ok xs cs | _ => .stk
  | .call f as, ρ, cs => (evAs as ρ cs).bind fun as cs => (doCall O call f as cs).bind fun r cs => match r with | (.lst xs, true) => .ok xs cs | _ => .stk
def evO : CO → Env → Cells → R (Option Int)
  | .none, _, cs => .ok Option.none cs
  | .some e, ρ, cs => (vw (evE e ρ cs)).bind fun x cs => match x with | .int i => .ok (some i) cs | _ => .stk
def evBo : Bool → CEs → Env → Cells → R VP
  | _, .nil, _, _ => .stk
  | k, .cons e es, ρ, cs => (evE e ρ cs).bind fun v cs => match es with
    | .nil => .ok v cs
    | .cons _ _ => (R.opt cs ((viewV cs v).bind (truP O))).bind fun b cs => if b == k then evBo k es ρ cs else .ok v cs
def evXs : CEs → Env → Cells → R (List VP)
  | .nil, _, cs => .ok [] cs
  | .cons e es, ρ, cs => (evE e ρ cs).bind fun v cs => (evXs es ρ cs).bind fun vs cs => .ok (v :: vs) cs
def evTs : CEs → Env → Cells → R Bool
  | .nil, _, cs => .ok true cs
  | .cons e es, ρ, cs => ((tv O) (evE e ρ cs)).bind fun b cs => if b then evTs es ρ cs else .ok false cs
def evAs : CAs → Env → Cells → R (List AR)
  | .nil, _, cs => .ok [] cs
  | .imm e as, ρ, cs => (evE e ρ cs).bind fun v cs => (evAs as ρ cs).bind fun as cs => match v with | .p x => .ok (.val x :: as) cs | .ref n => .ok (.bor n :: as) cs
  | .mv i as, ρ, cs => match ρ[i]? with | some (some (.ref n)) => (evAs as ρ cs).bind fun as cs => .ok (.mu n :: as) cs | _ => .stk
  | .ml e as, ρ, cs => (evL e ρ cs).bind fun xs cs => (evAs as ρ cs).bind fun as cs => .ok (.tmp xs :: as) cs
def evI : CI → Env → Cells → R (List P)
  | .sq e, ρ, cs => (evE e ρ cs).bind fun v cs => if seqOk e v then R.opt cs ((viewV cs v).bind itP) else .stk
  | .r1 a, ρ, cs => (vw (evE a ρ cs)).bind fun x cs => match x with | .int n => if -(2 ^ 62) ≤ n ∧ n ≤ SZ then .ok (rngV 0 n.toNat) cs else .stk | _ => .stk
  | .r2 a b, ρ, cs => (evE a ρ cs).bind fun x cs => (evE b ρ cs).bind fun y cs => op2 r2P x y cs
  | .r3 a b c, ρ, cs => .stk
  | .en e, ρ, cs => (evE e ρ cs).bind fun v cs => if seqOk e v then R.opt cs ((viewV cs v).bind enP) else .stk
  | .zp a b, ρ, cs => .stk
end
end

section
variable (G : Glob) (call : Nat → List Arg → CR) (m : Nat)
mutual
def evS : CS → Env → Cells → RS
  | .ex e, ρ, cs => (evE O G call e ρ cs).toS ρ fun _ cs => .nx ρ cs
  | .set (.nm i) e, ρ, cs => (evE O G call e ρ cs).toS ρ fun v cs => .nx (ρ.set i (some v)) cs
  | .set (.tp ts) e, ρ, cs => (evE O G call e ρ cs).toS ρ fun v cs => match v with
    | .p x => match asgT (.tp ts) x ρ with
      | some ρ' => .nx ρ' cs
      | Option.none => .stk
    | _ => .stk
  | .setL i e, ρ, cs => (evL O G call e ρ cs).toS ρ fun xs cs => .nx (ρ.set i (some (.ref cs.length))) (cs ++ [.lst xs])
  | .sti i ie e, ρ, cs => (evE O G call e ρ cs).toS ρ fun v cs => if lstAt i ρ cs then (evE O G call ie ρ cs).toS ρ fun k cs => (R.opt cs (viewV cs k)).toS ρ fun k cs => (escV cs v).toS ρ fun v cs =>
      (onCell i ρ cs fun c => (O .sto c k v).map (·, ())).toS ρ fun _ cs => .nx ρ cs else .stk
  | .stf i f e, ρ, cs => (ev (evE O G call e ρ cs)).toS ρ fun v cs => (onCell i ρ cs fun c => (stfC G c f v).map (·, ())).toS ρ fun _ cs => .nx ρ cs
  | .aug i o e, ρ, cs => match ρ[i]? with
    | some (some (.p x)) => (vw (evE O G call e ρ cs)).toS ρ fun y cs => (R.opt cs ((augP O) o x y)).toS ρ fun z cs => .nx (ρ.set i (some (.p z))) cs
    | _ => .stk
  | .par i j a b, ρ, cs => (evXs O G call (.cons a (.cons b .nil)) ρ cs).toS ρ fun vs cs => (escAll vs cs).toS ρ fun xs cs => match xs with
    | [x, y] => .nx ((ρ.set i (some (.p x))).set j (some (.p y))) cs
    | _ => .stk
  | .iff t a b, ρ, cs => ((tv O) (evE O G call t ρ cs)).toS ρ fun k cs => if k then evSs a ρ cs else evSs b ρ cs
  | .fr t it b, ρ, cs => O .box (.fr t it b) ρ cs fun _ => (evI O G call it ρ cs).toS ρ fun xs cs =>
      (forL (fun x ρ cs => match asgT t x ρ with | some ρ' => evSs b ρ' cs | Option.none => .stk) xs ρ (lockC (lockIx it ρ cs) cs)).unlock (lockIx it ρ cs) cs
  | .whl n t b, ρ, cs => O .box (.whl n t b) ρ cs fun _ => whL (fun ρ cs => (tv O) (evE O G call t ρ cs)) (fun ρ cs => evSs b ρ cs) n ρ cs
  | .ret e, ρ, cs => (evE O G call e ρ cs).toS ρ fun v cs => match v with
    | .p x => .rt x false cs
    | .ref n => match cs[n]? with
      | some (.lst xs) => if m ≤ n then .rt (.lst xs) true cs else (escV cs v).toS ρ fun x cs => .rt x false cs
      | _ => (escV cs v).toS ρ fun x cs => .rt x false cs
  | .retL e, ρ, cs => (evL O G call e ρ cs).toS ρ fun xs cs => .rt (.lst xs) true cs
  | .retN, ρ, cs => .rt .none false cs
  | .pass, ρ, cs => .nx ρ cs
  | .brk, ρ, cs => .bk ρ cs
  | .cnt, ρ, cs => .ct ρ cs
  | .stk, _, _ => .stk
def evSs : CSs → Env → Cells → RS
  | .nil, ρ, cs => .nx ρ cs
  | .cons s ss, ρ, cs => (evS s ρ cs).seq fun ρ cs => evSs ss ρ cs
  | .kill is ss, ρ, cs => evSs ss (wipe ρ is) cs
end
end
def runFn (G : Glob) (call : Nat → List Arg → CR) (d : FnD) (args : List Arg) : CR :=
  if args.length = d.np then
    endC (argCells args).length (evSs O G call (argCells args).length d.body (argEnv args 0 ++ List.replicate (d.ns - d.np) Option.none) (argCells args))
  else .stk
def evCall (G : Glob) : Nat → Nat → List Arg → CR
  | 0, _, _ => .stk
  | k + 1, f, args => match G.fns f with
    | some d => runFn O G (evCall G k) d args
    | Option.none => match G.mks f with
      | some (.cls c i) => runMk (evCall G k) c i args
      | some (.prop g) => evCall G k g args
      | Option.none => .stk
end
end Sy
end Ev
set_option maxRecDepth 100000
set_option maxHeartbeats 1000000
namespace Ev
mutual
theorem eqB_std : ∀ a b : P, Sy.eqB std a b = P.eqB a b
  | .lst xs, b => by cases b <;> first | rfl | (rename_i ys; simp only [Sy.eqB, P.eqB]; exact eqL_std xs ys)
  | .tup xs, b => by cases b <;> first | rfl | (rename_i ys; simp only [Sy.eqB, P.eqB]; exact eqL_std xs ys)
  | .none, b => by cases b <;> rfl
  | .bool _, b => by cases b <;> rfl
  | .int _, b => by cases b <;> rfl
  | .str _, b => by cases b <;> rfl
  | .dic _ _, b => by cases b <;> rfl
  | .ins _ _, b => by cases b <;> rfl
  | .scr _, b => by cases b <;> rfl
theorem eqL_std : ∀ a b : List P, Sy.eqL std a b = P.eqL a b
  | [], [] => rfl
  | [], _ :: _ => rfl
  | _ :: _, [] => rfl
  | x :: xs, y :: ys => by simp only [Sy.eqL, P.eqL]; rw [eqB_std x y, eqL_std xs ys]
end
theorem eqB_f : Sy.eqB std = P.eqB := funext fun a => funext (eqB_std a)
theorem sc2_ok {a b : P} (h : Sy.sc2 a b = true) : eqOk a b = true := by
  cases a <;> cases b <;> first | (cases h; done) | rfl
theorem sc2_eq (a b : P) : (match Sy.sc2 a b with | true => some (P.eqB a b) | false => cmpP .eq a b) = cmpP .eq a b := by
  cases h : Sy.sc2 a b with
  | false => rfl
  | true =>
    show some (P.eqB a b) = if eqOk a b then some (P.eqB a b) else none
    rw [sc2_ok h, if_pos rfl]
theorem ne_eq (a b : P) : (cmpP .eq a b).map (fun z => !z) = cmpP .ne a b := by
  show (if eqOk a b then some (P.eqB a b) else none).map (fun z => !z) = if eqOk a b then some (!P.eqB a b) else none
  cases eqOk a b <;> rfl
theorem binP_std : Sy.binP std = binP := rfl
theorem inn_std (a b : P) : Sy.cmpP std .inn a b = cmpP .inn a b := by
  cases a with
  | str s => rcases s with _ | ⟨c, _ | ⟨d, r⟩⟩ <;> cases b <;> rfl
  | _ => cases b <;> rfl
theorem if_not {c : Prop} [Decidable c] (z : Bool) : (if c then some (!z) else none) = (if c then some z else none).map fun z => !z := by split <;> rfl
theorem nin_std (a b : P) : Sy.cmpP std .nin a b = cmpP .nin a b := by
  have e : ∀ b, (∀ s, b ≠ .str s) → cmpP .nin a b = (cmpP .inn a b).map fun z => !z := fun b hb => by
    cases b with
    | str s => exact (hb s rfl).elim
    | lst ys =>
      cases a with
      | str s => rcases s with _ | ⟨c, _ | ⟨d, r⟩⟩ <;> first | rfl | exact if_not (c := eqOk _ (.lst ys) = true) (inL _ ys)
      | _ => first | rfl | exact if_not (c := eqOk _ (.lst ys) = true) (inL _ ys)
    | tup ys =>
      cases a with
      | str s => rcases s with _ | ⟨c, _ | ⟨d, r⟩⟩ <;> first | rfl | exact if_not (c := (P.sc _ && ys.all P.sc) = true) (inL _ ys)
      | _ => first | rfl | exact if_not (c := (P.sc _ && ys.all P.sc) = true) (inL _ ys)
    | _ =>
      cases a with
      | str s => rcases s with _ | ⟨c, _ | ⟨d, r⟩⟩ <;> rfl
      | _ => rfl
  cases b with
  | lst ys =>
    rw [e _ fun s => by simp]
    cases a with
    | str s => rcases s with _ | ⟨c, _ | ⟨d, r⟩⟩ <;> rfl
    | _ => rfl
  | tup ys =>
    rw [e _ fun s => by simp]
    cases a with
    | str s => rcases s with _ | ⟨c, _ | ⟨d, r⟩⟩ <;> rfl
    | _ => rfl
  | _ =>
    cases a with
    | str s => rcases s with _ | ⟨c, _ | ⟨d, r⟩⟩ <;> rfl
    | _ => rfl
theorem cmpP_std : Sy.cmpP std = cmpP := by
  funext o a b
  cases o
  case eq =>
    simp only [Sy.cmpP, eqB_f]
    exact sc2_eq a b
  case ne =>
    simp only [Sy.cmpP, eqB_f]
    rw [← ne_eq, ← sc2_eq a b]
    rfl
  case inn => exact inn_std a b
  case nin => exact nin_std a b
  all_goals (cases a <;> cases b <;> rfl)
theorem truP_std : Sy.truP std = truP := rfl
theorem dicGet_std (x : P) : ∀ ks vs, Sy.dicGet std ks vs x = dicGet ks vs x
  | k :: ks, v :: vs => by rw [Sy.dicGet, dicGet, eqB_std, dicGet_std x ks vs]
  | [], _ => by simp [Sy.dicGet, dicGet]
  | _ :: _, [] => by simp [Sy.dicGet, dicGet]
theorem ixM_eq {α : Type} (xs : List α) (i : Int) : ixM xs i = ixAt xs i := by
  unfold ixM ixAt
  cases i with
  | ofNat n => simp
  | negSucc n =>
    simp only [show ¬ (0 : Int) ≤ Int.negSucc n by omega, if_false]
    by_cases h : n < xs.length
    · rw [if_pos h, if_pos (by omega)]
      congr 1
      omega
    · rw [if_neg h, if_neg (by omega)]
theorem ixP_std : Sy.ixP std = ixP := by
  funext a b
  cases a <;> cases b <;> first | rfl | (simp only [Sy.ixP, ixP, dicGet_std, ixM_eq]; done)
theorem biP_std : Sy.biP std = biP := by
  funext b xs
  unfold Sy.biP
  split <;> first | rfl | skip
  rename_i h1 h2 h3 h4 h5 h6 h7 h8 h9 h10 h11 h12 h13
  unfold biP
  split <;> first | rfl | simp_all
theorem ixC_std (i : CE) : Sy.ixC std i = ixP := by
  funext x y
  unfold Sy.ixC
  cases Sy.cst i <;> first | rfl | exact congrFun (congrFun ixP_std x) y
theorem settle_std (as : List AR) (r : P) (own : Bool) (outs cs : Cells) : Sy.settle std as r own outs cs = settle as (resFlat r own) outs cs := by
  unfold Sy.settle settle
  cases h : borIx as with
  | nil =>
    dsimp only
    cases (resFlat r own && outs.all Cell.flat) <;> rfl
  | cons b bs => rfl
theorem doCall_std : Sy.doCall std = doCall := by
  funext call f as cs
  unfold Sy.doCall doCall
  simp only [settle_std]
  all_goals rfl
theorem augP_std : Sy.augP std = augP := rfl
theorem tv_std : Sy.tv std = tv := rfl
end Ev
set_option maxRecDepth 100000
set_option maxHeartbeats 4000000
namespace Ev
section
variable (G : Glob) (call : Nat → List Arg → CR)
mutual
theorem evE_std : ∀ (e : CE) (ρ : Env) (cs : Cells), Sy.evE std G call e ρ cs = evE G call e ρ cs
  | .none, _, _ => rfl
  | .bool _, _, _ => rfl
  | .int _, _, _ => rfl
  | .str _, _, _ => rfl
  | .var _, _, _ => rfl
  | .gl _, _, _ => rfl
  | .bin o a b, ρ, cs => by simp only [Sy.evE, evE, evE_std a, evE_std b, binP_std]
  | .neg a, ρ, cs => by simp only [Sy.evE, evE, evE_std a] <;> rfl
  | .not a, ρ, cs => by simp only [Sy.evE, evE, evE_std a, tv_std]
  | .bop k es, ρ, cs => by simp only [Sy.evE, evE, evBo_std es]
  | .cmp o a b, ρ, cs => by simp only [Sy.evE, evE, evE_std a, evE_std b, cmpP_std]
  | .chain o o' a b c, ρ, cs => by simp only [Sy.evE, evE, evE_std a, evE_std b, evE_std c, cmpP_std]
  | .ite c a b, ρ, cs => by simp only [Sy.evE, evE, evE_std a, evE_std b, evE_std c, tv_std]
  | .ix a i, ρ, cs => by simp only [Sy.evE, evE, evE_std a, evE_std i, ixC_std]
  | .sl a lo hi, ρ, cs => by simp only [Sy.evE, evE, evE_std a, evO_std lo, evO_std hi] <;> rfl
  | .tup es, ρ, cs => by simp only [Sy.evE, evE, evXs_std es]
  | .l a, ρ, cs => by simp only [Sy.evE, evE, evL_std a]
  | .call f as, ρ, cs => by simp only [Sy.evE, evE, evAs_std as, doCall_std]
  | .callK f as pm, ρ, cs => by simp only [Sy.evE, evE, evAs_std as, doCall_std]
  | .mk c as, ρ, cs => rfl
  | .bi o es, ρ, cs => by simp only [Sy.evE, evE, evXs_std es, biP_std]
  | .isi a ts, ρ, cs => by simp only [Sy.evE, evE, evE_std a]
  | .fld a f, ρ, cs => by simp only [Sy.evE, evE, evE_std a] <;> rfl
  | .rev a, ρ, cs => by simp only [Sy.evE, evE, evE_std a] <;> rfl
  | .pm m a es, ρ, cs => rfl
  | .mth i o es, ρ, cs => by simp only [Sy.evE, evE, evXs_std es] <;> rfl
  | .dic ss es, ρ, cs => by simp only [Sy.evE, evE, evXs_std es]
theorem evL_std : ∀ (e : CL) (ρ : Env) (cs : Cells), Sy.evL std G call e ρ cs = evL G call e ρ cs
  | .lst es, ρ, cs => by simp only [Sy.evL, evL, evXs_std es]
  | .lc g own it ts e, ρ, cs => by simp only [Sy.evL, evL, evI_std it, evTs_std ts, evE_std e] <;> rfl
  | .lof a, ρ, cs => by simp only [Sy.evL, evL, evE_std a] <;> rfl
  | .call f as, ρ, cs => by simp only [Sy.evL, evL, evAs_std as, doCall_std] <;> rfl
theorem evO_std : ∀ (e : CO) (ρ : Env) (cs : Cells), Sy.evO std G call e ρ cs = evO G call e ρ cs
  | .none, _, _ => rfl
  | .some a, ρ, cs => by simp only [Sy.evO, evO, evE_std a] <;> rfl
theorem evBo_std : ∀ (es : CEs) (k : Bool) (ρ : Env) (cs : Cells), Sy.evBo std G call k es ρ cs = evBo G call k es ρ cs
  | .nil, _, _, _ => rfl
  | .cons a .nil, k, ρ, cs => by
    show (Sy.evE std G call a ρ cs).bind (fun v cs => .ok v cs) = (evE G call a ρ cs).bind fun v cs => .ok v cs
    simp only [evE_std a]
  | .cons a (.cons b bs), k, ρ, cs => by
    show (Sy.evE std G call a ρ cs).bind (fun v cs => (R.opt cs ((viewV cs v).bind (Sy.truP std))).bind fun q cs => if q == k then Sy.evBo std G call k (.cons b bs) ρ cs else .ok v cs) =
      (evE G call a ρ cs).bind (fun v cs => (R.opt cs ((viewV cs v).bind truP)).bind fun q cs => if q == k then evBo G call k (.cons b bs) ρ cs else .ok v cs)
    simp only [evE_std a, truP_std, evBo_std (.cons b bs)]
theorem evXs_std : ∀ (es : CEs) (ρ : Env) (cs : Cells), Sy.evXs std G call es ρ cs = evXs G call es ρ cs
  | .nil, _, _ => rfl
  | .cons a as, ρ, cs => by simp only [Sy.evXs, evXs, evE_std a, evXs_std as]
theorem evTs_std : ∀ (es : CEs) (ρ : Env) (cs : Cells), Sy.evTs std G call es ρ cs = evTs G call es ρ cs
  | .nil, _, _ => rfl
  | .cons a as, ρ, cs => by simp only [Sy.evTs, evTs, evE_std a, evTs_std as, tv_std]
theorem evAs_std : ∀ (es : CAs) (ρ : Env) (cs : Cells), Sy.evAs std G call es ρ cs = evAs G call es ρ cs
  | .nil, _, _ => rfl
  | .imm a as, ρ, cs => by simp only [Sy.evAs, evAs, evE_std a, evAs_std as] <;> rfl
  | .mv i as, ρ, cs => by simp only [Sy.evAs, evAs, evAs_std as] <;> rfl
  | .ml a as, ρ, cs => by simp only [Sy.evAs, evAs, evL_std a, evAs_std as]
theorem evI_std : ∀ (it : CI) (ρ : Env) (cs : Cells), Sy.evI std G call it ρ cs = evI G call it ρ cs
  | .sq a, ρ, cs => by simp only [Sy.evI, evI, evE_std a]
  | .r1 a, ρ, cs => by simp only [Sy.evI, evI, evE_std a] <;> rfl
  | .r2 a b, ρ, cs => by simp only [Sy.evI, evI, evE_std a, evE_std b]
  | .r3 _ _ _, ρ, cs => rfl
  | .en a, ρ, cs => by simp only [Sy.evI, evI, evE_std a]
  | .zp _ _, ρ, cs => rfl
end
variable (m : Nat)
mutual
theorem evS_std : ∀ (s : CS) (ρ : Env) (cs : Cells), Sy.evS std G call m s ρ cs = evS G call m s ρ cs
  | .ex e, ρ, cs => by simp only [Sy.evS, evS, evE_std]
  | .set (.nm i) e, ρ, cs => by simp only [Sy.evS, evS, evE_std]
  | .set (.tp ts) e, ρ, cs => by simp only [Sy.evS, evS, evE_std] <;> rfl
  | .setL i e, ρ, cs => by simp only [Sy.evS, evS, evL_std]
  | .sti i ie e, ρ, cs => by simp only [Sy.evS, evS, evE_std] <;> rfl
  | .stf i f e, ρ, cs => by simp only [Sy.evS, evS, evE_std]
  | .aug i o e, ρ, cs => by simp only [Sy.evS, evS, evE_std, augP_std] <;> rfl
  | .par i j a b, ρ, cs => by simp only [Sy.evS, evS, evXs_std] <;> rfl
  | .iff t a b, ρ, cs => by simp only [Sy.evS, evS, evE_std, tv_std, evSs_std a, evSs_std b]
  | .fr t it b, ρ, cs => by
    rw [Sy.evS]
    show (Sy.evI std G call it ρ cs).toS ρ _ = _
    simp only [evS, evI_std, evSs_std b]
    all_goals rfl
  | .whl n t b, ρ, cs => by
    rw [Sy.evS]
    show whL (fun ρ cs => Sy.tv std (Sy.evE std G call t ρ cs)) (fun ρ cs => Sy.evSs std G call m b ρ cs) n ρ cs = _
    simp only [evS, evE_std, tv_std, evSs_std b]
  | .ret e, ρ, cs => by simp only [Sy.evS, evS, evE_std] <;> rfl
  | .retL e, ρ, cs => by simp only [Sy.evS, evS, evL_std]
  | .retN, _, _ => rfl
  | .pass, _, _ => rfl
  | .brk, _, _ => rfl
  | .cnt, _, _ => rfl
  | .stk, _, _ => rfl
theorem evSs_std : ∀ (s : CSs) (ρ : Env) (cs : Cells), Sy.evSs std G call m s ρ cs = evSs G call m s ρ cs
  | .nil, _, _ => rfl
  | .cons s r, ρ, cs => by simp only [Sy.evSs, evSs, evS_std s, evSs_std r]
  | .kill is r, ρ, cs => by simp only [Sy.evSs, evSs, evSs_std r]
end
theorem runFn_std (d : FnD) (args : List Arg) : Sy.runFn std G call d args = runFn G call d args := by
  unfold Sy.runFn runFn
  simp only [evSs_std]
end
theorem evCall_std (G : Glob) : ∀ (k f : Nat) (args : List Arg), Sy.evCall std G k f args = evCall G k f args
  | 0, _, _ => rfl
  | k + 1, f, args => by
    have : Sy.evCall std G k = evCall G k := funext fun f => funext (evCall_std G k f)
    rw [Sy.evCall, evCall, this]
    simp only [runFn_std]
    all_goals rfl
end Ev
set_option maxRecDepth 100000
set_option maxHeartbeats 4000000
/-! EvV: what the open evaluator comes to -/
namespace Ev
/-- a value within that nothing can be changed, as cbv leaves it -/
theorem mflat {x : P} (h : P.flat x = true) : P.flat.match_1 (fun _ => Bool) x (fun _ => true) (fun _ => true) (fun _ => true) (fun _ => true) P.flatL (fun _ => false) = true := by
  cases x <;> first | rfl | exact h | cases h
abbrev Mflat (x : P) : Prop := P.flat.match_1 (fun _ => Bool) x (fun _ => true) (fun _ => true) (fun _ => true) (fun _ => true) P.flatL (fun _ => false) = true
namespace Sy
theorem wp_fn {O : Ops} {G : Glob} {k f : Nat} {d : FnD} {args : List Arg} {φ : P → Bool → Cells → Prop} (hd : G.fns f = some d) (hl : args.length = d.np)
    (h : (evSs O G (evCall O G k) (argCells args).length d.body (argEnv args 0 ++ List.replicate (d.ns - d.np) none) (argCells args)).wp (fun _ cs => φ .none false (cs.take (argCells args).length)) (fun x w cs => φ x w (cs.take (argCells args).length)) (fun _ _ => False) fun _ _ => False) :
    (evCall O G (k + 1) f args).wp φ := by
  rw [evCall, hd]
  dsimp only
  rw [runFn, if_pos hl]
  revert h
  generalize evSs O G (evCall O G k) (argCells args).length d.body (argEnv args 0 ++ List.replicate (d.ns - d.np) none) (argCells args) = r
  cases r <;> exact fun h => h
theorem for_eq2 {O : Ops} {G : Glob} {call : Nat → List Arg → CR} {m : Nat} (hO : ∀ s ρ cs f, O .box s ρ cs f = f ()) {t : TG} {it : CI} {b : CSs} {ρ : Env} {cs cs' : Cells} {xs : List P} (h1 : evI O G call it ρ cs = .ok xs cs') (h2 : lockIx it ρ cs' = none) :
    evS O G call m (.fr t it b) ρ cs = forL (fun x ρ cs => match asgT t x ρ with | some ρ' => evSs O G call m b ρ' cs | none => .stk) xs ρ cs' := by
  rw [evS, hO]
  simp only [h1, R.toS, h2, lockC]
  generalize forL _ xs ρ cs' = r
  cases r <;> rfl
end Sy
end Ev
set_option maxRecDepth 100000
set_option maxHeartbeats 1000000
set_option exponentiation.threshold 10000
/-! EvW: facts of the words, lists by what their items are, loops and comprehensions of the open evaluator -/
namespace Ev
theorem wp_ex {r : CR} {φ : P → Bool → Cells → Prop} (h : r.wp φ) : ∃ x w cs, r = .ok x w cs ∧ φ x w cs := by
  cases r with
  | ok x w cs => exact ⟨x, w, cs, rfl, h⟩
  | _ => exact h.elim
theorem ok_of {r : CR} {x : P} {w : Bool} {cs : Cells} (h : r.wp fun v o c => v = x ∧ o = w ∧ c = cs) : r = .ok x w cs := by
  obtain ⟨v, o, c, e, rfl, rfl, rfl⟩ := wp_ex h
  exact e
/-! ### data that is equal to itself -/
mutual
theorem eqB_refl : ∀ x : P, x.dat = true → P.eqB x x = true
  | .none, _ => rfl
  | .bool b, _ => by cases b <;> rfl
  | .int i, _ => by show decide (i = i) = true; exact decide_eq_true rfl
  | .str s, _ => by show decide (s = s) = true; exact decide_eq_true rfl
  | .lst xs, h => by simp only [P.eqB]; exact eqL_refl xs (by simpa [P.dat] using h)
  | .tup xs, h => by simp only [P.eqB]; exact eqL_refl xs (by simpa [P.dat] using h)
  | .dic _ _, h => by simp [P.dat] at h
  | .ins _ _, h => by simp [P.dat] at h
  | .scr _, h => by simp [P.dat] at h
theorem eqL_refl : ∀ xs : List P, P.datL xs = true → P.eqL xs xs = true
  | [], _ => rfl
  | x :: xs, h => by
    rw [P.datL, Bool.and_eq_true] at h
    simp only [P.eqL]
    rw [eqB_refl x h.1, eqL_refl xs h.2]
    rfl
end
/-- a row of n items -/
def LP (n : Int) (φ : P → Prop) (xs : List P) : Prop := (xs.length : Int) = n ∧ ∀ x, x ∈ xs → φ x
/-- a number from lo up to below hi -/
def IsI (lo hi : Int) (x : P) : Prop := ∃ i : Int, x = .int i ∧ lo ≤ i ∧ i < hi
def IsN (x : P) : Prop := ∃ i : Int, x = .int i
theorem LP.imp {n : Int} {φ ψ : P → Prop} {xs : List P} (h : LP n φ xs) (i : ∀ x, φ x → ψ x) : LP n ψ xs := ⟨h.1, fun x m => i x (h.2 x m)⟩
theorem LP.nil {φ : P → Prop} : LP 0 φ [] := ⟨rfl, fun x h => by simp at h⟩
theorem LP.get {n : Int} {φ : P → Prop} {xs : List P} (h : LP n φ xs) {p : Int} (h0 : 0 ≤ p) (h1 : p < n) : ∃ x, φ x ∧ xs[p.toNat]? = some x ∧ ixAt xs p = some x := by
  have l : p.toNat < xs.length := by have := h.1; omega
  refine ⟨xs[p.toNat], h.2 _ (List.getElem_mem l), by simp [l], ?_⟩
  unfold ixAt
  rw [if_pos h0]
  simp [l]
theorem LP.snoc {n : Int} {φ : P → Prop} {xs : List P} (h : LP n φ xs) {x : P} (q : φ x) : LP (n + 1) φ (xs ++ [x]) := by
  refine ⟨by have := h.1; simp; omega, fun y m => ?_⟩
  rcases List.mem_append.mp m with m | m
  · exact h.2 y m
  · simp at m; subst m; exact q
theorem LP.map {n : Int} {φ ψ : P → Prop} {g : P → P} {xs : List P} (h : LP n φ xs) (i : ∀ x, φ x → ψ (g x)) : LP n ψ (xs.map g) := ⟨by rw [List.length_map]; exact h.1, fun y m => by
  obtain ⟨x, m', rfl⟩ := List.mem_map.mp m
  exact i x (h.2 x m')⟩
theorem LP.tail {n : Int} {φ : P → Prop} {x : P} {xs : List P} (h : LP n φ (x :: xs)) : LP (n - 1) φ xs := ⟨by have := h.1; simp at this; omega, fun y m => h.2 y (by simp [m])⟩
theorem LP.head {n : Int} {φ : P → Prop} {x : P} {xs : List P} (h : LP n φ (x :: xs)) : φ x := h.2 x (by simp)
theorem LP.to {n m : Int} {φ : P → Prop} {xs : List P} (h : LP n φ xs) (e : n = m) : LP m φ xs := e ▸ h
theorem LP.dat1 {n : Int} {xs : List P} (h : LP n IsN xs) : (P.lst xs).dat = true ∧ (P.lst xs).dep ≤ 1 := by
  have key : ∀ ys : List P, (∀ x, x ∈ ys → IsN x) → P.datL ys = true ∧ P.depL ys = 0 := fun ys => by
    induction ys with
    | nil => exact fun _ => ⟨rfl, rfl⟩
    | cons y ys ih =>
      intro q
      obtain ⟨i, rfl⟩ := q y (by simp)
      obtain ⟨a, b⟩ := ih fun x m => q x (by simp [m])
      exact ⟨by simp [P.datL, P.dat, a], by simp [P.depL, P.dep, b]⟩
  obtain ⟨a, b⟩ := key xs h.2
  exact ⟨by simp [P.dat, a], by simp [P.dep, b]⟩
theorem LP.dat2 {n : Int} {xs : List P} (h : LP n (fun x => ∃ r, x = .lst r ∧ ∃ m, LP m IsN r) xs) : (P.lst xs).dat = true ∧ (P.lst xs).dep ≤ 2 := by
  have key : ∀ ys : List P, (∀ x, x ∈ ys → ∃ r, x = .lst r ∧ ∃ m, LP m IsN r) → P.datL ys = true ∧ P.depL ys ≤ 1 := fun ys => by
    induction ys with
    | nil => exact fun _ => ⟨rfl, by simp [P.depL]⟩
    | cons y ys ih =>
      intro q
      obtain ⟨r, rfl, m, hr⟩ := q y (by simp)
      obtain ⟨a, b⟩ := ih fun x m => q x (by simp [m])
      obtain ⟨c, d⟩ := hr.dat1
      refine ⟨by simp [P.datL, c, a], ?_⟩
      simp only [P.depL]
      omega
  obtain ⟨a, b⟩ := key xs h.2
  exact ⟨by simp [P.dat, a], by simp only [P.dep]; omega⟩
theorem rngV_mem (a : Int) (n : Nat) : ∀ x, x ∈ rngV a n → ∃ i : Int, x = .int i ∧ a ≤ i ∧ i < a + n := by
  induction n generalizing a with
  | zero => intro x h; simp [rngV] at h
  | succ n ih =>
    intro x h
    rw [rngV] at h
    rcases List.mem_cons.mp h with rfl | h
    · exact ⟨a, rfl, by omega, by omega⟩
    · obtain ⟨i, e, h1, h2⟩ := ih (a + 1) x h
      exact ⟨i, e, by omega, by omega⟩
theorem rngV_lp {n : Int} (h : 0 ≤ n) : LP n (IsI 0 n) (rngV 0 n.toNat) := ⟨by rw [rngV_len]; omega, fun x m => by
  obtain ⟨i, e, h1, h2⟩ := rngV_mem 0 n.toNat x m
  exact ⟨i, e, h1, by omega⟩⟩
namespace Sy
section
variable {O : Ops} (hO : O = std)
include hO
theorem box_ (s : CS) (ρ : Env) (cs : Cells) (f : Unit → RS) : O .box s ρ cs f = f () := by rw [hO]; rfl
theorem boxL_ (s : CL) (ρ : Env) (cs : Cells) (f : Unit → R (List P)) : O .boxL s ρ cs f = f () := by rw [hO]; rfl
theorem iadd_ (a b : Int) : O .iadd a b = a + b := by rw [hO]; rfl
theorem isub_ (a b : Int) : O .isub a b = a - b := by rw [hO]; rfl
theorem imul_ (a b : Int) : O .imul a b = a * b := by rw [hO]; rfl
theorem idiv_ (a b : Int) : O .idiv a b = a.fdiv b := by rw [hO]; rfl
theorem imod_ (a b : Int) : O .imod a b = a.fmod b := by rw [hO]; rfl
theorem imin_ (a b : Int) : O .imin a b = if b < a then b else a := by rw [hO]; rfl
theorem imax_ (a b : Int) : O .imax a b = if b > a then b else a := by rw [hO]; rfl
theorem ieq_t {a b : Int} (h : O .ieq a b = true) : a = b := by rw [hO] at h; exact of_decide_eq_true h
theorem ieq_f {a b : Int} (h : O .ieq a b = false) : a ≠ b := by rw [hO] at h; exact of_decide_eq_false h
theorem ieq_tt {a b : Int} (h : a = b) : O .ieq a b = true := by rw [hO]; exact decide_eq_true h
theorem ieq_ff {a b : Int} (h : a ≠ b) : O .ieq a b = false := by rw [hO]; exact decide_eq_false h
theorem ilt_t {a b : Int} (h : O .ilt a b = true) : a < b := by rw [hO] at h; exact of_decide_eq_true h
theorem ilt_f {a b : Int} (h : O .ilt a b = false) : ¬ a < b := by rw [hO] at h; exact of_decide_eq_false h
theorem ilt_tt {a b : Int} (h : a < b) : O .ilt a b = true := by rw [hO]; exact decide_eq_true h
theorem ilt_ff {a b : Int} (h : ¬ a < b) : O .ilt a b = false := by rw [hO]; exact decide_eq_false h
theorem ile_t {a b : Int} (h : O .ile a b = true) : a ≤ b := by rw [hO] at h; exact of_decide_eq_true h
theorem ile_f {a b : Int} (h : O .ile a b = false) : ¬ a ≤ b := by rw [hO] at h; exact of_decide_eq_false h
theorem ile_tt {a b : Int} (h : a ≤ b) : O .ile a b = true := by rw [hO]; exact decide_eq_true h
theorem ile_ff {a b : Int} (h : ¬ a ≤ b) : O .ile a b = false := by rw [hO]; exact decide_eq_false h
theorem mul_l {i j : Int} (h1 : -(2 ^ 64) < i) (h2 : i < 2 ^ 64) : O .mulB i j = true := by
  rw [hO]
  exact (decide_eq_true (.inl ⟨h1, h2⟩) : decide (mulOk i j) = true)
theorem mul_r {i j : Int} (h1 : -(2 ^ 64) < j) (h2 : j < 2 ^ 64) : O .mulB i j = true := by
  rw [hO]
  exact (decide_eq_true (.inr (.inl ⟨h1, h2⟩)) : decide (mulOk i j) = true)
theorem mod_ok {j : Int} (h : j ≠ 0) : O .modB j = true := by
  rw [hO]
  exact (decide_eq_true h : decide (j ≠ 0) = true)
omit hO in
theorem big9000 : (2 : Nat) ^ 100 < 2 ^ 9000 := Nat.pow_lt_pow_right (by decide) (by decide)
theorem div_ok {j : Int} (h : 0 < j) (h1 : j < 2 ^ 100) : O .divB j = true := by
  rw [hO]
  exact (decide_eq_true ⟨by omega, Nat.lt_trans (by omega) big9000⟩ : decide (divOk j) = true)
theorem imod_pos {i j : Int} (h : 0 < j) : 0 ≤ O .imod i j ∧ O .imod i j < j := by
  rw [hO]
  exact ⟨Int.fmod_nonneg_of_pos i h, Int.fmod_lt_of_pos i h⟩
theorem eqc_refl {x : P} (h1 : x.dat = true) (h2 : x.dep ≤ 64) : O .eqc x x = some true := by
  rw [hO]
  show (if eqOk x x then some (P.eqB x x) else none) = some true
  have : eqOk x x = true := by
    unfold eqOk
    rw [h1, decide_eq_true h2]
    rfl
  rw [this, if_pos rfl, eqB_refl x h1]
theorem ixv_ : O .ixv = Ev.ixP := by rw [hO]; rfl
theorem len_ : O .len = fun x => Ev.biP .len [x] := by rw [hO]; rfl
theorem bil_ : O .bil = fun b x => Ev.biP b [x] := by rw [hO]; rfl
theorem sto_ : O .sto = stoC := by rw [hO]; rfl
theorem mth_ : O .mth = mthC := by rw [hO]; rfl
theorem lp_ix {n : Int} {φ : P → Prop} {xs : List P} (h : LP n φ xs) {p : Int} (h0 : 0 ≤ p) (h1 : p < n) : ∃ x, φ x ∧ O .ixv (.lst xs) (.int p) = some x ∧ O .ixv (.tup xs) (.int p) = some x := by
  obtain ⟨x, q, _, e⟩ := h.get h0 h1
  rw [ixv_ hO]
  exact ⟨x, q, e, e⟩
theorem lp_len {n : Int} {φ : P → Prop} {xs : List P} (h : LP n φ xs) : O .len (.lst xs) = some (.int n) ∧ O .len (.tup xs) = some (.int n) := by
  rw [len_ hO, ← h.1]
  exact ⟨rfl, rfl⟩
theorem lp_sto {n : Int} {φ : P → Prop} {xs : List P} (h : LP n φ xs) {p : Int} (h0 : 0 ≤ p) (h1 : p < n) {v : P} (q : φ v) : ∃ ys, O .sto (.lst xs) (.int p) v = some (.lst ys) ∧ LP n φ ys := by
  refine ⟨xs.set p.toNat v, ?_, by rw [List.length_set]; exact h.1, fun x m => ?_⟩
  · rw [sto_ hO]
    show (ixSet xs p v).map Cell.lst = _
    unfold ixSet
    rw [if_pos h0, if_pos (by have := h.1; omega)]
    rfl
  · rcases List.mem_or_eq_of_mem_set m with m | rfl
    · exact h.2 x m
    · exact q
theorem lp_app {n : Int} {φ : P → Prop} {xs : List P} (h : LP n φ xs) (hn : n < 16777216) {v : P} (q : φ v) : O .mth .append (.lst xs) [v] = some (.lst (xs ++ [v]), .none) ∧ LP (n + 1) φ (xs ++ [v]) := by
  refine ⟨?_, h.snoc q⟩
  rw [mth_ hO]
  show ((if xs.length < SZ then some (xs ++ [v], P.none) else none).map fun r => (Cell.lst r.1, r.2)) = _
  rw [if_pos (by have := h.1; show xs.length < 16777216; omega)]
  rfl
theorem lp_ins {n : Int} {φ : P → Prop} {xs : List P} (h : LP n φ xs) (hn : n < 16777216) {p : Int} (h0 : 0 ≤ p) (h1 : p ≤ n) {v : P} (q : φ v) : ∃ ys, O .mth .insert (.lst xs) [.int p, v] = some (.lst ys, .none) ∧ LP (n + 1) φ ys := by
  refine ⟨xs.take p.toNat ++ v :: xs.drop p.toNat, ?_, by have := h.1; simp; omega, fun x m => ?_⟩
  · rw [mth_ hO]
    show ((if xs.length < SZ ∧ 0 ≤ p ∧ p < 2 ^ 63 then some (xs.take p.toNat ++ v :: xs.drop p.toNat, P.none) else none).map fun r => (Cell.lst r.1, r.2)) = _
    rw [if_pos ⟨by have := h.1; show xs.length < 16777216; omega, h0, by omega⟩]
    rfl
  · rcases List.mem_append.mp m with m | m
    · exact h.2 x (List.mem_of_mem_take m)
    · rcases List.mem_cons.mp m with rfl | m
      · exact q
      · exact h.2 x (List.mem_of_mem_drop m)
theorem all_true {xs : List P} (h : ∀ x, x ∈ xs → x = .bool true) : O .bil .all (.lst xs) = some (.bool true) := by
  rw [bil_ hO]
  show (boolsOf xs).map (fun bs => P.bool (bs.all id)) = _
  have : ∀ ys : List P, (∀ x, x ∈ ys → x = .bool true) → ∃ bs, boolsOf ys = some bs ∧ bs.all id = true := fun ys => by
    induction ys with
    | nil => exact fun _ => ⟨[], rfl, rfl⟩
    | cons y ys ih =>
      intro q
      obtain rfl := q y (by simp)
      obtain ⟨bs, e, a⟩ := ih fun x m => q x (by simp [m])
      exact ⟨true :: bs, by rw [boolsOf, e]; rfl, by simp [a]⟩
  obtain ⟨bs, e, a⟩ := this xs h
  rw [e]
  show some (P.bool (bs.all id)) = _
  rw [a]
theorem cat_ll {n m : Int} {φ : P → Prop} {xs ys : List P} (h : LP n φ xs) (h' : LP m φ ys) (l : n + m ≤ 16777216) : O .cat (.lst xs) (.lst ys) = some (.lst (xs ++ ys)) ∧ LP (n + m) φ (xs ++ ys) := by
  refine ⟨?_, by have := h.1; have := h'.1; simp; omega, fun x m => (List.mem_append.mp m).elim (h.2 x) (h'.2 x)⟩
  rw [hO]
  show (if xs.length + ys.length ≤ SZ then some (P.lst (xs ++ ys)) else none) = _
  rw [if_pos (by have := h.1; have := h'.1; show _ ≤ 16777216; omega)]
theorem cat_t1 (x : P) {k : Int} (h0 : 1 ≤ k) (h1 : k ≤ 1000) : O .cat (.tup [x]) (.int k) = some (.tup (List.replicate k.toNat x)) := by
  rw [hO]
  show (if [x].isEmpty = false ∧ 1 ≤ k ∧ k ≤ 1000 ∧ [x].length ≤ 1000 then some (P.tup (rep [x] k)) else none) = _
  rw [if_pos ⟨rfl, h0, h1, by simp⟩]
  unfold rep
  rw [List.flatten_replicate_singleton]
theorem min_two (a b : Int) : O .bil .min (.lst [.int a, .int b]) = some (.int (if b < a then b else a)) := by rw [hO]; rfl
theorem max_two (a b : Int) : O .bil .max (.lst [.int a, .int b]) = some (.int (if b > a then b else a)) := by rw [hO]; rfl
theorem sum_ok {n lo hi : Int} {xs : List P} (h : LP n (IsI lo hi) xs) (l0 : 0 ≤ lo) (l1 : 0 ≤ hi) : ∃ s : Int, O .bil .sum (.lst xs) = some (.int s) ∧ 0 ≤ s ∧ s ≤ n * hi := by
  have key : ∀ ys : List P, (∀ x, x ∈ ys → IsI lo hi x) → ∃ ns, intsOf ys = some ns ∧ 0 ≤ ns.sum ∧ ns.sum ≤ ys.length * hi := fun ys => by
    induction ys with
    | nil => exact fun _ => ⟨[], rfl, by simp, by simp⟩
    | cons y ys ih =>
      intro q
      obtain ⟨i, rfl, i0, i1⟩ := q y (by simp)
      obtain ⟨ns, e, a, b⟩ := ih fun x m => q x (by simp [m])
      refine ⟨i :: ns, by rw [intsOf, e]; rfl, by simp; omega, ?_⟩
      simp only [List.sum_cons, List.length_cons]
      have : ((ys.length + 1 : Nat) : Int) * hi = ys.length * hi + hi := by rw [Int.natCast_add, Int.add_mul]; simp
      rw [this]
      omega
  obtain ⟨ns, e, a, b⟩ := key xs h.2
  refine ⟨ns.sum, ?_, a, by rw [← h.1]; exact b⟩
  rw [hO]
  show (intsOf xs).map (fun ns => P.int (isum ns)) = _
  rw [e]
  rfl
theorem slw_scr (ns : List Int) (hn : ns.length ≤ 63) (lo hi : Option Int) : ∃ zs, O .slw (.scr ns) lo hi = some (.lst zs) ∧ (∃ m, m ≤ 63 ∧ LP m IsN zs) := by
  refine ⟨(cut ns lo hi).map .int, by rw [hO]; rfl, _, ?_, rfl, fun x m => ?_⟩
  · unfold cut
    simp only [List.length_map, List.length_take, List.length_drop]
    omega
  · obtain ⟨i, _, rfl⟩ := List.mem_map.mp m
    exact ⟨i, rfl⟩
theorem rev_lp {n : Int} {φ : P → Prop} {xs : List P} (h : LP n φ xs) : LP n φ (O .revw xs) := by
  rw [hO]
  exact ⟨by show ((List.reverse xs).length : Int) = n; rw [List.length_reverse]; exact h.1, fun x m => h.2 x (List.mem_reverse.mp m)⟩
section
variable {G : Glob} {call : Nat → List Arg → CR} {m : Nat}
omit hO in
theorem evI_r1 {a : CE} {ρ : Env} {cs cs' : Cells} {n : Int} (h : evE O G call a ρ cs = .ok (.p (.int n)) cs') (h1 : -(2 ^ 62) ≤ n) (h2 : n ≤ 16777216) : evI O G call (.r1 a) ρ cs = .ok (rngV 0 n.toNat) cs' := by
  simp only [evI, vw, h, R.ok_bind, viewV, R.opt_some]
  rw [if_pos ⟨h1, h2⟩]
theorem lc_eq {g : TG} {own : List Nat} {it : CI} {ts : CEs} {e : CE} {ρ : Env} {cs cs' : Cells} {xs : List P} (h1 : evI O G call it ρ cs = .ok xs cs') (h2 : lockIx it ρ cs' = none) (h3 : xs.length ≤ SZ) :
    evL O G call (.lc g own it ts e) ρ cs = lcLoop (fun x cs => match asgT g x (wipe ρ own) with
        | some ρ' => (evTs O G call ts ρ' cs).bind fun k cs => if k then (evE O G call e ρ' cs).bind fun v cs => (escV cs v).bind fun y cs => .ok (some y) cs else .ok Option.none cs
        | Option.none => .stk) xs cs' [] := by
  rw [evL, boxL_ hO]
  simp only [h1, R.ok_bind]
  rw [if_pos h3, h2]
  simp only [lockC]
  generalize lcLoop _ xs cs' [] = r
  cases r <;> rfl
end
end
end Sy
theorem lcL_gen {f : P → Cells → R (Option P)} (I : List P → Cells → List P → Prop) (hs : ∀ x xs cs acc, I (x :: xs) cs acc → (∃ y cs', f x cs = .ok (some y) cs' ∧ I xs cs' (acc ++ [y])) ∨ ∃ cs', f x cs = .ok none cs' ∧ I xs cs' acc) :
    ∀ (xs : List P) (cs : Cells) (acc : List P), I xs cs acc → ∃ zs cs', lcLoop f xs cs acc = .ok zs cs' ∧ I [] cs' zs
  | [], cs, acc, h => ⟨acc, cs, rfl, h⟩
  | x :: xs, cs, acc, h => by
    rw [lcLoop]
    rcases hs x xs cs acc h with ⟨y, cs', e, h'⟩ | ⟨cs', e, h'⟩
    · rw [e]; exact lcL_gen I hs xs _ _ h'
    · rw [e]; exact lcL_gen I hs xs _ _ h'
/-- two loops side by side -/
theorem forL_two {b1 b2 : P → Env → Cells → RS} (I : List P → Env → Cells → Env → Cells → Prop)
    (hs : ∀ x xs ρ1 c1 ρ2 c2, I (x :: xs) ρ1 c1 ρ2 c2 → ∃ ρ1' c1' ρ2' c2', b1 x ρ1 c1 = .nx ρ1' c1' ∧ b2 x ρ2 c2 = .nx ρ2' c2' ∧ I xs (trimE c1.length ρ1') (c1'.take c1.length) (trimE c2.length ρ2') (c2'.take c2.length)) :
    ∀ (xs : List P) (ρ1 : Env) (c1 : Cells) (ρ2 : Env) (c2 : Cells), I xs ρ1 c1 ρ2 c2 → ∃ ρ1' c1' ρ2' c2', forL b1 xs ρ1 c1 = .nx ρ1' c1' ∧ forL b2 xs ρ2 c2 = .nx ρ2' c2' ∧ I [] ρ1' c1' ρ2' c2'
  | [], ρ1, c1, ρ2, c2, h => ⟨ρ1, c1, ρ2, c2, rfl, rfl, h⟩
  | x :: xs, ρ1, c1, ρ2, c2, h => by
    obtain ⟨ρ1', c1', ρ2', c2', e1, e2, h'⟩ := hs x xs ρ1 c1 ρ2 c2 h
    rw [forL, forL, e1, e2]
    exact forL_two I hs xs _ _ _ _ h'
end Ev
set_option maxRecDepth 100000
set_option maxHeartbeats 0
namespace K29
open PySem PySem.Spec PyProof.Rows L2
open Ev (CE CL CO CEs CAs CI CS CSs FnD)
def top (i : Nat) : Stmt := PySem.Challenge.pw_stillinstep_k29_walk_ticks_whole.main.body.getD i (.Pass ⟨0, 0, 0, 0⟩)
def lc_are_seats_1 : CL := .lc (.nm 2) [2] (.sq (.var 0)) .nil (.bop true (.cons (.cmp .le (.int 0) (.var 2)) (.cons (.cmp .lt (.var 2) (.var 1)) .nil)))
def b_are_seats : CSs :=
  (.cons (.ret (.bop true (.cons (.cmp .le (.int 1) (.bi .len (.cons (.var 0) .nil))) (.cons (.cmp .le (.bi .len (.cons (.var 0) .nil)) (.int 16)) (.cons (.bi .all (.cons (.l lc_are_seats_1) .nil)) .nil)))))
  .nil)
def f_are_seats : FnD := ⟨2, [false, false], 3, b_are_seats⟩
def d_are_seats : He.DefD := ⟨("are_seats", none), "are_seats", "are_seats", defArgs (top 5), defBody (top 5), defScope (top 5), [], []⟩
def lc_is_leaning_row_1 : CL := .lc (.nm 2) [2] (.sq (.var 0)) .nil (.bop false (.cons (.cmp .eq (.var 2) (.int 0)) (.cons (.cmp .eq (.var 2) (.int 1)) .nil)))
def b_is_leaning_row : CSs :=
  (.cons (.ret (.bop true (.cons (.cmp .eq (.bi .len (.cons (.var 0) .nil)) (.bin .sub (.var 1) (.int 1))) (.cons (.bi .all (.cons (.l lc_is_leaning_row_1) .nil)) .nil))))
  .nil)
def f_is_leaning_row : FnD := ⟨2, [false, false], 3, b_is_leaning_row⟩
def d_is_leaning_row : He.DefD := ⟨("is_leaning_row", none), "is_leaning_row", "is_leaning_row", defArgs (top 6), defBody (top 6), defScope (top 6), [], []⟩
def b_leaning_child : CSs :=
  (.cons (.ret (.bin .add (.bin .mul (.int 2) (.var 2)) (.ix (.ix (.fld (.var 0) 2) (.var 1)) (.bin .sub (.var 2) (.int 1)))))
  .nil)
def f_leaning_child : FnD := ⟨3, [false, false, false], 3, b_leaning_child⟩
def d_leaning_child : He.DefD := ⟨("leaning_child", none), "leaning_child", "leaning_child", defArgs (top 8), defBody (top 8), defScope (top 8), [], []⟩
def b_start_standing : CSs :=
  (.cons (.ret (.tup (.cons (.bin .mul (.tup (.cons (.int 0) .nil)) (.bin .mul (.int 2) (.fld (.var 0) 4))) (.cons (.bin .mul (.tup (.cons (.int 0) .nil)) (.fld (.var 0) 4)) (.cons (.bin .mul (.tup (.cons (.int 0) .nil)) (.fld (.var 0) 3)) .nil)))))
  .nil)
def f_start_standing : FnD := ⟨1, [false], 1, b_start_standing⟩
def d_start_standing : He.DefD := ⟨("start_standing", none), "start_standing", "start_standing", defArgs (top 10), defBody (top 10), defScope (top 10), [], []⟩
def b_is_over : CSs :=
  (.cons (.ret (.cmp .eq (.ix (.ix (.var 0) (.int 0)) (.int 1)) (.int 1)))
  .nil)
def f_is_over : FnD := ⟨1, [false], 1, b_is_over⟩
def d_is_over : He.DefD := ⟨("is_over", none), "is_over", "is_over", defArgs (top 11), defBody (top 11), defScope (top 11), [], []⟩
def b_child_to_enter : CSs :=
  (.cons (.iff (.cmp .eq (.ix (.var 1) (.bin .mul (.int 2) (.var 3))) (.int 1)) (.cons (.ret (.bin .add (.bin .mul (.int 2) (.var 3)) (.int 1)))
  .nil) .nil)
  (.cons (.iff (.cmp .eq (.ix (.var 1) (.bin .add (.bin .mul (.int 2) (.var 3)) (.int 1))) (.int 1)) (.cons (.ret (.bin .mul (.int 2) (.var 3)))
  .nil) .nil)
  (.cons (.ret (.call 2 (.imm (.var 0) (.imm (.var 2) (.imm (.var 3) .nil)))))
  .nil)))
def f_child_to_enter : FnD := ⟨4, [false, false, false, false], 4, b_child_to_enter⟩
def d_child_to_enter : He.DefD := ⟨("child_to_enter", none), "child_to_enter", "child_to_enter", defArgs (top 12), defBody (top 12), defScope (top 12), [], []⟩
def b_walk_turn : CSs :=
  (.cons (.set (.tp (.cons (.nm 4) (.cons (.nm 5) (.cons (.nm 6) .nil)))) (.var 2))
  (.cons (.set (.nm 7) (.ix (.var 6) (.var 3)))
  (.cons (.iff (.call 4 (.imm (.var 2) .nil)) (.cons (.ret (.tup (.cons (.str [105, 100, 108, 101]) (.cons (.var 7) (.cons (.var 7) .nil)))))
  .nil) .nil)
  (.cons (.iff (.cmp .eq (.var 7) (.int 0)) (.cons (.ret (.tup (.cons (.str [116, 97, 107, 101]) (.cons (.int 0) (.cons (.bin .add (.fld (.var 0) 4) (.ix (.fld (.var 0) 1) (.var 3))) .nil)))))
  .nil) .nil)
  (.cons (.iff (.cmp .eq (.ix (.var 4) (.var 7)) (.int 1)) (.cons (.ret (.tup (.cons (.str [117, 112]) (.cons (.var 7) (.cons (.bin .fdiv (.var 7) (.int 2)) .nil)))))
  .nil) .nil)
  (.cons (.iff (.cmp .ge (.var 7) (.fld (.var 0) 4)) (.cons (.ret (.tup (.cons (.str [119, 111, 114, 107]) (.cons (.var 7) (.cons (.var 7) .nil)))))
  .nil) .nil)
  (.cons (.iff (.bop true (.cons (.cmp .eq (.ix (.var 4) (.bin .mul (.int 2) (.var 7))) (.int 1)) (.cons (.cmp .eq (.ix (.var 4) (.bin .add (.bin .mul (.int 2) (.var 7)) (.int 1))) (.int 1)) .nil))) (.cons (.ret (.tup (.cons (.str [109, 97, 114, 107]) (.cons (.var 7) (.cons (.var 7) .nil)))))
  .nil) .nil)
  (.cons (.ret (.tup (.cons (.str [100, 111, 119, 110]) (.cons (.var 7) (.cons (.call 5 (.imm (.var 0) (.imm (.var 4) (.imm (.var 3) (.imm (.var 7) .nil))))) .nil)))))
  .nil))))))))
def f_walk_turn : FnD := ⟨4, [false, false, false, false], 8, b_walk_turn⟩
def d_walk_turn : He.DefD := ⟨("walk_turn", none), "walk_turn", "walk_turn", defArgs (top 13), defBody (top 13), defScope (top 13), [], []⟩
def lp_walk_tick_1 : CS := .fr (.nm 7) (.sq (.var 3)) (.cons (.set (.tp (.cons (.nm 8) (.cons (.nm 9) (.cons (.nm 10) .nil)))) (.call 6 (.imm (.var 0) (.imm (.var 1) (.imm (.var 2) (.imm (.var 7) .nil))))))
  (.cons (.sti 6 (.var 7) (.var 10))
  (.cons (.iff (.cmp .eq (.var 8) (.str [119, 111, 114, 107])) (.cons (.set (.nm 11) (.bin .sub (.var 9) (.fld (.var 0) 4)))
  (.cons (.sti 5 (.var 11) (.bin .add (.ix (.ix (.var 2) (.int 1)) (.var 11)) (.int 1)))
  (.cons (.iff (.cmp .eq (.ix (.var 5) (.var 11)) (.ix (.var 1) (.var 11))) (.cons (.sti 4 (.var 9) (.int 1))
  .nil) .nil)
  .nil))) .nil)
  (.cons (.iff (.cmp .eq (.var 8) (.str [109, 97, 114, 107])) (.cons (.sti 4 (.var 9) (.int 1))
  .nil) .nil)
  .nil))))
def b_walk_tick : CSs :=
  (.cons (.setL 4 (.lof (.ix (.var 2) (.int 0))))
  (.cons (.setL 5 (.lof (.ix (.var 2) (.int 1))))
  (.cons (.setL 6 (.lof (.ix (.var 2) (.int 2))))
  (.cons lp_walk_tick_1
  (.cons (.ret (.tup (.cons (.bi .tuple (.cons (.var 4) .nil)) (.cons (.bi .tuple (.cons (.var 5) .nil)) (.cons (.bi .tuple (.cons (.var 6) .nil)) .nil)))))
  .nil)))))
def f_walk_tick : FnD := ⟨4, [false, false, false, false], 12, b_walk_tick⟩
def d_walk_tick : He.DefD := ⟨("walk_tick", none), "walk_tick", "walk_tick", defArgs (top 14), defBody (top 14), defScope (top 14), [], []⟩
def b__law_whole : CSs :=
  (.cons (.ret (.bop true (.cons (.isi (.var 0) [.int]) (.cons (.not (.isi (.var 0) [.bool])) .nil))))
  .nil)
def f__law_whole : FnD := ⟨1, [false], 1, b__law_whole⟩
def d__law_whole : He.DefD := ⟨("_law_whole", none), "_law_whole", "_law_whole", defArgs (top 16), defBody (top 16), defScope (top 16), [], []⟩
def lp__law_cell_1 : CS := .fr (.nm 3) (.sq (.var 0)) (.cons (.set (.nm 2) (.bin .mod (.bi .int (.cons (.bin .add (.bin .mul (.var 2) (.int 31)) (.bin .mod (.bi .int (.cons (.var 3) .nil)) (.int 1000003))) .nil)) (.int 1000003)))
  .nil)
def b__law_cell : CSs :=
  (.cons (.iff (.cmp .lt (.var 1) (.bi .len (.cons (.var 0) .nil))) (.cons (.ret (.ix (.var 0) (.var 1)))
  .nil) .nil)
  (.cons (.set (.nm 2) (.int 17))
  (.cons lp__law_cell_1
  (.cons (.ret (.bin .mod (.bi .int (.cons (.bin .mul (.bin .mul (.bin .add (.var 2) (.int 7)) (.bin .add (.var 1) (.int 3))) (.int 69621)) .nil)) (.int 2147483647)))
  .nil))))
def f__law_cell : FnD := ⟨2, [false, false], 4, b__law_cell⟩
def d__law_cell : He.DefD := ⟨("_law_cell", none), "_law_cell", "_law_cell", defArgs (top 17), defBody (top 17), defScope (top 17), [], []⟩
def b__law_feed : CSs :=
  (.cons (.set (.nm 1) (.bi .int (.cons (.var 0) .nil)))
  (.cons (.iff (.cmp .ge (.var 1) (.bin .pow (.int 10) (.int 18))) (.cons (.retL (.lst (.cons (.int 1) (.cons (.bin .sub (.var 1) (.bin .pow (.int 10) (.int 18))) (.cons (.int 0) .nil)))))
  .nil) .nil)
  (.cons (.retL (.lst (.cons (.int 0) (.cons (.bin .mod (.bi .int (.cons (.var 1) .nil)) (.int 2147483629)) (.cons (.int 0) .nil)))))
  .nil)))
def f__law_feed : FnD := ⟨1, [false], 2, b__law_feed⟩
def d__law_feed : He.DefD := ⟨("_law_feed", none), "_law_feed", "_law_feed", defArgs (top 18), defBody (top 18), defScope (top 18), [], []⟩
def b__law_take : CSs :=
  (.cons (.sti 0 (.int 2) (.bin .add (.ix (.var 0) (.int 2)) (.int 1)))
  (.cons (.iff (.bop true (.cons (.cmp .eq (.ix (.var 0) (.int 0)) (.int 1)) (.cons (.cmp .eq (.ix (.var 0) (.int 1)) (.int 0)) .nil))) (.cons (.sti 0 (.int 0) (.int 0))
  (.cons (.sti 0 (.int 1) (.bin .add (.int 7919) (.ix (.var 0) (.int 2))))
  .nil)) .nil)
  (.cons (.iff (.cmp .eq (.ix (.var 0) (.int 0)) (.int 1)) (.cons (.set (.nm 2) (.bin .mod (.bi .int (.cons (.ix (.var 0) (.int 1)) .nil)) (.var 1)))
  (.cons (.sti 0 (.int 1) (.bin .fdiv (.bi .int (.cons (.ix (.var 0) (.int 1)) .nil)) (.var 1)))
  (.cons (.ret (.var 2))
  .nil))) .nil)
  (.cons (.sti 0 (.int 1) (.bin .mod (.bi .int (.cons (.bin .add (.bin .add (.bin .mul (.ix (.var 0) (.int 1)) (.int 48271)) (.bin .mul (.int 974711) (.ix (.var 0) (.int 2)))) (.int 12345)) .nil)) (.int 2147483647)))
  (.cons (.set (.nm 3) (.bin .mod (.bi .int (.cons (.bin .mul (.ix (.var 0) (.int 1)) (.bin .add (.bin .fdiv (.ix (.var 0) (.int 1)) (.int 65537)) (.int 3))) .nil)) (.int 2147483629)))
  (.cons (.ret (.bin .mod (.bin .fdiv (.var 3) (.int 19)) (.var 1)))
  .nil))))))
def f__law_take : FnD := ⟨2, [true, false], 4, b__law_take⟩
def d__law_take : He.DefD := ⟨("_law_take", none), "_law_take", "_law_take", defArgs (top 19), defBody (top 19), defScope (top 19), [], []⟩
def lc__law_crew_1 : CL := .lc (.nm 11) [11] (.r1 (.bin .sub (.var 5) (.int 1))) .nil (.int 0)
def lc__law_crew_2 : CL := .lc (.nm 11) [11] (.r1 (.bin .sub (.var 5) (.int 1))) .nil (.int 1)
def lc__law_crew_3 : CL := .lc (.nm 11) [11] (.r1 (.bin .sub (.var 5) (.int 1))) .nil (.call 11 (.mv 0 (.imm (.int 2) .nil)))
def lp__law_crew_1 : CS := .fr (.nm 9) (.r1 (.var 4)) (.cons (.iff (.cmp .eq (.var 6) (.int 0)) (.cons (.ex (.mth 7 .append (.cons (.bin .fdiv (.bin .mul (.var 9) (.var 5)) (.var 4)) .nil)))
  .nil) (.cons (.iff (.cmp .eq (.var 6) (.int 1)) (.cons (.ex (.mth 7 .append (.cons (.bin .mul (.call 11 (.mv 0 (.imm (.int 2) .nil))) (.bin .sub (.var 5) (.int 1))) .nil)))
  .nil) (.cons (.ex (.mth 7 .append (.cons (.call 11 (.mv 0 (.imm (.var 5) .nil))) .nil)))
  .nil))
  .nil))
  (.cons (.set (.nm 10) (.call 11 (.mv 0 (.imm (.int 4) .nil))))
  (.cons (.iff (.cmp .eq (.var 10) (.int 0)) (.cons (.ex (.mth 8 .append (.cons (.l lc__law_crew_1) .nil)))
  .nil) (.cons (.iff (.cmp .eq (.var 10) (.int 1)) (.cons (.ex (.mth 8 .append (.cons (.l lc__law_crew_2) .nil)))
  .nil) (.cons (.ex (.mth 8 .append (.cons (.l lc__law_crew_3) .nil)))
  .nil))
  .nil))
  .nil)))
def b__law_crew : CSs :=
  (.cons (.set (.nm 3) (.bin .add (.int 1) (.call 11 (.mv 0 (.imm (.var 1) .nil)))))
  (.cons (.iff (.cmp .eq (.call 11 (.mv 0 (.imm (.int 3) .nil))) (.int 0)) (.cons (.set (.nm 3) (.bi .min (.cons (.var 3) (.cons (.int 2) .nil))))
  .nil) .nil)
  (.cons (.set (.nm 4) (.bin .add (.int 1) (.call 11 (.mv 0 (.imm (.var 2) .nil)))))
  (.cons (.set (.nm 5) (.ix (.l (.lst (.cons (.int 1) (.cons (.int 2) (.cons (.int 4) (.cons (.int 8) (.cons (.int 16) .nil))))))) (.var 3)))
  (.cons (.set (.nm 6) (.call 11 (.mv 0 (.imm (.int 4) .nil))))
  (.cons (.setL 7 (.lst .nil))
  (.cons (.setL 8 (.lst .nil))
  (.cons lp__law_crew_1
  (.cons (.retL (.lst (.cons (.var 3) (.cons (.var 7) (.cons (.var 8) .nil)))))
  .nil)))))))))
def f__law_crew : FnD := ⟨3, [true, false, false], 12, b__law_crew⟩
def d__law_crew : He.DefD := ⟨("_law_crew", none), "_law_crew", "_law_crew", defArgs (top 20), defBody (top 20), defScope (top 20), [], []⟩
def b__law_rows : CSs :=
  (.cons (.setL 1 (.call 10 (.imm (.var 0) .nil)))
  (.cons (.set (.nm 2) (.call 11 (.mv 1 (.imm (.int 8) .nil))))
  (.cons (.retL (.call 12 (.mv 1 (.imm (.ix (.l (.lst (.cons (.int 2) (.cons (.int 3) (.cons (.int 4) (.cons (.int 2) (.cons (.int 3) (.cons (.int 2) (.cons (.int 4) (.cons (.int 4) .nil)))))))))) (.var 2)) (.imm (.ix (.l (.lst (.cons (.int 4) (.cons (.int 5) (.cons (.int 6) (.cons (.int 8) (.cons (.int 3) (.cons (.int 6) (.cons (.int 16) (.cons (.int 8) .nil)))))))))) (.var 2)) .nil)))))
  .nil)))
def f__law_rows : FnD := ⟨1, [false], 3, b__law_rows⟩
def d__law_rows : He.DefD := ⟨("_law_rows", none), "_law_rows", "_law_rows", defArgs (top 21), defBody (top 21), defScope (top 21), [], []⟩
def lc__law_need_row_1 : CL := .lc (.nm 4) [4] (.r1 (.var 1)) .nil (.bin .add (.int 1) (.call 11 (.mv 2 (.imm (.var 3) .nil))))
def b__law_need_row : CSs :=
  (.cons (.setL 2 (.call 10 (.imm (.var 0) .nil)))
  (.cons (.set (.nm 3) (.ix (.l (.lst (.cons (.int 2) (.cons (.int 3) (.cons (.int 1) (.cons (.int 2) (.cons (.int 16) (.cons (.int 4) .nil)))))))) (.call 11 (.mv 2 (.imm (.int 6) .nil)))))
  (.cons (.retL lc__law_need_row_1)
  .nil)))
def f__law_need_row : FnD := ⟨2, [false, false], 5, b__law_need_row⟩
def d__law_need_row : He.DefD := ⟨("_law_need_row", none), "_law_need_row", "_law_need_row", defArgs (top 22), defBody (top 22), defScope (top 22), [], []⟩
def lp__law_some_1 : CS := .fr (.nm 5) (.r1 (.var 1)) (.cons (.set (.nm 6) (.bool true))
  (.cons (.iff (.cmp .lt (.var 2) (.int 2)) (.cons (.set (.nm 6) (.cmp .eq (.var 5) (.var 3)))
  .nil) (.cons (.iff (.cmp .eq (.var 2) (.int 2)) (.cons (.set (.nm 6) (.cmp .ne (.var 5) (.var 3)))
  .nil) (.cons (.iff (.cmp .lt (.var 2) (.int 6)) (.cons (.set (.nm 6) (.cmp .eq (.call 11 (.mv 0 (.imm (.int 2) .nil))) (.int 1)))
  .nil) .nil)
  .nil))
  .nil))
  (.cons (.iff (.var 6) (.cons (.ex (.mth 4 .insert (.cons (.call 11 (.mv 0 (.imm (.bin .add (.bi .len (.cons (.var 4) .nil)) (.int 1)) .nil))) (.cons (.var 5) .nil))))
  .nil) .nil)
  .nil)))
def b__law_some : CSs :=
  (.cons (.set (.nm 2) (.call 11 (.mv 0 (.imm (.int 8) .nil))))
  (.cons (.set (.nm 3) (.call 11 (.mv 0 (.imm (.var 1) .nil))))
  (.cons (.setL 4 (.lst .nil))
  (.cons lp__law_some_1
  (.cons (.ret (.var 4))
  .nil)))))
def f__law_some : FnD := ⟨2, [true, false], 7, b__law_some⟩
def d__law_some : He.DefD := ⟨("_law_some", none), "_law_some", "_law_some", defArgs (top 23), defBody (top 23), defScope (top 23), [], []⟩
def lp__law_groups_1 : CS := .fr (.nm 7) (.r1 (.call 11 (.mv 2 (.imm (.int 41) .nil)))) (.cons (.iff (.cmp .eq (.var 6) (.int 0)) (.cons (.set (.nm 5) (.call 15 (.mv 2 (.imm (.var 1) .nil))))
  (.cons (.set (.nm 6) (.bin .add (.int 1) (.call 11 (.mv 2 (.imm (.var 3) .nil)))))
  .nil)) .nil)
  (.cons (.set (.nm 6) (.bin .sub (.var 6) (.int 1)))
  (.cons (.ex (.mth 4 .append (.cons (.l (.lof (.var 5))) .nil)))
  .nil)))
def b__law_groups : CSs :=
  (.cons (.setL 2 (.call 10 (.imm (.var 0) .nil)))
  (.cons (.set (.nm 3) (.ix (.l (.lst (.cons (.int 1) (.cons (.int 2) (.cons (.int 4) (.cons (.int 9) .nil)))))) (.call 11 (.mv 2 (.imm (.int 4) .nil)))))
  (.cons (.setL 4 (.lst .nil))
  (.cons (.set (.nm 5) (.l (.lst .nil)))
  (.cons (.set (.nm 6) (.int 0))
  (.cons lp__law_groups_1
  (.cons (.ret (.var 4))
  .nil)))))))
def f__law_groups : FnD := ⟨2, [false, false], 8, b__law_groups⟩
def d__law_groups : He.DefD := ⟨("_law_groups", none), "_law_groups", "_law_groups", defArgs (top 24), defBody (top 24), defScope (top 24), [], []⟩
def lc__law_late_1 : CL := .lc (.nm 5) [5] (.r1 (.var 1)) .nil (.var 5)
def b__law_late : CSs :=
  (.cons (.iff (.cmp .eq (.var 2) (.int 0)) (.cons (.retL lc__law_late_1)
  .nil) .nil)
  (.cons (.iff (.cmp .eq (.var 2) (.int 1)) (.cons (.retL (.lst (.cons (.var 3) .nil)))
  .nil) .nil)
  (.cons (.setL 4 (.call 15 (.mv 0 (.imm (.var 1) .nil))))
  (.cons (.iff (.cmp .nin (.var 3) (.var 4)) (.cons (.ex (.mth 4 .append (.cons (.var 3) .nil)))
  .nil) .nil)
  (.cons (.ret (.var 4))
  .nil)))))
def f__law_late : FnD := ⟨4, [true, false, false, false], 6, b__law_late⟩
def d__law_late : He.DefD := ⟨("_law_late", none), "_law_late", "_law_late", defArgs (top 25), defBody (top 25), defScope (top 25), [], []⟩
def lc__law_first_spot_1 : CL := .lc (.nm 2) [2] (.sq (.ix (.var 0) (.int 1))) .nil (.int 0)
def lc__law_first_spot_2 : CL := .lc (.nm 2) [2] (.r1 (.var 1)) .nil (.int 0)
def lc__law_first_spot_3 : CL := .lc (.nm 2) [2] (.r1 (.bin .mul (.int 2) (.var 1))) .nil (.int 0)
def b__law_first_spot : CSs :=
  (.cons (.set (.nm 1) (.bin .add (.bi .len (.cons (.ix (.ix (.var 0) (.int 2)) (.int 0)) .nil)) (.int 1)))
  (.cons (.retL (.lst (.cons (.l lc__law_first_spot_3) (.cons (.l lc__law_first_spot_2) (.cons (.l lc__law_first_spot_1) .nil)))))
  .nil))
def f__law_first_spot : FnD := ⟨1, [false], 3, b__law_first_spot⟩
def d__law_first_spot : He.DefD := ⟨("_law_first_spot", none), "_law_first_spot", "_law_first_spot", defArgs (top 26), defBody (top 26), defScope (top 26), [], []⟩
def b__law_triple : CSs :=
  (.cons (.ret (.tup (.cons (.bi .tuple (.cons (.ix (.var 0) (.int 0)) .nil)) (.cons (.bi .tuple (.cons (.ix (.var 0) (.int 1)) .nil)) (.cons (.bi .tuple (.cons (.ix (.var 0) (.int 2)) .nil)) .nil)))))
  .nil)
def f__law_triple : FnD := ⟨1, [false], 1, b__law_triple⟩
def d__law_triple : He.DefD := ⟨("_law_triple", none), "_law_triple", "_law_triple", defArgs (top 27), defBody (top 27), defScope (top 27), [], []⟩
def b__law_walk_turn : CSs :=
  (.cons (.set (.nm 3) (.bin .add (.bi .len (.cons (.ix (.ix (.var 0) (.int 2)) (.int 0)) .nil)) (.int 1)))
  (.cons (.set (.nm 4) (.ix (.ix (.var 1) (.int 2)) (.var 2)))
  (.cons (.iff (.cmp .eq (.ix (.ix (.var 1) (.int 0)) (.int 1)) (.int 1)) (.cons (.retL (.lst (.cons (.str [105, 100, 108, 101]) (.cons (.var 4) (.cons (.var 4) .nil)))))
  .nil) .nil)
  (.cons (.iff (.cmp .eq (.var 4) (.int 0)) (.cons (.retL (.lst (.cons (.str [116, 97, 107, 101]) (.cons (.int 0) (.cons (.bin .add (.var 3) (.ix (.ix (.var 0) (.int 1)) (.var 2))) .nil)))))
  .nil) .nil)
  (.cons (.iff (.cmp .eq (.ix (.ix (.var 1) (.int 0)) (.var 4)) (.int 1)) (.cons (.retL (.lst (.cons (.str [117, 112]) (.cons (.var 4) (.cons (.bin .fdiv (.var 4) (.int 2)) .nil)))))
  .nil) .nil)
  (.cons (.iff (.cmp .ge (.var 4) (.var 3)) (.cons (.retL (.lst (.cons (.str [119, 111, 114, 107]) (.cons (.var 4) (.cons (.var 4) .nil)))))
  .nil) .nil)
  (.cons (.set (.nm 5) (.ix (.ix (.var 1) (.int 0)) (.bin .mul (.int 2) (.var 4))))
  (.cons (.set (.nm 6) (.ix (.ix (.var 1) (.int 0)) (.bin .add (.bin .mul (.int 2) (.var 4)) (.int 1))))
  (.cons (.iff (.bop true (.cons (.cmp .eq (.var 5) (.int 1)) (.cons (.cmp .eq (.var 6) (.int 1)) .nil))) (.cons (.retL (.lst (.cons (.str [109, 97, 114, 107]) (.cons (.var 4) (.cons (.var 4) .nil)))))
  .nil) .nil)
  (.cons (.iff (.bop true (.cons (.cmp .eq (.var 5) (.int 0)) (.cons (.cmp .eq (.var 6) (.int 0)) .nil))) (.cons (.retL (.lst (.cons (.str [100, 111, 119, 110]) (.cons (.var 4) (.cons (.bin .add (.bin .mul (.int 2) (.var 4)) (.ix (.ix (.ix (.var 0) (.int 2)) (.var 2)) (.bin .sub (.var 4) (.int 1)))) .nil)))))
  .nil) .nil)
  (.cons (.retL (.lst (.cons (.str [100, 111, 119, 110]) (.cons (.var 4) (.cons (.bin .add (.bin .mul (.int 2) (.var 4)) (.var 5)) .nil)))))
  .nil)))))))))))
def f__law_walk_turn : FnD := ⟨3, [false, false, false], 7, b__law_walk_turn⟩
def d__law_walk_turn : He.DefD := ⟨("_law_walk_turn", none), "_law_walk_turn", "_law_walk_turn", defArgs (top 28), defBody (top 28), defScope (top 28), [], []⟩
def lp__law_walk_tick_1 : CS := .fr (.nm 8) (.sq (.var 3)) (.cons (.set (.nm 9) (.call 20 (.imm (.var 0) (.imm (.var 2) (.imm (.var 8) .nil)))))
  (.cons (.sti 7 (.var 8) (.ix (.var 9) (.int 2)))
  (.cons (.iff (.cmp .eq (.ix (.var 9) (.int 0)) (.str [119, 111, 114, 107])) (.cons (.set (.nm 10) (.bin .sub (.ix (.var 9) (.int 1)) (.var 4)))
  (.cons (.sti 6 (.var 10) (.bin .add (.ix (.ix (.var 2) (.int 1)) (.var 10)) (.int 1)))
  (.cons (.iff (.cmp .eq (.ix (.var 6) (.var 10)) (.ix (.var 1) (.var 10))) (.cons (.sti 5 (.ix (.var 9) (.int 1)) (.int 1))
  .nil) .nil)
  .nil))) .nil)
  (.cons (.iff (.cmp .eq (.ix (.var 9) (.int 0)) (.str [109, 97, 114, 107])) (.cons (.sti 5 (.ix (.var 9) (.int 1)) (.int 1))
  .nil) .nil)
  .nil))))
def b__law_walk_tick : CSs :=
  (.cons (.set (.nm 4) (.bin .add (.bi .len (.cons (.ix (.ix (.var 0) (.int 2)) (.int 0)) .nil)) (.int 1)))
  (.cons (.setL 5 (.lof (.ix (.var 2) (.int 0))))
  (.cons (.setL 6 (.lof (.ix (.var 2) (.int 1))))
  (.cons (.setL 7 (.lof (.ix (.var 2) (.int 2))))
  (.cons lp__law_walk_tick_1
  (.cons (.retL (.lst (.cons (.var 5) (.cons (.var 6) (.cons (.var 7) .nil)))))
  .nil))))))
def f__law_walk_tick : FnD := ⟨4, [false, false, false, false], 11, b__law_walk_tick⟩
def d__law_walk_tick : He.DefD := ⟨("_law_walk_tick", none), "_law_walk_tick", "_law_walk_tick", defArgs (top 29), defBody (top 29), defScope (top 29), [], []⟩
def lp__law_is_row_1 : CS := .fr (.nm 2) (.sq (.var 0)) (.cons (.iff (.not (.call 8 (.imm (.var 2) .nil))) (.cons (.ret (.bool false))
  .nil) .nil)
  .nil)
def b__law_is_row : CSs :=
  (.cons (.iff (.bop false (.cons (.not (.isi (.var 0) [.tuple])) (.cons (.cmp .ne (.l (.lof (.var 0))) (.var 1)) .nil))) (.cons (.ret (.bool false))
  .nil) .nil)
  (.cons lp__law_is_row_1
  (.cons (.ret (.bool true))
  .nil)))
def f__law_is_row : FnD := ⟨2, [false, false], 3, b__law_is_row⟩
def d__law_is_row : He.DefD := ⟨("_law_is_row", none), "_law_is_row", "_law_is_row", defArgs (top 30), defBody (top 30), defScope (top 30), [], []⟩
def b__law_is_spot : CSs :=
  (.cons (.iff (.bop false (.cons (.not (.isi (.var 0) [.tuple])) (.cons (.cmp .ne (.bi .len (.cons (.var 0) .nil)) (.int 3)) .nil))) (.cons (.ret (.bool false))
  .nil) .nil)
  (.cons (.ret (.bop true (.cons (.call 22 (.imm (.ix (.var 0) (.int 0)) (.imm (.ix (.var 1) (.int 0)) .nil))) (.cons (.call 22 (.imm (.ix (.var 0) (.int 1)) (.imm (.ix (.var 1) (.int 1)) .nil))) (.cons (.call 22 (.imm (.ix (.var 0) (.int 2)) (.imm (.ix (.var 1) (.int 2)) .nil))) .nil)))))
  .nil))
def f__law_is_spot : FnD := ⟨2, [false, false], 2, b__law_is_spot⟩
def d__law_is_spot : He.DefD := ⟨("_law_is_spot", none), "_law_is_spot", "_law_is_spot", defArgs (top 31), defBody (top 31), defScope (top 31), [], []⟩
def b__law_tick_holds : CSs :=
  (.cons (.set (.nm 5) (.call 21 (.imm (.ix (.var 1) (.int 0)) (.imm (.ix (.var 1) (.int 1)) (.imm (.var 2) (.imm (.var 3) .nil))))))
  (.cons (.iff (.cmp .eq (.var 4) (.int 1)) (.cons (.ret (.call 23 (.imm (.call 7 (.imm (.var 0) (.imm (.bi .tuple (.cons (.ix (.var 1) (.int 1)) .nil)) (.imm (.call 19 (.imm (.var 2) .nil)) (.imm (.bi .tuple (.cons (.var 3) .nil)) .nil))))) (.imm (.var 5) .nil))))
  .nil) .nil)
  (.cons (.set (.nm 6) (.l (.lof (.ix (.var 1) (.int 1)))))
  (.cons (.set (.nm 7) (.l (.lof (.var 3))))
  (.cons (.set (.nm 8) (.call 7 (.imm (.var 0) (.imm (.var 6) (.imm (.call 19 (.imm (.var 2) .nil)) (.imm (.var 7) .nil))))))
  (.cons (.ret (.bop true (.cons (.call 23 (.imm (.var 8) (.imm (.var 5) .nil))) (.cons (.cmp .eq (.var 6) (.ix (.var 1) (.int 1))) (.cons (.cmp .eq (.var 7) (.var 3)) .nil)))))
  .nil))))))
def f__law_tick_holds : FnD := ⟨5, [false, false, false, false, false], 9, b__law_tick_holds⟩
def d__law_tick_holds : He.DefD := ⟨("_law_tick_holds", none), "_law_tick_holds", "_law_tick_holds", defArgs (top 32), defBody (top 32), defScope (top 32), [], []⟩
def lc__law_stays_1 : CL := .lc (.nm 2) [2] (.sq (.fld (.var 0) 2)) .nil (.l (.lof (.var 2)))
def b__law_stays : CSs :=
  (.cons (.iff (.bop false (.cons (.cmp .ne (.fld (.var 0) 0) (.ix (.var 1) (.int 0))) (.cons (.cmp .ne (.l (.lof (.fld (.var 0) 1))) (.ix (.var 1) (.int 1))) .nil))) (.cons (.ret (.bool false))
  .nil) .nil)
  (.cons (.ret (.cmp .eq (.l lc__law_stays_1) (.ix (.var 1) (.int 2))))
  .nil))
def f__law_stays : FnD := ⟨2, [false, false], 3, b__law_stays⟩
def d__law_stays : He.DefD := ⟨("_law_stays", none), "_law_stays", "_law_stays", defArgs (top 33), defBody (top 33), defScope (top 33), [], []⟩
def lp_law_1 : CS := .fr (.nm 16) (.sq (.rev (.var 11))) (.cons (.iff (.not (.call 24 (.imm (.ix (.var 4) (.ix (.var 16) (.int 0))) (.imm (.ix (.var 7) (.ix (.var 16) (.int 0))) (.imm (.ix (.var 16) (.int 1)) (.imm (.ix (.var 16) (.int 2)) (.imm (.bin .fdiv (.var 2) (.int 2)) .nil))))))) (.cons (.ret (.bool false))
  .nil) .nil)
  .nil)
def lc_law_1 : CL := .lc (.nm 22) [22] (.r1 (.ix (.var 5) (.var 10))) .nil (.var 22)
def lp_law_2 : CS := .fr (.nm 14) (.sq (.l (.lst (.cons (.l lc_law_1) (.cons (.l (.lst (.cons (.var 6) .nil))) (.cons (.l (.lst .nil)) .nil)))))) (.cons (.iff (.not (.call 24 (.imm (.ix (.var 4) (.var 10)) (.imm (.ix (.var 7) (.var 10)) (.imm (.ix (.var 9) (.var 10)) (.imm (.var 14) (.imm (.var 10) .nil))))))) (.cons (.ret (.bool false))
  .nil) .nil)
  .nil)
def lp_law_3 : CS := .fr (.nm 10) (.r1 (.int 2)) (.cons lp_law_2
  .nil)
def lc_law_2 : CL := .lc (.nm 21) [21] (.sq (.var 14)) (.cons (.cmp .lt (.var 21) (.ix (.var 5) (.var 10))) .nil) (.var 21)
def lp_law_4 : CS := .fr (.nm 10) (.r1 (.int 2)) (.cons (.set (.nm 15) (.l lc_law_2))
  (.cons (.iff (.not (.call 24 (.imm (.ix (.var 4) (.var 10)) (.imm (.ix (.var 7) (.var 10)) (.imm (.ix (.var 9) (.var 10)) (.imm (.var 15) (.imm (.bin .mod (.bi .int (.cons (.bin .add (.var 13) (.var 10)) .nil)) (.int 2)) .nil))))))) (.cons (.ret (.bool false))
  .nil) .nil)
  (.cons (.iff (.bop true (.cons (.cmp .eq (.bin .mod (.var 13) (.int 4)) (.int 2)) (.cons (.cmp .lt (.bi .len (.cons (.var 11) .nil)) (.int 16)) .nil))) (.cons (.ex (.mth 11 .append (.cons (.l (.lst (.cons (.var 10) (.cons (.ix (.var 9) (.var 10)) (.cons (.var 15) .nil))))) .nil)))
  .nil) .nil)
  (.cons (.sti 9 (.var 10) (.call 21 (.imm (.ix (.var 3) (.var 10)) (.imm (.ix (.ix (.var 7) (.var 10)) (.int 1)) (.imm (.ix (.var 9) (.var 10)) (.imm (.var 15) .nil))))))
  .nil))))
def lp_law_5 : CS := .fr (.nm 13) (.r1 (.var 12)) (.cons (.iff (.cmp .lt (.var 13) (.bi .len (.cons (.var 8) .nil))) (.cons (.set (.nm 14) (.ix (.var 8) (.var 13)))
  .nil) (.cons (.iff (.bop true (.cons (.cmp .eq (.ix (.ix (.ix (.var 9) (.int 0)) (.int 0)) (.int 1)) (.int 1)) (.cons (.cmp .eq (.ix (.ix (.ix (.var 9) (.int 1)) (.int 0)) (.int 1)) (.int 1)) .nil))) (.cons .brk
  .nil) (.cons (.set (.nm 14) (.call 17 (.mv 1 (.imm (.bi .max (.cons (.var 5) .nil)) (.imm (.var 2) (.imm (.var 6) .nil))))))
  .nil))
  .nil))
  (.cons lp_law_4
  .nil))
def lc_law_3 : CL := .lc (.nm 20) [20] (.sq (.var 7)) .nil (.bin .add (.bi .sum (.cons (.ix (.var 20) (.int 1)) .nil)) (.bin .mul (.int 5) (.bi .len (.cons (.ix (.var 20) (.int 1)) .nil))))
def lp_law_6 : CS := .fr (.nm 10) (.r1 (.int 2)) (.cons (.iff (.not (.call 23 (.imm (.callK 3 (.imm (.ix (.var 4) (.var 10)) .nil) [0]) (.imm (.ix (.var 9) (.var 10)) .nil)))) (.cons (.ret (.bool false))
  .nil) .nil)
  .nil)
def lc_law_4 : CL := .lc (.nm 17) [17] (.sq (.var 3)) .nil (.call 18 (.imm (.var 17) .nil))
def lc_law_5 : CL := .lc (.nm 19) [19] (.sq (.sl (.var 0) (.some (.int 6)) (.some (.int 63)))) .nil (.call 15 (.ml (.call 10 (.imm (.var 19) .nil)) (.imm (.bi .max (.cons (.var 5) .nil)) .nil)))
def lc_law_6 : CL := .lc (.nm 17) [17] (.sq (.var 3)) .nil (.bi .len (.cons (.ix (.var 17) (.int 1)) .nil))
def lc_law_7 : CL := .lc (.nm 18) [18] (.sq (.ix (.var 17) (.int 2))) .nil (.l (.lof (.var 18)))
def lc_law_8 : CL := .lc (.nm 17) [17] (.sq (.var 3)) .nil (.call 27 (.imm (.ix (.var 17) (.int 0)) (.imm (.l (.lof (.ix (.var 17) (.int 1)))) (.imm (.l lc_law_7) .nil))))
def b_law : CSs :=
  (.cons (.setL 1 (.call 10 (.imm (.call 9 (.imm (.var 0) (.imm (.int 3) .nil))) .nil)))
  (.cons (.set (.nm 2) (.call 11 (.mv 1 (.imm (.int 4) .nil))))
  (.cons (.setL 3 (.lst (.cons (.call 13 (.imm (.call 9 (.imm (.var 0) (.imm (.int 0) .nil))) .nil)) (.cons (.call 13 (.imm (.call 9 (.imm (.var 0) (.imm (.int 4) .nil))) .nil)) .nil))))
  (.cons (.setL 4 lc_law_8)
  (.cons (.iff (.cmp .eq (.call 11 (.mv 1 (.imm (.int 2) .nil))) (.int 1)) (.cons (.sti 3 (.int 1) (.ix (.var 3) (.int 0)))
  (.cons (.sti 4 (.int 1) (.ix (.var 4) (.int 0)))
  .nil)) .nil)
  (.cons (.set (.nm 5) (.l lc_law_6))
  (.cons (.set (.nm 6) (.call 11 (.mv 1 (.imm (.bi .min (.cons (.var 5) .nil)) .nil))))
  (.cons (.setL 7 (.lst (.cons (.l (.lst (.cons (.ix (.var 3) (.int 0)) (.cons (.call 14 (.imm (.call 9 (.imm (.var 0) (.imm (.int 1) .nil))) (.imm (.bin .add (.bi .len (.cons (.ix (.ix (.ix (.var 3) (.int 0)) (.int 2)) (.int 0)) .nil)) (.int 1)) .nil))) .nil)))) .nil)))
  (.cons (.ex (.mth 7 .append (.cons (.l (.lst (.cons (.ix (.var 3) (.int 1)) (.cons (.call 14 (.imm (.call 9 (.imm (.var 0) (.imm (.int 5) .nil))) (.imm (.bin .add (.bi .len (.cons (.ix (.ix (.ix (.var 3) (.int 1)) (.int 2)) (.int 0)) .nil)) (.int 1)) .nil))) .nil)))) .nil)))
  (.cons (.set (.nm 8) (.call 16 (.imm (.call 9 (.imm (.var 0) (.imm (.int 2) .nil))) (.imm (.bi .max (.cons (.var 5) .nil)) .nil))))
  (.cons (.set (.nm 8) (.bin .add (.var 8) (.l lc_law_5)))
  (.cons (.setL 9 lc_law_4)
  (.cons lp_law_6
  (.cons (.setL 11 (.lst .nil))
  (.cons (.set (.nm 12) (.bin .add (.bi .len (.cons (.var 8) .nil)) (.bi .max (.cons (.l lc_law_3) .nil))))
  (.cons lp_law_5
  (.cons lp_law_3
  (.cons lp_law_1
  (.cons (.ret (.bop true (.cons (.call 25 (.imm (.ix (.var 4) (.int 0)) (.imm (.ix (.var 3) (.int 0)) .nil))) (.cons (.call 25 (.imm (.ix (.var 4) (.int 1)) (.imm (.ix (.var 3) (.int 1)) .nil))) .nil))))
  .nil)))))))))))))))))))
def f_law : FnD := ⟨1, [false], 23, b_law⟩
def d_law : He.DefD := ⟨("law", none), "law", "law", defArgs (top 34), defBody (top 34), defScope (top 34), [], []⟩
def lc_Crew___init___1 : CL := .lc (.nm 5) [5] (.sq (.var 3)) .nil (.bi .tuple (.cons (.var 5) .nil))
def lc_Crew___init___2 : CL := .lc (.nm 5) [5] (.sq (.var 3)) .nil (.call 1 (.imm (.var 5) (.imm (.var 4) .nil)))
def b_Crew___init__ : CSs :=
  (.cons (.iff (.bop false (.cons (.cmp .lt (.var 1) (.int 1)) (.cons (.cmp .gt (.var 1) (.int 4)) .nil))) (.cons .stk
  .nil) .nil)
  (.cons (.set (.nm 4) (.ix (.gl 0) (.var 1)))
  (.cons (.iff (.not (.call 0 (.imm (.var 2) (.imm (.var 4) .nil)))) (.cons .stk
  .nil) .nil)
  (.cons (.iff (.bop false (.cons (.cmp .ne (.bi .len (.cons (.var 3) .nil)) (.bi .len (.cons (.var 2) .nil))) (.cons (.not (.bi .all (.cons (.l lc_Crew___init___2) .nil))) .nil))) (.cons .stk
  .nil) .nil)
  (.cons (.stf 0 0 (.var 1))
  (.cons (.stf 0 1 (.bi .tuple (.cons (.var 2) .nil)))
  (.cons (.stf 0 2 (.bi .tuple (.cons (.l lc_Crew___init___1) .nil)))
  .nil)))))))
def f_Crew___init__ : FnD := ⟨4, [true, false, false, false], 6, b_Crew___init__⟩
def d_Crew___init__ : He.DefD := ⟨("Crew", some "__init__"), "__init__", "Crew.__init__", defArgs (inClass (top 7) 0), defBody (inClass (top 7) 0), defScope (inClass (top 7) 0), [], []⟩
def b_Crew_workers : CSs :=
  (.cons (.ret (.bi .len (.cons (.fld (.var 0) 1) .nil)))
  .nil)
def f_Crew_workers : FnD := ⟨1, [false], 1, b_Crew_workers⟩
def d_Crew_workers : He.DefD := ⟨("Crew", some "workers"), "workers", "Crew.workers", defArgs (inClass (top 7) 2), defBody (inClass (top 7) 2), defScope (inClass (top 7) 2), [], []⟩
def b_Crew_leaves : CSs :=
  (.cons (.ret (.ix (.gl 0) (.fld (.var 0) 0)))
  .nil)
def f_Crew_leaves : FnD := ⟨1, [false], 1, b_Crew_leaves⟩
def d_Crew_leaves : He.DefD := ⟨("Crew", some "leaves"), "leaves", "Crew.leaves", defArgs (inClass (top 7) 3), defBody (inClass (top 7) 3), defScope (inClass (top 7) 3), [], []⟩
def fnL : List He.DefD := [d_are_seats, d_is_leaning_row, d_leaning_child, d_start_standing, d_is_over, d_child_to_enter, d_walk_turn, d_walk_tick, d__law_whole, d__law_cell, d__law_feed, d__law_take, d__law_crew, d__law_rows, d__law_need_row, d__law_some, d__law_groups, d__law_late, d__law_first_spot, d__law_triple, d__law_walk_turn, d__law_walk_tick, d__law_is_row, d__law_is_spot, d__law_tick_holds, d__law_stays, d_law, d_Crew___init__, d_Crew___init__]
def pfL : List He.DefD := [d_Crew_workers, d_Crew_leaves]
def evL : List (Option FnD) := [some f_are_seats, some f_is_leaning_row, some f_leaning_child, some f_start_standing, some f_is_over, some f_child_to_enter, some f_walk_turn, some f_walk_tick, some f__law_whole, some f__law_cell, some f__law_feed, some f__law_take, some f__law_crew, some f__law_rows, some f__law_need_row, some f__law_some, some f__law_groups, some f__law_late, some f__law_first_spot, some f__law_triple, some f__law_walk_turn, some f__law_walk_tick, some f__law_is_row, some f__law_is_spot, some f__law_tick_holds, some f__law_stays, some f_law, none, some f_Crew___init__, some f_Crew_workers, some f_Crew_leaves]
def NsL : List (List PySem.Str) := [["seats", "leaves", "seat"], ["row", "leaves", "lean"], ["crew", "worker", "node"], ["crew"], ["standing"], ["crew", "done", "worker", "node"], ["crew", "works", "standing", "worker", "done", "counts", "places", "place"], ["crew", "works", "standing", "workers", "done", "counts", "places", "worker", "act", "at", "to", "leaf"], ["value"], ["script", "k", "seed", "cell"], ["cell", "rest"], ["feed", "size", "digit", "twice"], ["feed", "tallest", "upto", "height", "count", "leaves", "kind", "seats", "leanings", "k", "sort", "j"], ["cell", "feed", "size"], ["cell", "leaves", "feed", "top", "leaf"], ["feed", "count", "kind", "lead", "group", "k", "chosen"], ["cell", "count", "feed", "long", "groups", "group", "rest", "k"], ["feed", "count", "style", "lead", "group", "k"], ["crew", "leaves", "k"], ["spot"], ["crew", "spot", "worker", "leaves", "place", "left", "right"], ["crew", "needs", "spot", "group", "leaves", "done", "counts", "places", "worker", "turn", "leaf"], ["actual", "due", "value"], ["actual", "spot"], ["crew", "part", "spot", "group", "shape", "due", "needs", "some", "told"], ["crew", "rows", "row"], ["script", "feed", "style", "pair", "crews", "sizes", "lead", "parts", "groups", "spots", "side", "kept", "limit", "k", "group", "some", "old", "rows", "row", "cell", "part", "worker", "j"], [], ["self", "height", "seats", "leanings", "leaves", "row"], ["self"], ["self"]]
def fnsL : List PySem.Str := ["are_seats", "is_leaning_row", "leaning_child", "start_standing", "is_over", "child_to_enter", "walk_turn", "walk_tick", "_law_whole", "_law_cell", "_law_feed", "_law_take", "_law_crew", "_law_rows", "_law_need_row", "_law_some", "_law_groups", "_law_late", "_law_first_spot", "_law_triple", "_law_walk_turn", "_law_walk_tick", "_law_is_row", "_law_is_spot", "_law_tick_holds", "_law_stays", "law", "Crew"]
def fldsL : List PySem.Str := ["height", "seats", "leanings", "workers", "leaves"]
def clsL : List PySem.Str := ["Crew"]
def mksL : List (Nat × Ev.MkD) := [(27, .cls 0 28), (31, .prop 29), (32, .prop 30)]
def clL : List Ev.ClsD := [⟨[0, 1, 2], [(3, 31), (4, 32)]⟩]
def glsL : List PySem.Str := ["POWERS"]
def gvL : List Ev.P := [(.tup [(.int (1)), (.int (2)), (.int (4)), (.int (8)), (.int (16))])]
def kbL : List (Nat × List PySem.Str × List Nat) := [(3, ["crew"], [0])]
def L : Ev.LawD := ⟨fnL, evL, NsL, ⟨fnsL, glsL, fldsL, clsL, kbL⟩, gvL, pfL, mksL, clL⟩
theorem kwds : Ev.KwA L L.T.kbs := ⟨⟨d_start_standing, rfl, ⟨_, rfl⟩, fun _ _ _ _ _ _ ws hl => match ws, hl with | [_], _ => rfl⟩, trivial⟩
theorem binds : Ev.BindA (L.fn ++ L.pf) := ⟨fun _ _ _ _ _ _ us hl => match us, hl with | [_, _], _ => rfl, ⟨fun _ _ _ _ _ _ us hl => match us, hl with | [_, _], _ => rfl, ⟨fun _ _ _ _ _ _ us hl => match us, hl with | [_, _, _], _ => rfl, ⟨fun _ _ _ _ _ _ us hl => match us, hl with | [_], _ => rfl, ⟨fun _ _ _ _ _ _ us hl => match us, hl with | [_], _ => rfl, ⟨fun _ _ _ _ _ _ us hl => match us, hl with | [_, _, _, _], _ => rfl, ⟨fun _ _ _ _ _ _ us hl => match us, hl with | [_, _, _, _], _ => rfl, ⟨fun _ _ _ _ _ _ us hl => match us, hl with | [_, _, _, _], _ => rfl, ⟨fun _ _ _ _ _ _ us hl => match us, hl with | [_], _ => rfl, ⟨fun _ _ _ _ _ _ us hl => match us, hl with | [_, _], _ => rfl, ⟨fun _ _ _ _ _ _ us hl => match us, hl with | [_], _ => rfl, ⟨fun _ _ _ _ _ _ us hl => match us, hl with | [_, _], _ => rfl, ⟨fun _ _ _ _ _ _ us hl => match us, hl with | [_, _, _], _ => rfl, ⟨fun _ _ _ _ _ _ us hl => match us, hl with | [_], _ => rfl, ⟨fun _ _ _ _ _ _ us hl => match us, hl with | [_, _], _ => rfl, ⟨fun _ _ _ _ _ _ us hl => match us, hl with | [_, _], _ => rfl, ⟨fun _ _ _ _ _ _ us hl => match us, hl with | [_, _], _ => rfl, ⟨fun _ _ _ _ _ _ us hl => match us, hl with | [_, _, _, _], _ => rfl, ⟨fun _ _ _ _ _ _ us hl => match us, hl with | [_], _ => rfl, ⟨fun _ _ _ _ _ _ us hl => match us, hl with | [_], _ => rfl, ⟨fun _ _ _ _ _ _ us hl => match us, hl with | [_, _, _], _ => rfl, ⟨fun _ _ _ _ _ _ us hl => match us, hl with | [_, _, _, _], _ => rfl, ⟨fun _ _ _ _ _ _ us hl => match us, hl with | [_, _], _ => rfl, ⟨fun _ _ _ _ _ _ us hl => match us, hl with | [_, _], _ => rfl, ⟨fun _ _ _ _ _ _ us hl => match us, hl with | [_, _, _, _, _], _ => rfl, ⟨fun _ _ _ _ _ _ us hl => match us, hl with | [_, _], _ => rfl, ⟨fun _ _ _ _ _ _ us hl => match us, hl with | [_], _ => rfl, ⟨fun _ _ _ _ _ _ us hl => match us, hl with | [_, _, _, _], _ => rfl, ⟨fun _ _ _ _ _ _ us hl => match us, hl with | [_, _, _, _], _ => rfl, ⟨fun _ _ _ _ _ _ us hl => match us, hl with | [_], _ => rfl, ⟨fun _ _ _ _ _ _ us hl => match us, hl with | [_], _ => rfl, trivial⟩⟩⟩⟩⟩⟩⟩⟩⟩⟩⟩⟩⟩⟩⟩⟩⟩⟩⟩⟩⟩⟩⟩⟩⟩⟩⟩⟩⟩⟩⟩
theorem chk : L.chk = true := by decide +kernel
def ls0 : List PySem.Str := ["StillError", "BadCrew", "POWERS", "are_seats", "is_leaning_row", "Crew", "leaning_child", "start_standing", "is_over", "child_to_enter", "walk_turn", "walk_tick", "_law_whole", "_law_cell", "_law_feed", "_law_take", "_law_crew", "_law_rows", "_law_need_row", "_law_some", "_law_groups", "_law_late", "_law_first_spot", "_law_triple", "_law_walk_turn", "_law_walk_tick", "_law_is_row", "_law_is_spot", "_law_tick_holds", "_law_stays"]
def loose : List PySem.Str := ls0
/-! ### the head -/
abbrev R : PySem.W.OpenRow := PySem.W.OpenLaw.row PySem.Challenge.rw_stillinstep_k29_walk_ticks_whole
abbrev hk : PySem.W.Hook := Ev.hookP 5 L
def ob (s : PySem.W.SharedT) : Ev.AlP := Ev.obsP 5 L (HandSHeadRun.getT s)
theorem ob_eq (s : PySem.W.SharedT) : ob s = hk.obs s.abs := Ev.obsP_eq (HandSHeadRun.getT_eq s)
theorem run (w : World) : HandSHeadRun.RunEq R (PySem.W.view R.prog [34]) hk ob 4000 loose w := by
  intro os
  kernel_rfl
end K29
set_option maxRecDepth 100000
set_option maxHeartbeats 400000
namespace K29
open Ev
/-- what the proofs know of the words and of the program -/
structure HG (O : Ops) (G : Glob) : Prop where
  std : O = Ev.std
  f0 : G.fns 0 = some f_are_seats
  f1 : G.fns 1 = some f_is_leaning_row
  f2 : G.fns 2 = some f_leaning_child
  f3 : G.fns 3 = some f_start_standing
  f4 : G.fns 4 = some f_is_over
  f5 : G.fns 5 = some f_child_to_enter
  f6 : G.fns 6 = some f_walk_turn
  f7 : G.fns 7 = some f_walk_tick
  f8 : G.fns 8 = some f__law_whole
  f9 : G.fns 9 = some f__law_cell
  f10 : G.fns 10 = some f__law_feed
  f11 : G.fns 11 = some f__law_take
  f12 : G.fns 12 = some f__law_crew
  f13 : G.fns 13 = some f__law_rows
  f14 : G.fns 14 = some f__law_need_row
  f15 : G.fns 15 = some f__law_some
  f16 : G.fns 16 = some f__law_groups
  f17 : G.fns 17 = some f__law_late
  f18 : G.fns 18 = some f__law_first_spot
  f19 : G.fns 19 = some f__law_triple
  f20 : G.fns 20 = some f__law_walk_turn
  f21 : G.fns 21 = some f__law_walk_tick
  f22 : G.fns 22 = some f__law_is_row
  f23 : G.fns 23 = some f__law_is_spot
  f24 : G.fns 24 = some f__law_tick_holds
  f25 : G.fns 25 = some f__law_stays
  f26 : G.fns 26 = some f_law
  f27 : G.fns 27 = none
  f28 : G.fns 28 = some f_Crew___init__
  f29 : G.fns 29 = some f_Crew_workers
  f30 : G.fns 30 = some f_Crew_leaves
  m27 : G.mks 27 = some (.cls 0 28)
  f31 : G.fns 31 = none
  m31 : G.mks 31 = some (.prop 29)
  f32 : G.fns 32 = none
  m32 : G.mks 32 = some (.prop 30)
  c0 : G.cls 0 = some ⟨[0, 1, 2], [(3, 31), (4, 32)]⟩
  g0 : G.gls 0 = some (.tup [(.int (1)), (.int (2)), (.int (4)), (.int (8)), (.int (16))])
theorem hg : HG Ev.std L.G := ⟨rfl, rfl, rfl, rfl, rfl, rfl, rfl, rfl, rfl, rfl, rfl, rfl, rfl, rfl, rfl, rfl, rfl, rfl, rfl, rfl, rfl, rfl, rfl, rfl, rfl, rfl, rfl, rfl, rfl, rfl, rfl, rfl, rfl, rfl, rfl, rfl, rfl, rfl, rfl⟩
end K29
set_option maxRecDepth 100000
set_option maxHeartbeats 400000
set_option exponentiation.threshold 10000
namespace K29
open Ev
section
variable {O : Ops} {G : Glob}
theorem m48271 (H : HG O G) {i : Int} : O .mulB i 48271 = true := Sy.mul_r H.std (by decide) (by decide)
theorem m974711 (H : HG O G) {i : Int} : O .mulB 974711 i = true := Sy.mul_l H.std (by decide) (by decide)
theorem md1 (H : HG O G) : O .modB 2147483647 = true := Sy.mod_ok H.std (by decide)
theorem md2 (H : HG O G) : O .modB 2147483629 = true := Sy.mod_ok H.std (by decide)
theorem dv1 (H : HG O G) : O .divB 65537 = true := Sy.div_ok H.std (by decide) (by decide)
theorem dv2 (H : HG O G) : O .divB 19 = true := Sy.div_ok H.std (by decide) (by decide)
theorem mimod (H : HG O G) {i j : Int} : O .mulB (O .imod i 2147483647) j = true := by
  have := Sy.imod_pos H.std (i := i) (j := 2147483647) (by decide)
  exact Sy.mul_l H.std (by omega) (by omega)
theorem e01 (H : HG O G) : O .ieq 0 1 = false := by rw [H.std]; rfl
/-- a law's feed -/
abbrev fd (x y z : Int) : Cell := .lst [.int x, .int y, .int z]
theorem take_ok {k : Nat} {a b c n : Int} (H : HG O G) (h0 : 0 < n) (h1 : n < 2 ^ 100) {φ : P → Bool → Cells → Prop} (hφ : ∀ d a' b' c' : Int, 0 ≤ d → d < n → φ (.int d) false [.lst [.int a', .int b', .int c']]) :
    (Sy.evCall O G (k + 1) 11 [.mu (.lst [.int a, .int b, .int c]), .imm (.int n)]).wp φ := by
  have hm : O .modB n = true := Sy.mod_ok H.std (by omega)
  have hd : O .divB n = true := Sy.div_ok H.std h0 h1
  refine Sy.wp_fn (d := f__law_take) H.f11 rfl ?_
  cbv
  rw [Sy.sto_ H.std]
  cbv
  cases h : O .ieq a 1
  · cbv
    repeat (first | (rw [h]; cbv) | (rw [m48271 H]; cbv) | (rw [m974711 H]; cbv) | (rw [md1 H]; cbv) | (rw [dv1 H]; cbv) | (rw [mimod H]; cbv) | (rw [md2 H]; cbv) | (rw [dv2 H]; cbv) | (rw [hm]; cbv) | (rw [Sy.sto_ H.std]; cbv))
    exact hφ _ _ _ _ (Sy.imod_pos H.std h0).1 (Sy.imod_pos H.std h0).2
  · cbv
    cases h2 : O .ieq b 0
    · cbv
      repeat (first | (rw [h]; cbv) | (rw [hm]; cbv) | (rw [hd]; cbv) | (rw [Sy.sto_ H.std]; cbv))
      exact hφ _ _ _ _ (Sy.imod_pos H.std h0).1 (Sy.imod_pos H.std h0).2
    · cbv
      repeat (first | (rw [e01 H]; cbv) | (rw [m48271 H]; cbv) | (rw [m974711 H]; cbv) | (rw [md1 H]; cbv) | (rw [dv1 H]; cbv) | (rw [mimod H]; cbv) | (rw [md2 H]; cbv) | (rw [dv2 H]; cbv) | (rw [hm]; cbv) | (rw [Sy.sto_ H.std]; cbv))
      exact hφ _ _ _ _ (Sy.imod_pos H.std h0).1 (Sy.imod_pos H.std h0).2
/-- a feed's cell -/
def Fd (c : Cell) : Prop := ∃ x y z, c = fd x y z
/-- what the feed gives a def's body -/
def Tk (call : Nat → List Arg → CR) : Prop := ∀ (x y z n : Int), 0 < n → n < 2 ^ 100 → ∃ d x' y' z', 0 ≤ d ∧ d < n ∧ call 11 [.mu (fd x y z), .imm (.int n)] = .ok (.int d) false [fd x' y' z']
theorem tk_ok (H : HG O G) (k : Nat) : Tk (Sy.evCall O G (k + 1)) := fun x y z n h0 h1 => by
  obtain ⟨r, w, cs, e, d, a', b', c', rfl, rfl, rfl, g1, g2⟩ := wp_ex (take_ok (k := k) (a := x) (b := y) (c := z) H h0 h1 (φ := fun r w cs => ∃ d a' b' c', r = .int d ∧ w = false ∧ cs = [fd a' b' c'] ∧ 0 ≤ d ∧ d < n) fun d a' b' c' g1 g2 => ⟨d, a', b', c', rfl, rfl, rfl, g1, g2⟩)
  exact ⟨d, a', b', c', g1, g2, e⟩
theorem feed (H : HG O G) (k : Nat) (c : Int) : ∃ x y z : Int, Sy.evCall O G (k + 1) 10 [.imm (.int c)] = .ok (.lst [.int x, .int y, .int z]) true [] := by
  suffices h : (Sy.evCall O G (k + 1) 10 [.imm (.int c)]).wp fun v o cs => ∃ x y z : Int, v = .lst [.int x, .int y, .int z] ∧ o = true ∧ cs = [] by
    obtain ⟨v, o, cs, e, x, y, z, rfl, rfl, rfl⟩ := wp_ex h
    exact ⟨x, y, z, e⟩
  refine Sy.wp_fn (k := k) (d := f__law_feed) H.f10 rfl ?_
  generalize Sy.evCall O G k = call
  have p1 : O .powB 10 18 = true := by rw [H.std]; show Ev.powB 10 18 = true; decide
  cbv
  rw [p1]; cbv
  cases c0 : O .ile (O .ipow 10 18) c <;> cbv
  · rw [md2 H]; cbv
    exact ⟨_, _, _, rfl, rfl, rfl⟩
  · rw [p1]; cbv
    exact ⟨_, _, _, rfl, rfl, rfl⟩
theorem cell_loop (H : HG O G) {call : Nat → List Arg → CR} (ns : List Int) (i : Int) : ∃ (s : Int) (v : Option VP), Sy.evS O G call 0 lp__law_cell_1 [some (.p (.scr ns)), some (.p (.int i)), some (.p (.int 17)), none] [] = .nx [some (.p (.scr ns)), some (.p (.int i)), some (.p (.int s)), v] [] := by
  have ei : Sy.evI O G call (.sq (.var 0)) [some (.p (.scr ns)), some (.p (.int i)), some (.p (.int 17)), none] [] = .ok (ns.map .int) [] := rfl
  rw [lp__law_cell_1, Sy.for_eq2 (Sy.box_ H.std) ei rfl]
  refine forL_gen (Q := fun r => ∃ (s : Int) (v : Option VP), r = .nx [some (.p (.scr ns)), some (.p (.int i)), some (.p (.int s)), v] [])
    (fun xs ρ cs => ∃ (s : Int) (o : Option P), ρ = [some (.p (.scr ns)), some (.p (.int i)), some (.p (.int s)), o.map .p] ∧ cs = [] ∧ ∀ q, q ∈ xs → ∃ j : Int, q = .int j) ?_ ?_ _ _ _ ?_
  · rintro q xs ρ cs ⟨s, o, rfl, rfl, hq⟩
    obtain ⟨j, rfl⟩ := hq q (by simp)
    have m1 : O .mulB s 31 = true := Sy.mul_r H.std (by decide) (by decide)
    have m2 : O .modB 1000003 = true := Sy.mod_ok H.std (by decide)
    refine .inl ⟨[some (.p (.scr ns)), some (.p (.int i)), some (.p (.int (O .imod (O .iadd (O .imul s 31) (O .imod j 1000003)) 1000003))), some (.p (.int j))], [], .inl ?_, _, some (.int j), rfl, rfl, fun q h => hq q (by simp [h])⟩
    cases o <;> (cbv; repeat (first | (rw [m1]; cbv) | (rw [m2]; cbv)))
  · rintro ρ cs ⟨s, o, rfl, rfl, _⟩
    exact ⟨_, _, rfl⟩
  · refine ⟨17, none, rfl, rfl, fun q h => ?_⟩
    obtain ⟨j, _, rfl⟩ := List.mem_map.mp h
    exact ⟨j, rfl⟩
theorem cell (H : HG O G) (k : Nat) (ns : List Int) {i : Int} (h0 : 0 ≤ i) (h1 : i ≤ 100) : ∃ v : Int, Sy.evCall O G (k + 1) 9 [.imm (.scr ns), .imm (.int i)] = .ok (.int v) false [] := by
  suffices h : (Sy.evCall O G (k + 1) 9 [.imm (.scr ns), .imm (.int i)]).wp fun v o cs => ∃ u : Int, v = .int u ∧ o = false ∧ cs = [] by
    obtain ⟨v, o, cs, e, u, rfl, rfl, rfl⟩ := wp_ex h
    exact ⟨u, e⟩
  refine Sy.wp_fn (k := k) (d := f__law_cell) H.f9 rfl ?_
  generalize Sy.evCall O G k = call
  obtain ⟨s, v, e⟩ := cell_loop H (call := call) ns i
  obtain ⟨ln, hln⟩ : ∃ ln : Int, ln = Int.ofNat ns.length := ⟨_, rfl⟩
  have hl : O .len (.scr ns) = some (.int ln) := by rw [Sy.len_ H.std, hln]; rfl
  cbv
  rw [hl]
  cbv
  cases c : O .ilt i ln with
  | true =>
    have hlt : i < ns.length := by
      have h := Sy.ilt_t H.std c
      rw [hln] at h
      exact h
    have hx : O .ixv (.scr ns) (.int i) = some (.int ns[i.toNat]) := by
      rw [Sy.ixv_ H.std]
      show (ixAt ns i).map P.int = _
      unfold ixAt
      rw [if_pos h0, List.getElem?_eq_getElem (by omega)]
      rfl
    generalize ns[i.toNat] = u at hx
    cbv
    rw [hx]
    cbv
    exact ⟨_, rfl, rfl, rfl⟩
  | false =>
    have m1 : O .mulB (O .iadd s 7) (O .iadd i 3) = true := Sy.mul_r H.std (by rw [Sy.iadd_ H.std]; omega) (by rw [Sy.iadd_ H.std]; omega)
    have m2 : ∀ x, O .mulB x 69621 = true := fun x => Sy.mul_r H.std (by decide) (by decide)
    cbv
    cbv at e
    rw [e]
    cbv
    rw [m1]; cbv; rw [m2]; cbv; rw [md1 H]; cbv
    exact ⟨_, rfl, rfl, rfl⟩
end
end K29
set_option maxRecDepth 100000
set_option maxHeartbeats 1000000
namespace K29
open Ev
/-- a height and its leaves -/
def HL (h lv : Int) : Prop := (h = 1 ∧ lv = 2) ∨ (h = 2 ∧ lv = 4) ∨ (h = 3 ∧ lv = 8) ∨ (h = 4 ∧ lv = 16)
theorem HL.b {h lv : Int} (q : HL h lv) : 1 ≤ h ∧ h ≤ 4 ∧ 2 ≤ lv ∧ lv ≤ 16 := by
  unfold HL at q; omega
/-- a row of leanings -/
def RowP (lv : Int) (x : P) : Prop := ∃ r, x = .lst r ∧ LP (lv - 1) (IsI 0 2) r
structure Crw (h lv n : Int) (ss rs : List P) : Prop where
  hl : HL h lv
  n0 : 1 ≤ n
  n1 : n ≤ 16
  ss : LP n (IsI 0 lv) ss
  rs : LP n (RowP lv) rs
section
variable {O : Ops} {G : Glob} {call : Nat → List Arg → CR}
/-- the slots of the def that makes a crew -/
abbrev env12 (t u h n lv kd : Int) (o9 o10 : Option VP) : Env := [some (.ref 0), some (.p (.int t)), some (.p (.int u)), some (.p (.int h)), some (.p (.int n)), some (.p (.int lv)), some (.p (.int kd)), some (.ref 1), some (.ref 2), o9, o10, none]
theorem crew_lc1 (H : HG O G) {t u h n lv kd : Int} (h0 : 2 ≤ lv) (h1 : lv ≤ 16) (o9 o10 : Option VP) (cs : Cells) : ∃ zs, LP (lv - 1) (IsI 0 2) zs ∧ Sy.evL O G call lc__law_crew_1 (env12 t u h n lv kd o9 o10) cs = .ok zs cs := by
  have e := Sy.isub_ H.std lv 1
  have ei : Sy.evI O G call (.r1 (.bin .sub (.var 5) (.int 1))) (env12 t u h n lv kd o9 o10) cs = .ok (rngV 0 (O .isub lv 1).toNat) cs := Sy.evI_r1 (by cbv) (by omega) (by omega)
  have lp := rngV_lp (n := O .isub lv 1) (by omega)
  rw [lc__law_crew_1, Sy.lc_eq H.std ei rfl (by have := lp.1; show _ ≤ 16777216; omega)]
  rw [lcL_all (g := fun _ => .int 0) _ _ _ fun x m => by
    obtain ⟨i, rfl, _, _⟩ := lp.2 x m
    cbv]
  exact ⟨_, (lp.map (ψ := IsI 0 2) (g := fun _ => .int 0) fun x _ => ⟨0, rfl, by decide, by decide⟩).to e, rfl⟩
theorem crew_lc2 (H : HG O G) {t u h n lv kd : Int} (h0 : 2 ≤ lv) (h1 : lv ≤ 16) (o9 o10 : Option VP) (cs : Cells) : ∃ zs, LP (lv - 1) (IsI 0 2) zs ∧ Sy.evL O G call lc__law_crew_2 (env12 t u h n lv kd o9 o10) cs = .ok zs cs := by
  have e := Sy.isub_ H.std lv 1
  have ei : Sy.evI O G call (.r1 (.bin .sub (.var 5) (.int 1))) (env12 t u h n lv kd o9 o10) cs = .ok (rngV 0 (O .isub lv 1).toNat) cs := Sy.evI_r1 (by cbv) (by omega) (by omega)
  have lp := rngV_lp (n := O .isub lv 1) (by omega)
  rw [lc__law_crew_2, Sy.lc_eq H.std ei rfl (by have := lp.1; show _ ≤ 16777216; omega)]
  rw [lcL_all (g := fun _ => .int 1) _ _ _ fun x m => by
    obtain ⟨i, rfl, _, _⟩ := lp.2 x m
    cbv]
  exact ⟨_, (lp.map (ψ := IsI 0 2) (g := fun _ => .int 1) fun x _ => ⟨1, rfl, by decide, by decide⟩).to e, rfl⟩
theorem crew_lc3 (H : HG O G) (tk : Tk call) {t u h n lv kd : Int} (h0 : 2 ≤ lv) (h1 : lv ≤ 16) (o9 o10 : Option VP) (x y z : Int) (ss rs : Cell) : ∃ zs x' y' z', LP (lv - 1) (IsI 0 2) zs ∧ Sy.evL O G call lc__law_crew_3 (env12 t u h n lv kd o9 o10) [fd x y z, ss, rs] = .ok zs [fd x' y' z', ss, rs] := by
  have e := Sy.isub_ H.std lv 1
  have ei : Sy.evI O G call (.r1 (.bin .sub (.var 5) (.int 1))) (env12 t u h n lv kd o9 o10) [fd x y z, ss, rs] = .ok (rngV 0 (O .isub lv 1).toNat) [fd x y z, ss, rs] := Sy.evI_r1 (by cbv) (by omega) (by omega)
  have lp := rngV_lp (n := O .isub lv 1) (by omega)
  rw [lc__law_crew_3, Sy.lc_eq H.std ei rfl (by have := lp.1; show _ ≤ 16777216; omega)]
  obtain ⟨zs, cs', e1, m, x', y', z', l1, l2, l3⟩ := lcL_gen (f := fun x cs => match asgT (.nm 11) x (wipe (env12 t u h n lv kd o9 o10) [11]) with
        | some ρ' => (Sy.evTs O G call .nil ρ' cs).bind fun k cs => if k then (Sy.evE O G call (.call 11 (.mv 0 (.imm (.int 2) .nil))) ρ' cs).bind fun v cs => (escV cs v).bind fun y cs => .ok (some y) cs else .ok Option.none cs
        | Option.none => .stk) (fun xs cs acc => ∃ m x y z, LP m (IsI 0 2) acc ∧ LP (O .isub lv 1 - m) (IsI 0 (O .isub lv 1)) xs ∧ cs = [fd x y z, ss, rs]) (fun q xs cs acc ⟨m, x, y, z, l1, l2, l3⟩ => by
    subst l3
    obtain ⟨i, rfl, _, _⟩ := l2.head
    obtain ⟨d, x1, y1, z1, d0, d1, e1⟩ := tk x y z 2 (by decide) (by decide)
    refine .inl ⟨.int d, [fd x1 y1 z1, ss, rs], ?_, m + 1, x1, y1, z1, l1.snoc ⟨d, rfl, d0, d1⟩, l2.tail.to (by omega), rfl⟩
    cbv; rw [e1]; cbv) (rngV 0 (O .isub lv 1).toNat) [fd x y z, ss, rs] [] ⟨0, x, y, z, LP.nil, lp.to (by omega), rfl⟩
  refine ⟨zs, x', y', z', l1.to (by have := l2.1; simp at this; omega), ?_⟩
  rw [← l3]
  exact e1
theorem crew_loop (H : HG O G) (tk : Tk call) {t u h n lv kd : Int} (hl : HL h lv) (n0 : 1 ≤ n) (n1 : n ≤ 16) (x y z : Int) : ∃ ss rs o9 o10 x' y' z', LP n (IsI 0 lv) ss ∧ LP n (RowP lv) rs ∧
    Sy.evS O G call 1 lp__law_crew_1 (env12 t u h n lv kd none none) [fd x y z, .lst [], .lst []] = .nx (env12 t u h n lv kd o9 o10) [fd x' y' z', .lst ss, .lst rs] := by
  have hb := hl.b
  have ei : Sy.evI O G call (.r1 (.var 4)) (env12 t u h n lv kd none none) [fd x y z, .lst [], .lst []] = .ok (rngV 0 n.toNat) [fd x y z, .lst [], .lst []] := Sy.evI_r1 (by cbv) (by omega) (by omega)
  rw [lp__law_crew_1, Sy.for_eq2 (Sy.box_ H.std) ei rfl]
  refine forL_gen (Q := fun r => ∃ ss rs o9 o10 x' y' z', LP n (IsI 0 lv) ss ∧ LP n (RowP lv) rs ∧ r = .nx (env12 t u h n lv kd o9 o10) [fd x' y' z', .lst ss, .lst rs])
    (fun xs ρ cs => ∃ (m : Int) (ss rs : List P) (o9 o10 : Option P) (x y z : Int), 0 ≤ m ∧ LP m (IsI 0 lv) ss ∧ LP m (RowP lv) rs ∧ LP (n - m) (IsI 0 n) xs ∧ ρ = env12 t u h n lv kd (o9.map .p) (o10.map .p) ∧ cs = [fd x y z, .lst ss, .lst rs]) ?_ ?_ _ _ _ ?_
  · rintro q xs ρ cs ⟨m, ss, rs, o9, o10, x, y, z, m0, l1, l2, l3, rfl, rfl⟩
    obtain ⟨i, rfl, i0, i1⟩ := l3.head
    have mb : m < 16777216 := by have := l3.1; simp at this; omega
    -- the seat
    have seat : ∃ v x1 y1 z1, 0 ≤ v ∧ v < lv ∧ ∀ R : CSs, Sy.evSs O G call 1 (.cons (.iff (.cmp .eq (.var 6) (.int 0)) (.cons (.ex (.mth 7 .append (.cons (.bin .fdiv (.bin .mul (.var 9) (.var 5)) (.var 4)) .nil))) .nil) (.cons (.iff (.cmp .eq (.var 6) (.int 1)) (.cons (.ex (.mth 7 .append (.cons (.bin .mul (.call 11 (.mv 0 (.imm (.int 2) .nil))) (.bin .sub (.var 5) (.int 1))) .nil))) .nil) (.cons (.ex (.mth 7 .append (.cons (.call 11 (.mv 0 (.imm (.var 5) .nil))) .nil))) .nil)) .nil)) R) (env12 t u h n lv kd (some (.p (.int i))) (o10.map .p)) [fd x y z, .lst ss, .lst rs] =
        Sy.evSs O G call 1 R (env12 t u h n lv kd (some (.p (.int i))) (o10.map .p)) [fd x1 y1 z1, .lst (ss ++ [.int v]), .lst rs] := by
      cases c0 : O .ieq kd 0
      · cases c1 : O .ieq kd 1
        · obtain ⟨d, x1, y1, z1, d0, d1, e1⟩ := tk x y z lv (by omega) (by omega)
          have ap := (Sy.lp_app H.std l1 mb (v := .int d) ⟨d, rfl, d0, d1⟩).1
          refine ⟨d, x1, y1, z1, d0, d1, fun R => ?_⟩
          generalize ss ++ [P.int d] = ss' at ap ⊢
          cases o10 <;> (cbv; rw [c0]; cbv; rw [c1]; cbv; rw [e1]; cbv; rw [ap]; cbv)
        · obtain ⟨d, x1, y1, z1, d0, d1, e1⟩ := tk x y z 2 (by omega) (by omega)
          have hv : 0 ≤ O .imul d (O .isub lv 1) ∧ O .imul d (O .isub lv 1) < lv := by
            rw [Sy.imul_ H.std, Sy.isub_ H.std]
            have : d = 0 ∨ d = 1 := by omega
            rcases this with rfl | rfl <;> omega
          have ap := (Sy.lp_app H.std l1 mb (v := .int (O .imul d (O .isub lv 1))) ⟨_, rfl, hv.1, hv.2⟩).1
          have mu : O .mulB d (O .isub lv 1) = true := Sy.mul_l H.std (by omega) (by omega)
          refine ⟨_, x1, y1, z1, hv.1, hv.2, fun R => ?_⟩
          generalize ss ++ [P.int (O .imul d (O .isub lv 1))] = ss' at ap ⊢
          cases o10 <;> (cbv; rw [c0]; cbv; rw [c1]; cbv; rw [e1]; cbv; rw [mu]; cbv; rw [ap]; cbv)
      · have hv : 0 ≤ O .idiv (O .imul i lv) n ∧ O .idiv (O .imul i lv) n < lv := by
          rw [Sy.imul_ H.std, Sy.idiv_ H.std, Int.fdiv_eq_ediv_of_nonneg _ (by omega)]
          have h1 : 0 ≤ i * lv := Int.mul_nonneg i0 (by omega)
          refine ⟨Int.ediv_nonneg h1 (by omega), Int.ediv_lt_of_lt_mul (by omega) ?_⟩
          rw [Int.mul_comm lv n]
          exact Int.mul_lt_mul_of_pos_right i1 (by omega)
        have ap := (Sy.lp_app H.std l1 mb (v := .int (O .idiv (O .imul i lv) n)) ⟨_, rfl, hv.1, hv.2⟩).1
        have mu : O .mulB i lv = true := Sy.mul_l H.std (by omega) (by omega)
        have dv : O .divB n = true := Sy.div_ok H.std (by omega) (by omega)
        refine ⟨_, x, y, z, hv.1, hv.2, fun R => ?_⟩
        generalize ss ++ [P.int (O .idiv (O .imul i lv) n)] = ss' at ap ⊢
        cases o10 <;> (cbv; rw [c0]; cbv; rw [mu]; cbv; rw [dv]; cbv; rw [ap]; cbv)
    obtain ⟨v, x1, y1, z1, v0, v1, seat⟩ := seat
    obtain ⟨d, x2, y2, z2, d0, d1, e2⟩ := tk x1 y1 z1 4 (by omega) (by omega)
    have row : ∃ r x3 y3 z3, LP (lv - 1) (IsI 0 2) r ∧ Sy.evSs O G call 1 (.cons (.set (.nm 10) (.call 11 (.mv 0 (.imm (.int 4) .nil)))) (.cons (.iff (.cmp .eq (.var 10) (.int 0)) (.cons (.ex (.mth 8 .append (.cons (.l lc__law_crew_1) .nil))) .nil) (.cons (.iff (.cmp .eq (.var 10) (.int 1)) (.cons (.ex (.mth 8 .append (.cons (.l lc__law_crew_2) .nil))) .nil) (.cons (.ex (.mth 8 .append (.cons (.l lc__law_crew_3) .nil))) .nil)) .nil)) .nil)) (env12 t u h n lv kd (some (.p (.int i))) (o10.map .p)) [fd x1 y1 z1, .lst (ss ++ [.int v]), .lst rs] =
        .nx (env12 t u h n lv kd (some (.p (.int i))) (some (.p (.int d)))) [fd x3 y3 z3, .lst (ss ++ [.int v]), .lst (rs ++ [.lst r])] := by
      generalize ss ++ [P.int v] = ss'
      cases c0 : O .ieq d 0
      · cases c1 : O .ieq d 1
        · obtain ⟨r, x3, y3, z3, lr, er⟩ := crew_lc3 H tk (t := t) (u := u) (h := h) (n := n) (kd := kd) hb.2.2.1 hb.2.2.2 (some (.p (.int i))) (some (.p (.int d))) x2 y2 z2 (.lst ss') (.lst rs)
          have ap := (Sy.lp_app H.std l2 mb (v := .lst r) ⟨r, rfl, lr⟩).1
          refine ⟨r, x3, y3, z3, lr, ?_⟩
          generalize rs ++ [P.lst r] = rs' at ap ⊢
          cbv at er
          cases o10 <;> (cbv; rw [e2]; cbv; rw [c0]; cbv; rw [c1]; cbv; rw [er]; cbv; rw [ap]; cbv)
        · obtain ⟨r, lr, er⟩ := crew_lc2 H (call := call) (t := t) (u := u) (h := h) (n := n) (kd := kd) hb.2.2.1 hb.2.2.2 (some (.p (.int i))) (some (.p (.int d))) [fd x2 y2 z2, .lst ss', .lst rs]
          have ap := (Sy.lp_app H.std l2 mb (v := .lst r) ⟨r, rfl, lr⟩).1
          refine ⟨r, x2, y2, z2, lr, ?_⟩
          generalize rs ++ [P.lst r] = rs' at ap ⊢
          cbv at er
          cases o10 <;> (cbv; rw [e2]; cbv; rw [c0]; cbv; rw [c1]; cbv; rw [er]; cbv; rw [ap]; cbv)
      · obtain ⟨r, lr, er⟩ := crew_lc1 H (call := call) (t := t) (u := u) (h := h) (n := n) (kd := kd) hb.2.2.1 hb.2.2.2 (some (.p (.int i))) (some (.p (.int d))) [fd x2 y2 z2, .lst ss', .lst rs]
        have ap := (Sy.lp_app H.std l2 mb (v := .lst r) ⟨r, rfl, lr⟩).1
        refine ⟨r, x2, y2, z2, lr, ?_⟩
        generalize rs ++ [P.lst r] = rs' at ap ⊢
        cbv at er
        cases o10 <;> (cbv; rw [e2]; cbv; rw [c0]; cbv; rw [er]; cbv; rw [ap]; cbv)
    obtain ⟨r, x3, y3, z3, lr, row⟩ := row
    refine .inl ⟨env12 t u h n lv kd (some (.p (.int i))) (some (.p (.int d))), [fd x3 y3 z3, .lst (ss ++ [.int v]), .lst (rs ++ [.lst r])], .inl ?_, m + 1, ss ++ [.int v], rs ++ [.lst r], some (.int i), some (.int d), x3, y3, z3, by omega, l1.snoc ⟨v, rfl, v0, v1⟩, l2.snoc ⟨r, rfl, lr⟩, l3.tail.to (by omega), rfl, rfl⟩
    cases o9 <;> exact (seat _).trans row
  · rintro ρ cs ⟨m, ss, rs, o9, o10, x, y, z, m0, l1, l2, l3, rfl, rfl⟩
    have e : m = n := by have := l3.1; simp at this; omega
    subst e
    exact ⟨ss, rs, _, _, x, y, z, l1, l2, rfl⟩
  · exact ⟨0, [], [], none, none, x, y, z, by decide, LP.nil, LP.nil, (rngV_lp (by omega)).to (by omega), rfl, rfl⟩
end
end K29
set_option maxRecDepth 100000
set_option maxHeartbeats 1000000
namespace K29
open Ev
abbrev pows : List P := [.int 1, .int 2, .int 4, .int 8, .int 16]
abbrev rowsP (h : Int) (ss rs : List P) : P := .lst [.int h, .lst ss, .lst rs]
def tupOf : P → P
  | .lst r => .tup r
  | x => x
section
variable {O : Ops} {G : Glob} {call : Nat → List Arg → CR}
theorem ix_pow (H : HG O G) {h lv : Int} (q : HL h lv) : O .ixv (.lst pows) (.int h) = some (.int lv) ∧ O .ixv (.tup pows) (.int h) = some (.int lv) := by
  rw [Sy.ixv_ H.std]
  rcases q with ⟨rfl, rfl⟩ | ⟨rfl, rfl⟩ | ⟨rfl, rfl⟩ | ⟨rfl, rfl⟩ <;> exact ⟨rfl, rfl⟩
theorem hl_of {h : Int} (h0 : 1 ≤ h) (h1 : h ≤ 4) : ∃ lv, HL h lv := by
  have : h = 1 ∨ h = 2 ∨ h = 3 ∨ h = 4 := by omega
  rcases this with rfl | rfl | rfl | rfl
  · exact ⟨2, .inl ⟨rfl, rfl⟩⟩
  · exact ⟨4, .inr (.inl ⟨rfl, rfl⟩)⟩
  · exact ⟨8, .inr (.inr (.inl ⟨rfl, rfl⟩))⟩
  · exact ⟨16, .inr (.inr (.inr ⟨rfl, rfl⟩))⟩
theorem crew (H : HG O G) (k : Nat) {t u : Int} (t0 : 1 ≤ t) (t1 : t ≤ 4) (u0 : 1 ≤ u) (u1 : u ≤ 16) (x y z : Int) : ∃ h lv n ss rs x' y' z', Crw h lv n ss rs ∧ Sy.evCall O G (k + 2) 12 [.mu (fd x y z), .imm (.int t), .imm (.int u)] = .ok (rowsP h ss rs) true [fd x' y' z'] := by
  suffices hh : (Sy.evCall O G (k + 2) 12 [.mu (fd x y z), .imm (.int t), .imm (.int u)]).wp fun v o cs => ∃ h lv n ss rs x' y' z', Crw h lv n ss rs ∧ v = rowsP h ss rs ∧ o = true ∧ cs = [fd x' y' z'] by
    obtain ⟨v, o, cs, e, h, lv, n, ss, rs, x', y', z', q, rfl, rfl, rfl⟩ := wp_ex hh
    exact ⟨h, lv, n, ss, rs, x', y', z', q, e⟩
  refine Sy.wp_fn (k := k + 1) (d := f__law_crew) H.f12 rfl ?_
  have tk := tk_ok H k
  generalize Sy.evCall O G (k + 1) = call at tk ⊢
  obtain ⟨d1, x1, y1, z1, a0, a1, e1⟩ := tk x y z t (by omega) (by omega)
  obtain ⟨d2, x2, y2, z2, b0, b1, e2⟩ := tk x1 y1 z1 3 (by omega) (by omega)
  obtain ⟨d3, x3, y3, z3, g0, g1, e3⟩ := tk x2 y2 z2 u (by omega) (by omega)
  obtain ⟨d4, x4, y4, z4, p0, p1, e4⟩ := tk x3 y3 z3 4 (by omega) (by omega)
  have n0 : 1 ≤ O .iadd 1 d3 ∧ O .iadd 1 d3 ≤ 16 := by rw [Sy.iadd_ H.std]; omega
  have go : ∀ h, 1 ≤ h → h ≤ 4 → ∃ lv n ss rs x' y' z' o9 o10, Crw h lv n ss rs ∧ n = O .iadd 1 d3 ∧ HL h lv ∧
      Sy.evS O G call 1 lp__law_crew_1 (env12 t u h (O .iadd 1 d3) lv d4 none none) [fd x4 y4 z4, .lst [], .lst []] = .nx (env12 t u h n lv d4 o9 o10) [fd x' y' z', .lst ss, .lst rs] := fun h h0 h1 => by
    obtain ⟨lv, hl⟩ := hl_of h0 h1
    obtain ⟨ss, rs, o9, o10, x', y', z', l1, l2, e⟩ := crew_loop H tk (t := t) (u := u) (kd := d4) hl n0.1 n0.2 x4 y4 z4
    exact ⟨lv, _, ss, rs, x', y', z', o9, o10, ⟨hl, n0.1, n0.2, l1, l2⟩, rfl, hl, e⟩
  cbv
  rw [e1]; cbv; rw [e2]; cbv
  cases c0 : O .ieq d2 0
  · obtain ⟨lv, n, ss, rs, x', y', z', o9, o10, cw, rfl, hl, el⟩ := go (O .iadd 1 d1) (by rw [Sy.iadd_ H.std]; omega) (by rw [Sy.iadd_ H.std]; omega)
    cbv at el
    cbv; rw [e3]; cbv; rw [(ix_pow H hl).1]; cbv; rw [e4]; cbv; rw [el]; cbv
    exact ⟨_, _, _, _, _, _, _, _, cw, rfl, rfl, rfl⟩
  · obtain ⟨lv, n, ss, rs, x', y', z', o9, o10, cw, rfl, hl, el⟩ := go (O .imin (O .iadd 1 d1) 2) (by rw [Sy.imin_ H.std, Sy.iadd_ H.std]; split <;> omega) (by rw [Sy.imin_ H.std, Sy.iadd_ H.std]; split <;> omega)
    cbv at el
    cbv; rw [e3]; cbv; rw [(ix_pow H hl).1]; cbv; rw [e4]; cbv; rw [el]; cbv
    exact ⟨_, _, _, _, _, _, _, _, cw, rfl, rfl, rfl⟩
theorem rows (H : HG O G) (k : Nat) (c : Int) : ∃ h lv n ss rs, Crw h lv n ss rs ∧ Sy.evCall O G (k + 3) 13 [.imm (.int c)] = .ok (rowsP h ss rs) true [] := by
  suffices hh : (Sy.evCall O G (k + 3) 13 [.imm (.int c)]).wp fun v o cs => ∃ h lv n ss rs, Crw h lv n ss rs ∧ v = rowsP h ss rs ∧ o = true ∧ cs = [] by
    obtain ⟨v, o, cs, e, h, lv, n, ss, rs, q, rfl, rfl, rfl⟩ := wp_ex hh
    exact ⟨h, lv, n, ss, rs, q, e⟩
  refine Sy.wp_fn (k := k + 2) (d := f__law_rows) H.f13 rfl ?_
  have tk := tk_ok H (k + 1)
  have fe := feed H (k + 1) c
  have cr := fun (t u x y z : Int) t0 t1 u0 u1 => crew H k (t := t) (u := u) t0 t1 u0 u1 x y z
  generalize Sy.evCall O G (k + 2) = call at tk fe cr ⊢
  obtain ⟨x, y, z, e0⟩ := fe
  obtain ⟨d1, x1, y1, z1, a0, a1, e1⟩ := tk x y z 8 (by omega) (by omega)
  cbv
  rw [e0]; cbv; rw [e1]
  have hd : d1 = 0 ∨ d1 = 1 ∨ d1 = 2 ∨ d1 = 3 ∨ d1 = 4 ∨ d1 = 5 ∨ d1 = 6 ∨ d1 = 7 := by omega
  have fin : ∀ t u : Int, 1 ≤ t → t ≤ 4 → 1 ≤ u → u ≤ 16 → ∃ h lv n ss rs x' y' z', Crw h lv n ss rs ∧ call 12 [.mu (fd x1 y1 z1), .imm (.int t), .imm (.int u)] = .ok (rowsP h ss rs) true [fd x' y' z'] := fun t u t0 t1 u0 u1 => cr t u x1 y1 z1 t0 t1 u0 u1
  rcases hd with rfl | rfl | rfl | rfl | rfl | rfl | rfl | rfl
  · obtain ⟨h, lv, n, ss, rs, x', y', z', q, e⟩ := fin 2 4 (by decide) (by decide) (by decide) (by decide)
    cbv; rw [Sy.ixv_ H.std]; cbv; rw [Sy.ixv_ H.std]; cbv; rw [e]; cbv
    exact ⟨_, _, _, _, _, q, rfl, rfl, rfl⟩
  · obtain ⟨h, lv, n, ss, rs, x', y', z', q, e⟩ := fin 3 5 (by decide) (by decide) (by decide) (by decide)
    cbv; rw [Sy.ixv_ H.std]; cbv; rw [Sy.ixv_ H.std]; cbv; rw [e]; cbv
    exact ⟨_, _, _, _, _, q, rfl, rfl, rfl⟩
  · obtain ⟨h, lv, n, ss, rs, x', y', z', q, e⟩ := fin 4 6 (by decide) (by decide) (by decide) (by decide)
    cbv; rw [Sy.ixv_ H.std]; cbv; rw [Sy.ixv_ H.std]; cbv; rw [e]; cbv
    exact ⟨_, _, _, _, _, q, rfl, rfl, rfl⟩
  · obtain ⟨h, lv, n, ss, rs, x', y', z', q, e⟩ := fin 2 8 (by decide) (by decide) (by decide) (by decide)
    cbv; rw [Sy.ixv_ H.std]; cbv; rw [Sy.ixv_ H.std]; cbv; rw [e]; cbv
    exact ⟨_, _, _, _, _, q, rfl, rfl, rfl⟩
  · obtain ⟨h, lv, n, ss, rs, x', y', z', q, e⟩ := fin 3 3 (by decide) (by decide) (by decide) (by decide)
    cbv; rw [Sy.ixv_ H.std]; cbv; rw [Sy.ixv_ H.std]; cbv; rw [e]; cbv
    exact ⟨_, _, _, _, _, q, rfl, rfl, rfl⟩
  · obtain ⟨h, lv, n, ss, rs, x', y', z', q, e⟩ := fin 2 6 (by decide) (by decide) (by decide) (by decide)
    cbv; rw [Sy.ixv_ H.std]; cbv; rw [Sy.ixv_ H.std]; cbv; rw [e]; cbv
    exact ⟨_, _, _, _, _, q, rfl, rfl, rfl⟩
  · obtain ⟨h, lv, n, ss, rs, x', y', z', q, e⟩ := fin 4 16 (by decide) (by decide) (by decide) (by decide)
    cbv; rw [Sy.ixv_ H.std]; cbv; rw [Sy.ixv_ H.std]; cbv; rw [e]; cbv
    exact ⟨_, _, _, _, _, q, rfl, rfl, rfl⟩
  · obtain ⟨h, lv, n, ss, rs, x', y', z', q, e⟩ := fin 4 8 (by decide) (by decide) (by decide) (by decide)
    cbv; rw [Sy.ixv_ H.std]; cbv; rw [Sy.ixv_ H.std]; cbv; rw [e]; cbv
    exact ⟨_, _, _, _, _, q, rfl, rfl, rfl⟩
theorem need_lc (H : HG O G) (tk : Tk call) {c lv tp : Int} (h0 : 0 ≤ lv) (h1 : lv ≤ 16) (t0 : 1 ≤ tp) (t1 : tp ≤ 16) (x y z : Int) : ∃ zs x' y' z', LP lv (IsI 1 17) zs ∧ Sy.evL O G call lc__law_need_row_1 [some (.p (.int c)), some (.p (.int lv)), some (.ref 0), some (.p (.int tp)), none] [fd x y z] = .ok zs [fd x' y' z'] := by
  have ei : Sy.evI O G call (.r1 (.var 1)) [some (.p (.int c)), some (.p (.int lv)), some (.ref 0), some (.p (.int tp)), none] [fd x y z] = .ok (rngV 0 lv.toNat) [fd x y z] := Sy.evI_r1 (by cbv) (by omega) (by omega)
  have lp := rngV_lp (n := lv) (by omega)
  rw [lc__law_need_row_1, Sy.lc_eq H.std ei rfl (by have := lp.1; show _ ≤ 16777216; omega)]
  obtain ⟨zs, cs', e1, m, x', y', z', l1, l2, l3⟩ := lcL_gen (f := fun x cs => match asgT (.nm 4) x (wipe [some (.p (.int c)), some (.p (.int lv)), some (.ref 0), some (.p (.int tp)), none] [4]) with
        | some ρ' => (Sy.evTs O G call .nil ρ' cs).bind fun k cs => if k then (Sy.evE O G call (.bin .add (.int 1) (.call 11 (.mv 2 (.imm (.var 3) .nil)))) ρ' cs).bind fun v cs => (escV cs v).bind fun y cs => .ok (some y) cs else .ok Option.none cs
        | Option.none => .stk) (fun xs cs acc => ∃ m x y z, LP m (IsI 1 17) acc ∧ LP (lv - m) (IsI 0 lv) xs ∧ cs = [fd x y z]) (fun q xs cs acc ⟨m, x, y, z, l1, l2, l3⟩ => by
    subst l3
    obtain ⟨i, rfl, _, _⟩ := l2.head
    obtain ⟨d, x1, y1, z1, d0, d1, e1⟩ := tk x y z tp (by omega) (by omega)
    refine .inl ⟨.int (O .iadd 1 d), [fd x1 y1 z1], ?_, m + 1, x1, y1, z1, l1.snoc ⟨_, rfl, by rw [Sy.iadd_ H.std]; omega, by rw [Sy.iadd_ H.std]; omega⟩, l2.tail.to (by omega), rfl⟩
    cbv; rw [e1]; cbv) (rngV 0 lv.toNat) [fd x y z] [] ⟨0, x, y, z, LP.nil, lp.to (by omega), rfl⟩
  refine ⟨zs, x', y', z', l1.to (by have := l2.1; simp at this; omega), ?_⟩
  rw [← l3]
  exact e1
theorem need (H : HG O G) (k : Nat) (c : Int) {lv : Int} (h0 : 0 ≤ lv) (h1 : lv ≤ 16) : ∃ nd, LP lv (IsI 1 17) nd ∧ Sy.evCall O G (k + 2) 14 [.imm (.int c), .imm (.int lv)] = .ok (.lst nd) true [] := by
  suffices hh : (Sy.evCall O G (k + 2) 14 [.imm (.int c), .imm (.int lv)]).wp fun v o cs => ∃ nd, LP lv (IsI 1 17) nd ∧ v = .lst nd ∧ o = true ∧ cs = [] by
    obtain ⟨v, o, cs, e, nd, q, rfl, rfl, rfl⟩ := wp_ex hh
    exact ⟨nd, q, e⟩
  refine Sy.wp_fn (k := k + 1) (d := f__law_need_row) H.f14 rfl ?_
  have tk := tk_ok H k
  have fe := feed H k c
  generalize Sy.evCall O G (k + 1) = call at tk fe ⊢
  obtain ⟨x, y, z, e0⟩ := fe
  obtain ⟨d1, x1, y1, z1, a0, a1, e1⟩ := tk x y z 6 (by omega) (by omega)
  have fin : ∀ tp : Int, 1 ≤ tp → tp ≤ 16 → ∃ zs x' y' z', LP lv (IsI 1 17) zs ∧ Sy.evL O G call lc__law_need_row_1 [some (.p (.int c)), some (.p (.int lv)), some (.ref 0), some (.p (.int tp)), none] [fd x1 y1 z1] = .ok zs [fd x' y' z'] := fun tp t0 t1 => need_lc H tk h0 h1 t0 t1 x1 y1 z1
  cbv
  rw [e0]; cbv; rw [e1]
  have hd : d1 = 0 ∨ d1 = 1 ∨ d1 = 2 ∨ d1 = 3 ∨ d1 = 4 ∨ d1 = 5 := by omega
  rcases hd with rfl | rfl | rfl | rfl | rfl | rfl
  · obtain ⟨nd, x', y', z', q, e⟩ := fin 2 (by decide) (by decide)
    cbv at e; cbv; rw [Sy.ixv_ H.std]; cbv; rw [e]; cbv
    exact ⟨_, q, rfl, rfl, rfl⟩
  · obtain ⟨nd, x', y', z', q, e⟩ := fin 3 (by decide) (by decide)
    cbv at e; cbv; rw [Sy.ixv_ H.std]; cbv; rw [e]; cbv
    exact ⟨_, q, rfl, rfl, rfl⟩
  · obtain ⟨nd, x', y', z', q, e⟩ := fin 1 (by decide) (by decide)
    cbv at e; cbv; rw [Sy.ixv_ H.std]; cbv; rw [e]; cbv
    exact ⟨_, q, rfl, rfl, rfl⟩
  · obtain ⟨nd, x', y', z', q, e⟩ := fin 2 (by decide) (by decide)
    cbv at e; cbv; rw [Sy.ixv_ H.std]; cbv; rw [e]; cbv
    exact ⟨_, q, rfl, rfl, rfl⟩
  · obtain ⟨nd, x', y', z', q, e⟩ := fin 16 (by decide) (by decide)
    cbv at e; cbv; rw [Sy.ixv_ H.std]; cbv; rw [e]; cbv
    exact ⟨_, q, rfl, rfl, rfl⟩
  · obtain ⟨nd, x', y', z', q, e⟩ := fin 4 (by decide) (by decide)
    cbv at e; cbv; rw [Sy.ixv_ H.std]; cbv; rw [e]; cbv
    exact ⟨_, q, rfl, rfl, rfl⟩
end
end K29
set_option maxRecDepth 100000
set_option maxHeartbeats 1000000
namespace K29
open Ev
/-- the program's crew -/
abbrev crewP (h : Int) (ss rs : List P) : P := .ins 0 [.int h, .tup ss, .tup (rs.map tupOf)]
section
variable {O : Ops} {G : Glob} {call : Nat → List Arg → CR}
theorem seats_lc (H : HG O G) {lv n : Int} {ss : List P} (n1 : n ≤ 16) (l : LP n (IsI 0 lv) ss) : ∃ bs, (∀ x, x ∈ bs → x = .bool true) ∧ Sy.evL O G call lc_are_seats_1 [some (.p (.lst ss)), some (.p (.int lv)), none] [] = .ok bs [] := by
  have ei : Sy.evI O G call (.sq (.var 0)) [some (.p (.lst ss)), some (.p (.int lv)), none] [] = .ok ss [] := rfl
  rw [lc_are_seats_1, Sy.lc_eq H.std ei rfl (by have := l.1; show _ ≤ 16777216; omega)]
  rw [lcL_all (g := fun _ => .bool true) _ _ _ fun x m => by
    obtain ⟨i, rfl, i0, i1⟩ := l.2 x m
    have e1 := Sy.ile_tt H.std i0
    have e2 := Sy.ilt_tt H.std i1
    cbv; rw [e1]; cbv; rw [e2]]
  exact ⟨_, fun x m => by obtain ⟨_, _, rfl⟩ := List.mem_map.mp m; rfl, rfl⟩
theorem areSeats (H : HG O G) (k : Nat) {lv n : Int} {ss : List P} (n0 : 1 ≤ n) (n1 : n ≤ 16) (l : LP n (IsI 0 lv) ss) : Sy.evCall O G (k + 1) 0 [.imm (.lst ss), .imm (.int lv)] = .ok (.bool true) false [] := by
  refine ok_of (Sy.wp_fn (k := k) (d := f_are_seats) H.f0 rfl ?_)
  generalize Sy.evCall O G k = call
  obtain ⟨bs, hb, e⟩ := seats_lc H (call := call) n1 l
  have ln := (Sy.lp_len H.std l).1
  have e1 := Sy.ile_tt H.std n0
  have e2 := Sy.ile_tt H.std n1
  have e3 := Sy.all_true H.std hb
  cbv at e
  cbv
  rw [ln]; cbv; rw [e1]; cbv; rw [ln]; cbv; rw [e2]; cbv; rw [e]; cbv; rw [e3]; cbv
theorem row_lc (H : HG O G) {lv : Int} {r : List P} (h1 : lv ≤ 16) (l : LP (lv - 1) (IsI 0 2) r) : ∃ bs, (∀ x, x ∈ bs → x = .bool true) ∧ Sy.evL O G call lc_is_leaning_row_1 [some (.p (.lst r)), some (.p (.int lv)), none] [] = .ok bs [] := by
  have ei : Sy.evI O G call (.sq (.var 0)) [some (.p (.lst r)), some (.p (.int lv)), none] [] = .ok r [] := rfl
  rw [lc_is_leaning_row_1, Sy.lc_eq H.std ei rfl (by have := l.1; show _ ≤ 16777216; omega)]
  rw [lcL_all (g := fun _ => .bool true) _ _ _ fun x m => by
    obtain ⟨i, rfl, i0, i1⟩ := l.2 x m
    have : i = 0 ∨ i = 1 := by omega
    rcases this with rfl | rfl
    · cbv; rw [Sy.ieq_tt H.std rfl]; cbv
    · cbv; rw [Sy.ieq_ff H.std (by decide)]; cbv; rw [Sy.ieq_tt H.std rfl]]
  exact ⟨_, fun x m => by obtain ⟨_, _, rfl⟩ := List.mem_map.mp m; rfl, rfl⟩
theorem leaningRow (H : HG O G) (k : Nat) {lv : Int} {r : List P} (h1 : lv ≤ 16) (l : LP (lv - 1) (IsI 0 2) r) : Sy.evCall O G (k + 1) 1 [.imm (.lst r), .imm (.int lv)] = .ok (.bool true) false [] := by
  refine ok_of (Sy.wp_fn (k := k) (d := f_is_leaning_row) H.f1 rfl ?_)
  generalize Sy.evCall O G k = call
  obtain ⟨bs, hb, e⟩ := row_lc H (call := call) h1 l
  have ln := (Sy.lp_len H.std l).1
  generalize hq : lv - 1 = q at ln
  have e1 := Sy.ieq_tt H.std (a := q) (b := O .isub lv 1) (by rw [Sy.isub_ H.std]; omega)
  have e3 := Sy.all_true H.std hb
  cbv at e
  cbv
  rw [ln]; cbv; rw [e1]; cbv; rw [e]; cbv; rw [e3]; cbv
theorem init_lc2 (H : HG O G) (lr : ∀ r lv, lv ≤ 16 → LP (lv - 1) (IsI 0 2) r → call 1 [.imm (.lst r), .imm (.int lv)] = .ok (.bool true) false []) {h lv n : Int} {ss rs : List P} (q : Crw h lv n ss rs) (c : Cells) : ∃ bs, (∀ x, x ∈ bs → x = .bool true) ∧
    Sy.evL O G call lc_Crew___init___2 [some (.ref 0), some (.p (.int h)), some (.p (.lst ss)), some (.p (.lst rs)), some (.p (.int lv)), none] c = .ok bs c := by
  have ei : Sy.evI O G call (.sq (.var 3)) [some (.ref 0), some (.p (.int h)), some (.p (.lst ss)), some (.p (.lst rs)), some (.p (.int lv)), none] c = .ok rs c := rfl
  have n1 := q.n1
  have lb := q.hl.b
  rw [lc_Crew___init___2, Sy.lc_eq H.std ei rfl (by have := q.rs.1; show _ ≤ 16777216; omega)]
  rw [lcL_all (g := fun _ => .bool true) _ _ _ fun x m => by
    obtain ⟨r, rfl, l⟩ := q.rs.2 x m
    have e := lr r lv lb.2.2.2 l
    cbv; rw [e]; cbv]
  exact ⟨_, fun x m => by obtain ⟨_, _, rfl⟩ := List.mem_map.mp m; rfl, rfl⟩
theorem init_lc1 (H : HG O G) {h lv n : Int} {ss rs : List P} (q : Crw h lv n ss rs) (c : Cells) :
    Sy.evL O G call lc_Crew___init___1 [some (.ref 0), some (.p (.int h)), some (.p (.lst ss)), some (.p (.lst rs)), some (.p (.int lv)), none] c = .ok (rs.map tupOf) c := by
  have ei : Sy.evI O G call (.sq (.var 3)) [some (.ref 0), some (.p (.int h)), some (.p (.lst ss)), some (.p (.lst rs)), some (.p (.int lv)), none] c = .ok rs c := rfl
  have n1 := q.n1
  rw [lc_Crew___init___1, Sy.lc_eq H.std ei rfl (by have := q.rs.1; show _ ≤ 16777216; omega)]
  rw [lcL_all (g := tupOf) _ _ _ fun x m => by
    obtain ⟨r, rfl, l⟩ := q.rs.2 x m
    rfl]
  rfl
theorem initC (H : HG O G) (k : Nat) {h lv n : Int} {ss rs : List P} (q : Crw h lv n ss rs) : Sy.evCall O G (k + 2) 28 [.mu (.obj 0 []), .imm (.int h), .imm (.lst ss), .imm (.lst rs)] = .ok .none false [.obj 0 [.int h, .tup ss, .tup (rs.map tupOf)]] := by
  refine ok_of (Sy.wp_fn (k := k + 1) (d := f_Crew___init__) H.f28 rfl ?_)
  have s1 := areSeats H k q.n0 q.n1 q.ss
  have lr := fun (r : List P) (lv : Int) h1 l => leaningRow H k (r := r) (lv := lv) h1 l
  generalize Sy.evCall O G (k + 1) = call at s1 lr ⊢
  have lb := q.hl.b
  obtain ⟨bs, hb, e2⟩ := init_lc2 H lr q [.obj 0 []]
  have e1 := init_lc1 H (call := call) q [.obj 0 [.int h, .tup ss]]
  have e3 := Sy.all_true H.std hb
  have l1 := (Sy.lp_len H.std q.ss).1
  have l2 := (Sy.lp_len H.std q.rs).1
  have c1 := Sy.ilt_ff H.std (a := h) (b := 1) (by omega)
  have c2 := Sy.ilt_ff H.std (a := 4) (b := h) (by omega)
  have c3 := Sy.ieq_tt H.std (a := n) (b := n) rfl
  have px := (ix_pow H q.hl).2
  generalize rs.map tupOf = ls at e1 ⊢
  obtain ⟨fns, cls, gls, mks⟩ := G
  have g0 : gls 0 = some (.tup pows) := H.g0
  have k0 : cls 0 = some ⟨[0, 1, 2], [(3, 31), (4, 32)]⟩ := H.c0
  cbv at e2 e1
  cbv
  rw [c1]; cbv; rw [c2]; cbv
  rw [g0]; cbv
  rw [px]; cbv; rw [s1]; cbv; rw [l2]; cbv; rw [l1]; cbv; rw [c3]; cbv; rw [e2]; cbv; rw [e3]; cbv
  rw [k0]; cbv; rw [k0]; cbv; rw [e1]; cbv; rw [k0]; cbv
theorem make (H : HG O G) (k : Nat) {h lv n : Int} {ss rs : List P} (q : Crw h lv n ss rs) : Sy.evCall O G (k + 3) 27 [.imm (.int h), .imm (.lst ss), .imm (.lst rs)] = .ok (crewP h ss rs) false [] := by
  have e := initC H k q
  have k1 : Sy.evCall O G (k + 3) 27 [.imm (.int h), .imm (.lst ss), .imm (.lst rs)] = runMk (Sy.evCall O G (k + 2)) 0 28 [.imm (.int h), .imm (.lst ss), .imm (.lst rs)] := by
    rw [Sy.evCall, H.f27]
    simp only [H.m27]
  rw [k1, runMk, e]
  rfl
theorem leaves (H : HG O G) (k : Nat) {h lv : Int} (q : HL h lv) (ss ls : List P) : Sy.evCall O G (k + 2) 32 [.imm (.ins 0 [.int h, .tup ss, .tup ls])] = .ok (.int lv) false [] := by
  have k1 : Sy.evCall O G (k + 2) 32 [.imm (.ins 0 [.int h, .tup ss, .tup ls])] = Sy.evCall O G (k + 1) 30 [.imm (.ins 0 [.int h, .tup ss, .tup ls])] := by
    rw [Sy.evCall, H.f32]
    simp only [H.m32]
  rw [k1]
  refine ok_of (Sy.wp_fn (k := k) (d := f_Crew_leaves) H.f30 rfl ?_)
  generalize Sy.evCall O G k = call
  have px := (ix_pow H q).2
  obtain ⟨fns, cls, gls, mks⟩ := G
  have g0 : gls 0 = some (.tup pows) := H.g0
  have k0 : cls 0 = some ⟨[0, 1, 2], [(3, 31), (4, 32)]⟩ := H.c0
  cbv
  rw [g0]; cbv; rw [k0]; cbv; rw [px]; cbv
end
end K29
set_option maxRecDepth 100000
set_option maxHeartbeats 1000000
namespace K29
open Ev
section
variable {O : Ops} {G : Glob} {call : Nat → List Arg → CR}
abbrev crewL (h : Int) (ss ls : List P) : P := .ins 0 [.int h, .tup ss, .tup ls]
abbrev sIdle : List Nat := [105, 100, 108, 101]
abbrev sTake : List Nat := [116, 97, 107, 101]
abbrev sUp : List Nat := [117, 112]
abbrev sWork : List Nat := [119, 111, 114, 107]
abbrev sMark : List Nat := [109, 97, 114, 107]
abbrev sDown : List Nat := [100, 111, 119, 110]
theorem over (H : HG O G) (k : Nat) (a1 : Int) (x c p : P) (dt : List P) : Sy.evCall O G (k + 1) 4 [.imm (.tup [.tup (x :: .int a1 :: dt), c, p])] = .ok (.bool (O .ieq a1 1)) false [] := by
  refine ok_of (Sy.wp_fn (k := k) (d := f_is_over) H.f4 rfl ?_)
  generalize Sy.evCall O G k = call
  cbv
theorem leanChild (H : HG O G) (k : Nat) {h w p e : Int} {ss ls r : List P} (m : O .mulB 2 p = true) (e1 : O .ixv (.tup ls) (.int w) = some (.tup r)) (e2 : O .ixv (.tup r) (.int (O .isub p 1)) = some (.int e)) :
    Sy.evCall O G (k + 1) 2 [.imm (crewL h ss ls), .imm (.int w), .imm (.int p)] = .ok (.int (O .iadd (O .imul 2 p) e)) false [] := by
  refine ok_of (Sy.wp_fn (k := k) (d := f_leaning_child) H.f2 rfl ?_)
  generalize Sy.evCall O G k = call
  obtain ⟨fns, cls, gls, mks⟩ := G
  have k0 : cls 0 = some ⟨[0, 1, 2], [(3, 31), (4, 32)]⟩ := H.c0
  cbv
  rw [m]; cbv; rw [k0]; cbv; rw [e1]; cbv; rw [e2]; cbv
/-- where a worker goes down to -/
theorem child (H : HG O G) (k : Nat) {h w p l r : Int} {ss ls ds : List P} (m : O .mulB 2 p = true) (e1 : O .ixv (.tup ds) (.int (O .imul 2 p)) = some (.int l)) (e2 : O .ixv (.tup ds) (.int (O .iadd (O .imul 2 p) 1)) = some (.int r)) {v : Int}
    (hv : (O .ieq l 1 = true ∧ v = O .iadd (O .imul 2 p) 1) ∨ (O .ieq l 1 = false ∧ O .ieq r 1 = true ∧ v = O .imul 2 p) ∨ (O .ieq l 1 = false ∧ O .ieq r 1 = false ∧ Sy.evCall O G (k + 1) 2 [.imm (crewL h ss ls), .imm (.int w), .imm (.int p)] = .ok (.int v) false [])) :
    Sy.evCall O G (k + 2) 5 [.imm (crewL h ss ls), .imm (.tup ds), .imm (.int w), .imm (.int p)] = .ok (.int v) false [] := by
  refine ok_of (Sy.wp_fn (k := k + 1) (d := f_child_to_enter) H.f5 rfl ?_)
  generalize Sy.evCall O G (k + 1) = call at hv ⊢
  rcases hv with ⟨c1, rfl⟩ | ⟨c1, c2, rfl⟩ | ⟨c1, c2, ec⟩
  · cbv
    rw [m]; cbv; rw [e1]; cbv; rw [c1]; cbv; rw [m]; cbv
  · cbv
    rw [m]; cbv; rw [e1]; cbv; rw [c1]; cbv; rw [m]; cbv; rw [e2]; cbv; rw [c2]; cbv; rw [m]; cbv
  · cbv
    rw [m]; cbv; rw [e1]; cbv; rw [c1]; cbv; rw [m]; cbv; rw [e2]; cbv; rw [c2]; cbv; rw [ec]; cbv
/-- what stands of a walk -/
structure Spt (lv n : Int) (ds cs ps : List P) : Prop where
  ds : LP (2 * lv) (IsI 0 2) ds
  cs : LP lv IsN cs
  ps : LP n (IsI 0 (2 * lv)) ps
theorem LP.two {m : Int} {φ : P → Prop} {xs : List P} (l : LP m φ xs) (h : 2 ≤ m) : ∃ a b r, xs = a :: b :: r ∧ φ a ∧ φ b := by
  match xs, l with
  | [], l => have := l.1; simp at this; omega
  | [_], l => have := l.1; simp at this; omega
  | a :: b :: r, l => exact ⟨a, b, r, rfl, l.2 a (by simp), l.2 b (by simp)⟩
theorem LP.one {m : Int} {φ : P → Prop} {xs : List P} (l : LP m φ xs) (h : 1 ≤ m) : ∃ a r, xs = a :: r ∧ φ a := by
  match xs, l with
  | [], l => have := l.1; simp at this; omega
  | a :: r, l => exact ⟨a, r, rfl, l.2 a (by simp)⟩
/-- the rows of leanings, both ways -/
theorem rows_ix (H : HG O G) {h lv n : Int} {ss rs : List P} (q : Crw h lv n ss rs) {w : Int} (w0 : 0 ≤ w) (w1 : w < n) : ∃ r, LP (lv - 1) (IsI 0 2) r ∧ O .ixv (.lst rs) (.int w) = some (.lst r) ∧ O .ixv (.tup (rs.map tupOf)) (.int w) = some (.tup r) := by
  obtain ⟨x, ⟨r, rfl, l⟩, e1, e2⟩ := q.rs.get w0 w1
  refine ⟨r, l, ?_, ?_⟩
  · rw [Sy.ixv_ H.std]; exact e2
  · rw [Sy.ixv_ H.std]
    show ixAt (rs.map tupOf) w = _
    unfold ixAt
    rw [if_pos w0, List.getElem?_map, e1]
    rfl
theorem turn (H : HG O G) (k : Nat) {h lv n : Int} {ss rs : List P} (q : Crw h lv n ss rs) {ds cs ps : List P} (sp : Spt lv n ds cs ps) {w : Int} (w0 : 0 ≤ w) (w1 : w < n) (given : P) : ∃ (s : List Nat) (p p' : Int), 0 ≤ p ∧ p < 2 * lv ∧ 0 ≤ p' ∧ p' < 2 * lv ∧ (s = sWork → lv ≤ p) ∧
    Sy.evCall O G (k + 4) 6 [.imm (crewP h ss rs), .imm given, .imm (.tup [.tup ds, .tup cs, .tup ps]), .imm (.int w)] = .ok (.tup [.str s, .int p, .int p']) false [] ∧
    Sy.evCall O G (k + 4) 20 [.imm (rowsP h ss rs), .imm (.lst [.lst ds, .lst cs, .lst ps]), .imm (.int w)] = .ok (.lst [.str s, .int p, .int p']) true [] := by
  have hb := q.hl.b
  obtain ⟨_, _, dt, rfl, ⟨a0, rfl, _, _⟩, ⟨a1, rfl, _, _⟩⟩ := LP.two sp.ds (by omega)
  obtain ⟨_, ⟨p, rfl, p0, p1⟩, ep1, ep2⟩ := Sy.lp_ix H.std sp.ps w0 w1
  obtain ⟨_, ⟨dp, rfl, dp0, dp1⟩, ed1, ed2⟩ := Sy.lp_ix H.std sp.ds p0 p1
  obtain ⟨_, ⟨se, rfl, se0, se1⟩, es1, es2⟩ := Sy.lp_ix H.std q.ss w0 w1
  obtain ⟨r, lr, er1, er2⟩ := rows_ix H q w0 w1
  obtain ⟨_, rt, ers, r0, rfl, lr0⟩ := LP.one q.rs q.n0
  have ln := (Sy.lp_len H.std lr0).1
  have ov := over H (k + 2) a1 (.int a0) (.tup cs) (.tup ps) dt
  have lvs := leaves H (k + 1) q.hl ss (rs.map tupOf)
  obtain ⟨lq, hlq⟩ : ∃ lq : Int, lq = lv - 1 := ⟨_, rfl⟩
  rw [← hlq] at ln
  have elv : O .iadd lq 1 = lv := by rw [Sy.iadd_ H.std]; omega
  have mu : O .mulB 2 p = true := Sy.mul_l H.std (by decide) (by decide)
  have dv : O .divB 2 = true := Sy.div_ok H.std (by decide) (by decide)
  have e2p : O .imul 2 p = 2 * p := Sy.imul_ H.std 2 p
  have e2p1 : O .iadd (O .imul 2 p) 1 = 2 * p + 1 := by rw [Sy.iadd_ H.std, e2p]
  have law : ∀ (s : List Nat) (u v : Int), (Sy.evSs O G (Sy.evCall O G (k + 3)) 0 b__law_walk_turn [some (.p (.lst [.int h, .lst ss, .lst (.lst r0 :: rt)])), some (.p (.lst [.lst (.int a0 :: .int a1 :: dt), .lst cs, .lst ps])), some (.p (.int w)), none, none, none, none] []) = .rt (.lst [.str s, .int u, .int v]) true [] →
      Sy.evCall O G (k + 4) 20 [.imm (rowsP h ss rs), .imm (.lst [.lst (.int a0 :: .int a1 :: dt), .lst cs, .lst ps]), .imm (.int w)] = .ok (.lst [.str s, .int u, .int v]) true [] := fun s u v e => by
    rw [ers]
    refine ok_of (Sy.wp_fn (k := k + 3) (d := f__law_walk_turn) H.f20 rfl ?_)
    show RS.wp (Sy.evSs O G (Sy.evCall O G (k + 3)) 0 b__law_walk_turn [some (.p (.lst [.int h, .lst ss, .lst (.lst r0 :: rt)])), some (.p (.lst [.lst (.int a0 :: .int a1 :: dt), .lst cs, .lst ps])), some (.p (.int w)), none, none, none, none] []) _ _ _ _
    rw [e]
    exact ⟨rfl, rfl, rfl⟩
  have prog : ∀ (s : List Nat) (u v : Int), (Sy.evSs O G (Sy.evCall O G (k + 3)) 0 b_walk_turn [some (.p (crewP h ss rs)), some (.p given), some (.p (.tup [.tup (.int a0 :: .int a1 :: dt), .tup cs, .tup ps])), some (.p (.int w)), none, none, none, none] []) = .rt (.tup [.str s, .int u, .int v]) false [] →
      Sy.evCall O G (k + 4) 6 [.imm (crewP h ss rs), .imm given, .imm (.tup [.tup (.int a0 :: .int a1 :: dt), .tup cs, .tup ps]), .imm (.int w)] = .ok (.tup [.str s, .int u, .int v]) false [] := fun s u v e => by
    refine ok_of (Sy.wp_fn (k := k + 3) (d := f_walk_turn) H.f6 rfl ?_)
    show RS.wp (Sy.evSs O G (Sy.evCall O G (k + 3)) 0 b_walk_turn [some (.p (crewP h ss rs)), some (.p given), some (.p (.tup [.tup (.int a0 :: .int a1 :: dt), .tup cs, .tup ps])), some (.p (.int w)), none, none, none, none] []) _ _ _ _
    rw [e]
    exact ⟨rfl, rfl, rfl⟩
  have ch := fun (l r v : Int) e1 e2 hv => child H (k + 1) (h := h) (w := w) (p := p) (l := l) (r := r) (ss := ss) (ls := rs.map tupOf) (ds := .int a0 :: .int a1 :: dt) mu e1 e2 (v := v) hv
  have lc := fun (e : Int) e2 => leanChild H (k + 1) (h := h) (w := w) (p := p) (e := e) (ss := ss) (ls := rs.map tupOf) (r := r) mu er2 e2
  rw [ers] at er1
  suffices fin : ∃ (s : List Nat) (p' p'' : Int), 0 ≤ p' ∧ p' < 2 * lv ∧ 0 ≤ p'' ∧ p'' < 2 * lv ∧ (s = sWork → lv ≤ p') ∧
      (Sy.evSs O G (Sy.evCall O G (k + 3)) 0 b_walk_turn [some (.p (crewP h ss rs)), some (.p given), some (.p (.tup [.tup (.int a0 :: .int a1 :: dt), .tup cs, .tup ps])), some (.p (.int w)), none, none, none, none] []) = .rt (.tup [.str s, .int p', .int p'']) false [] ∧
      (Sy.evSs O G (Sy.evCall O G (k + 3)) 0 b__law_walk_turn [some (.p (.lst [.int h, .lst ss, .lst (.lst r0 :: rt)])), some (.p (.lst [.lst (.int a0 :: .int a1 :: dt), .lst cs, .lst ps])), some (.p (.int w)), none, none, none, none] []) = .rt (.lst [.str s, .int p', .int p'']) true [] by
    obtain ⟨s, u, v, b1, b2, b3, b4, b5, e1, e2⟩ := fin
    exact ⟨s, u, v, b1, b2, b3, b4, b5, prog _ _ _ e1, law _ _ _ e2⟩
  clear law prog
  have lsg : ∃ ls, rs.map tupOf = ls := ⟨_, rfl⟩
  obtain ⟨ls, els⟩ := lsg
  rw [els] at lvs ch lc er2
  show ∃ (s : List Nat) (p' p'' : Int), 0 ≤ p' ∧ p' < 2 * lv ∧ 0 ≤ p'' ∧ p'' < 2 * lv ∧ (s = sWork → lv ≤ p') ∧
      (Sy.evSs O G (Sy.evCall O G (k + 3)) 0 b_walk_turn [some (.p (.ins 0 [.int h, .tup ss, .tup (rs.map tupOf)])), some (.p given), some (.p (.tup [.tup (.int a0 :: .int a1 :: dt), .tup cs, .tup ps])), some (.p (.int w)), none, none, none, none] []) = .rt (.tup [.str s, .int p', .int p'']) false [] ∧
      (Sy.evSs O G (Sy.evCall O G (k + 3)) 0 b__law_walk_turn [some (.p (.lst [.int h, .lst ss, .lst (.lst r0 :: rt)])), some (.p (.lst [.lst (.int a0 :: .int a1 :: dt), .lst cs, .lst ps])), some (.p (.int w)), none, none, none, none] []) = .rt (.lst [.str s, .int p', .int p'']) true []
  rw [els]
  have t11 : O .ieq 1 1 = true := Sy.ieq_tt H.std rfl
  have t00 : O .ieq 0 0 = true := Sy.ieq_tt H.std rfl
  have t01 : O .ieq 0 1 = false := Sy.ieq_ff H.std (by decide)
  have t10 : O .ieq 1 0 = false := Sy.ieq_ff H.std (by decide)
  obtain ⟨fns, cls, gls, mks⟩ := G
  have k0 : cls 0 = some ⟨[0, 1, 2], [(3, 31), (4, 32)]⟩ := H.c0
  cases c1 : O .ieq a1 1
  case true =>
    refine ⟨sIdle, p, p, p0, p1, p0, p1, (fun e => by cases e), ?_, ?_⟩
    · generalize Sy.evCall O _ (k + 3) = call at ov ⊢
      cbv; rw [ep2]; cbv; rw [ov]; cbv; rw [c1]; cbv
    · generalize Sy.evCall O _ (k + 3) = call
      cbv; rw [ln]; cbv; rw [elv]; cbv; rw [ep1]; cbv; rw [c1]; cbv
  cases c2 : O .ieq p 0
  case true =>
    have bb : O .iadd lv se = lv + se := Sy.iadd_ H.std lv se
    refine ⟨sTake, 0, O .iadd lv se, by omega, by omega, by omega, by omega, (fun e => by cases e), ?_, ?_⟩
    · generalize Sy.evCall O _ (k + 3) = call at ov lvs ⊢
      cbv; rw [ep2]; cbv; rw [ov]; cbv; rw [c1]; cbv; rw [c2]; cbv; rw [k0]; cbv; rw [lvs]; cbv; rw [k0]; cbv; rw [es2]; cbv
    · generalize Sy.evCall O _ (k + 3) = call
      cbv; rw [ln]; cbv; rw [elv]; cbv; rw [ep1]; cbv; rw [c1]; cbv; rw [c2]; cbv; rw [es1]; cbv
  have hp := Sy.ieq_f H.std c2
  cases c3 : O .ieq dp 1
  case true =>
    have bb : 0 ≤ O .idiv p 2 ∧ O .idiv p 2 < 2 * lv := by rw [Sy.idiv_ H.std, Int.fdiv_eq_ediv_of_nonneg _ (by omega)]; omega
    refine ⟨sUp, p, O .idiv p 2, p0, p1, bb.1, bb.2, (fun e => by cases e), ?_, ?_⟩
    · generalize Sy.evCall O _ (k + 3) = call at ov ⊢
      cbv; rw [ep2]; cbv; rw [ov]; cbv; rw [c1]; cbv; rw [c2]; cbv; rw [ed2]; cbv; rw [c3]; cbv; rw [dv]; cbv
    · generalize Sy.evCall O _ (k + 3) = call
      cbv; rw [ln]; cbv; rw [elv]; cbv; rw [ep1]; cbv; rw [c1]; cbv; rw [c2]; cbv; rw [ed1]; cbv; rw [c3]; cbv; rw [dv]; cbv
  cases c4 : O .ile lv p
  case true =>
    have bb := Sy.ile_t H.std c4
    refine ⟨sWork, p, p, p0, p1, p0, p1, fun _ => bb, ?_, ?_⟩
    · generalize Sy.evCall O _ (k + 3) = call at ov lvs ⊢
      cbv; rw [ep2]; cbv; rw [ov]; cbv; rw [c1]; cbv; rw [c2]; cbv; rw [ed2]; cbv; rw [c3]; cbv; rw [k0]; cbv; rw [lvs]; cbv; rw [c4]; cbv
    · generalize Sy.evCall O _ (k + 3) = call
      cbv; rw [ln]; cbv; rw [elv]; cbv; rw [ep1]; cbv; rw [c1]; cbv; rw [c2]; cbv; rw [ed1]; cbv; rw [c3]; cbv; rw [c4]; cbv
  have hp4 := Sy.ile_f H.std c4
  obtain ⟨_, ⟨l, rfl, l0, l1⟩, el1, el2⟩ := Sy.lp_ix H.std sp.ds (p := O .imul 2 p) (by omega) (by omega)
  obtain ⟨_, ⟨rr, rfl, rr0, rr1⟩, eR1, eR2⟩ := Sy.lp_ix H.std sp.ds (p := O .iadd (O .imul 2 p) 1) (by omega) (by omega)
  have hl : l = 0 ∨ l = 1 := by omega
  have hr : rr = 0 ∨ rr = 1 := by omega
  rcases hl with rfl | rfl <;> rcases hr with rfl | rfl
  · have isb : O .isub p 1 = p - 1 := Sy.isub_ H.std p 1
    obtain ⟨_, ⟨e, rfl, x0, x1⟩, ex1, ex2⟩ := Sy.lp_ix H.std lr (p := O .isub p 1) (by omega) (by omega)
    have cc := ch 0 0 (O .iadd (O .imul 2 p) e) el2 eR2 (.inr (.inr ⟨t01, t01, lc e ex2⟩))
    have bb : O .iadd (O .imul 2 p) e = 2 * p + e := by rw [Sy.iadd_ H.std, e2p]
    refine ⟨sDown, p, O .iadd (O .imul 2 p) e, p0, p1, by omega, by omega, (fun e => by cases e), ?_, ?_⟩
    · generalize Sy.evCall O _ (k + 3) = call at ov lvs cc ⊢
      cbv; rw [ep2]; cbv; rw [ov]; cbv; rw [c1]; cbv; rw [c2]; cbv; rw [ed2]; cbv; rw [c3]; cbv; rw [k0]; cbv; rw [lvs]; cbv; rw [c4]; cbv; rw [mu]; cbv; rw [el2]; cbv; rw [t01]; cbv; rw [cc]; cbv
    · generalize Sy.evCall O _ (k + 3) = call
      cbv; rw [ln]; cbv; rw [elv]; cbv; rw [ep1]; cbv; rw [c1]; cbv; rw [c2]; cbv; rw [ed1]; cbv; rw [c3]; cbv; rw [c4]; cbv; rw [mu]; cbv; rw [el1]; cbv; rw [mu]; cbv; rw [eR1]; cbv; rw [t01]; cbv; rw [t00]; cbv; rw [t00]; cbv; rw [mu]; cbv; rw [er1]; cbv; rw [ex1]; cbv
  · have cc := ch 0 1 (O .imul 2 p) el2 eR2 (.inr (.inl ⟨t01, t11, rfl⟩))
    have z0 : O .iadd (O .imul 2 p) 0 = O .imul 2 p := by rw [Sy.iadd_ H.std]; omega
    refine ⟨sDown, p, O .imul 2 p, p0, p1, by omega, by omega, (fun e => by cases e), ?_, ?_⟩
    · generalize Sy.evCall O _ (k + 3) = call at ov lvs cc ⊢
      cbv; rw [ep2]; cbv; rw [ov]; cbv; rw [c1]; cbv; rw [c2]; cbv; rw [ed2]; cbv; rw [c3]; cbv; rw [k0]; cbv; rw [lvs]; cbv; rw [c4]; cbv; rw [mu]; cbv; rw [el2]; cbv; rw [t01]; cbv; rw [cc]; cbv
    · generalize Sy.evCall O _ (k + 3) = call
      cbv; rw [ln]; cbv; rw [elv]; cbv; rw [ep1]; cbv; rw [c1]; cbv; rw [c2]; cbv; rw [ed1]; cbv; rw [c3]; cbv; rw [c4]; cbv; rw [mu]; cbv; rw [el1]; cbv; rw [mu]; cbv; rw [eR1]; cbv; rw [t01]; cbv; rw [t00]; cbv; rw [t10]; cbv; rw [mu]; cbv; rw [z0]
  · have cc := ch 1 0 (O .iadd (O .imul 2 p) 1) el2 eR2 (.inl ⟨t11, rfl⟩)
    refine ⟨sDown, p, O .iadd (O .imul 2 p) 1, p0, p1, by omega, by omega, (fun e => by cases e), ?_, ?_⟩
    · generalize Sy.evCall O _ (k + 3) = call at ov lvs cc ⊢
      cbv; rw [ep2]; cbv; rw [ov]; cbv; rw [c1]; cbv; rw [c2]; cbv; rw [ed2]; cbv; rw [c3]; cbv; rw [k0]; cbv; rw [lvs]; cbv; rw [c4]; cbv; rw [mu]; cbv; rw [el2]; cbv; rw [t11]; cbv; rw [mu]; cbv; rw [eR2]; cbv; rw [t01]; cbv; rw [cc]; cbv
    · generalize Sy.evCall O _ (k + 3) = call
      cbv; rw [ln]; cbv; rw [elv]; cbv; rw [ep1]; cbv; rw [c1]; cbv; rw [c2]; cbv; rw [ed1]; cbv; rw [c3]; cbv; rw [c4]; cbv; rw [mu]; cbv; rw [el1]; cbv; rw [mu]; cbv; rw [eR1]; cbv; rw [t11]; cbv; rw [t01]; cbv; rw [t10]; cbv; rw [mu]; cbv
  · refine ⟨sMark, p, p, p0, p1, p0, p1, (fun e => by cases e), ?_, ?_⟩
    · generalize Sy.evCall O _ (k + 3) = call at ov lvs ⊢
      cbv; rw [ep2]; cbv; rw [ov]; cbv; rw [c1]; cbv; rw [c2]; cbv; rw [ed2]; cbv; rw [c3]; cbv; rw [k0]; cbv; rw [lvs]; cbv; rw [c4]; cbv; rw [mu]; cbv; rw [el2]; cbv; rw [t11]; cbv; rw [mu]; cbv; rw [eR2]; cbv; rw [t11]; cbv
    · generalize Sy.evCall O _ (k + 3) = call
      cbv; rw [ln]; cbv; rw [elv]; cbv; rw [ep1]; cbv; rw [c1]; cbv; rw [c2]; cbv; rw [ed1]; cbv; rw [c3]; cbv; rw [c4]; cbv; rw [mu]; cbv; rw [el1]; cbv; rw [mu]; cbv; rw [eR1]; cbv; rw [t11]; cbv; rw [t11]; cbv
end
end K29
set_option maxRecDepth 100000
set_option maxHeartbeats 1000000
namespace K29
open Ev
abbrev spotP (ds cs ps : List P) : P := .lst [.lst ds, .lst cs, .lst ps]
abbrev tripP (ds cs ps : List P) : P := .tup [.tup ds, .tup cs, .tup ps]
section
variable {O : Ops} {G : Glob} {call : Nat → List Arg → CR}
theorem triple (H : HG O G) (k : Nat) (ds cs ps : List P) : Sy.evCall O G (k + 1) 19 [.imm (spotP ds cs ps)] = .ok (tripP ds cs ps) false [] := by
  refine ok_of (Sy.wp_fn (k := k) (d := f__law_triple) H.f19 rfl ?_)
  generalize Sy.evCall O G k = call
  cbv
theorem whole (H : HG O G) (k : Nat) (v : Int) : Sy.evCall O G (k + 1) 8 [.imm (.int v)] = .ok (.bool true) false [] := by
  refine ok_of (Sy.wp_fn (k := k) (d := f__law_whole) H.f8 rfl ?_)
  generalize Sy.evCall O G k = call
  cbv
theorem workers (H : HG O G) (k : Nat) {n : Int} {φ : P → Prop} {ss : List P} (l : LP n φ ss) (h : Int) (ls : P) : Sy.evCall O G (k + 2) 31 [.imm (.ins 0 [.int h, .tup ss, ls])] = .ok (.int n) false [] := by
  have k1 : Sy.evCall O G (k + 2) 31 [.imm (.ins 0 [.int h, .tup ss, ls])] = Sy.evCall O G (k + 1) 29 [.imm (.ins 0 [.int h, .tup ss, ls])] := by
    rw [Sy.evCall, H.f31]
    simp only [H.m31]
  rw [k1]
  refine ok_of (Sy.wp_fn (k := k) (d := f_Crew_workers) H.f29 rfl ?_)
  generalize Sy.evCall O G k = call
  have ln := (Sy.lp_len H.std l).2
  obtain ⟨fns, cls, gls, mks⟩ := G
  have k0 : cls 0 = some ⟨[0, 1, 2], [(3, 31), (4, 32)]⟩ := H.c0
  cbv
  rw [k0]; cbv; rw [ln]; cbv
/-- so many zeros -/
def Z (n : Int) : List P := List.replicate n.toNat (.int 0)
theorem Z_lp {n : Int} (h : 0 ≤ n) : LP n (IsI 0 2) (Z n) := ⟨by unfold Z; rw [List.length_replicate]; omega, fun x m => by
  have := List.eq_of_mem_replicate m
  exact ⟨0, this, by decide, by decide⟩⟩
theorem startS (H : HG O G) (k : Nat) {h lv n : Int} {ss rs : List P} (q : Crw h lv n ss rs) : Sy.evCall O G (k + 3) 3 [.imm (crewP h ss rs)] = .ok (tripP (Z (2 * lv)) (Z lv) (Z n)) false [] := by
  refine ok_of (Sy.wp_fn (k := k + 2) (d := f_start_standing) H.f3 rfl ?_)
  have lvs := leaves H k q.hl ss (rs.map tupOf)
  have wks := workers H k q.ss h (.tup (rs.map tupOf))
  generalize Sy.evCall O G (k + 2) = call at lvs wks ⊢
  have hb := q.hl.b
  have n0 := q.n0
  have n1 := q.n1
  have mu : O .mulB 2 lv = true := Sy.mul_l H.std (by decide) (by decide)
  have e2 : O .imul 2 lv = 2 * lv := Sy.imul_ H.std 2 lv
  have t1 := Sy.cat_t1 H.std (.int 0) (k := O .imul 2 lv) (by omega) (by omega)
  have t2 := Sy.cat_t1 H.std (.int 0) (k := lv) (by omega) (by omega)
  have t3 := Sy.cat_t1 H.std (.int 0) (k := n) (by omega) (by omega)
  rw [e2] at t1
  obtain ⟨z1, hz1⟩ : ∃ z, z = Z (2 * lv) := ⟨_, rfl⟩
  obtain ⟨z2, hz2⟩ : ∃ z, z = Z lv := ⟨_, rfl⟩
  obtain ⟨z3, hz3⟩ : ∃ z, z = Z n := ⟨_, rfl⟩
  rw [← hz1, ← hz2, ← hz3]
  have t1 : O .cat (.tup [.int 0]) (.int (2 * lv)) = some (.tup z1) := by rw [hz1]; exact t1
  have t2 : O .cat (.tup [.int 0]) (.int lv) = some (.tup z2) := by rw [hz2]; exact t2
  have t3 : O .cat (.tup [.int 0]) (.int n) = some (.tup z3) := by rw [hz3]; exact t3
  rw [← e2] at t1
  obtain ⟨fns, cls, gls, mks⟩ := G
  have k0 : cls 0 = some ⟨[0, 1, 2], [(3, 31), (4, 32)]⟩ := H.c0
  show RS.wp (Sy.evSs O ⟨fns, cls, gls, mks⟩ call 0 b_start_standing [some (.p (.ins 0 [.int h, .tup ss, .tup (rs.map tupOf)]))] []) _ _ _ _
  generalize rs.map tupOf = ls at lvs wks ⊢
  cbv
  rw [k0]; cbv; rw [lvs]; cbv; rw [mu]; cbv; rw [t1]; cbv; rw [k0]; cbv; rw [lvs]; cbv; rw [t2]; cbv; rw [k0]; cbv; rw [wks]; cbv; rw [t3]; cbv
theorem row_loop (H : HG O G) (wh : ∀ v : Int, call 8 [.imm (.int v)] = .ok (.bool true) false []) (due : P) {m : Int} {xs : List P} (l : LP m IsN xs) : ∃ o : Option P, Sy.evS O G call 0 lp__law_is_row_1 [some (.p (.tup xs)), some (.p due), none] [] = .nx [some (.p (.tup xs)), some (.p due), o.map .p] [] := by
  have ei : Sy.evI O G call (.sq (.var 0)) [some (.p (.tup xs)), some (.p due), none] [] = .ok xs [] := rfl
  rw [lp__law_is_row_1, Sy.for_eq2 (Sy.box_ H.std) ei rfl]
  refine forL_gen (Q := fun r => ∃ o : Option P, r = .nx [some (.p (.tup xs)), some (.p due), o.map .p] [])
    (fun ys ρ cs => (∃ m, LP m IsN ys) ∧ ∃ o : Option P, ρ = [some (.p (.tup xs)), some (.p due), o.map .p] ∧ cs = []) ?_ ?_ _ _ _ ?_
  · rintro q ys ρ cs ⟨⟨m, ly⟩, o, rfl, rfl⟩
    obtain ⟨i, rfl⟩ := ly.head
    refine .inl ⟨[some (.p (.tup xs)), some (.p due), some (.p (.int i))], [], .inl ?_, ⟨_, ly.tail⟩, some (.int i), rfl, rfl⟩
    cases o <;> (cbv; rw [wh]; cbv)
  · rintro ρ cs ⟨_, o, rfl, rfl⟩
    exact ⟨o, rfl⟩
  · exact ⟨⟨m, l⟩, none, rfl, rfl⟩
theorem isRow (H : HG O G) (k : Nat) {m : Int} {xs : List P} (l : LP m IsN xs) : Sy.evCall O G (k + 2) 22 [.imm (.tup xs), .imm (.lst xs)] = .ok (.bool true) false [] := by
  refine ok_of (Sy.wp_fn (k := k + 1) (d := f__law_is_row) H.f22 rfl ?_)
  have wh := fun v => whole H k v
  generalize Sy.evCall O G (k + 1) = call at wh ⊢
  have d := LP.dat1 l
  have q := Sy.eqc_refl H.std d.1 (by omega)
  obtain ⟨o, e⟩ := row_loop H wh (.lst xs) l
  cbv at e
  cbv
  rw [q]; cbv; rw [e]; cbv
theorem isSpot (H : HG O G) (k : Nat) {m1 m2 m3 : Int} {ds cs ps : List P} (l1 : LP m1 IsN ds) (l2 : LP m2 IsN cs) (l3 : LP m3 IsN ps) : Sy.evCall O G (k + 3) 23 [.imm (tripP ds cs ps), .imm (spotP ds cs ps)] = .ok (.bool true) false [] := by
  refine ok_of (Sy.wp_fn (k := k + 2) (d := f__law_is_spot) H.f23 rfl ?_)
  have r1 := isRow H k l1
  have r2 := isRow H k l2
  have r3 := isRow H k l3
  generalize Sy.evCall O G (k + 2) = call at r1 r2 r3 ⊢
  have l3 : O .len (.tup [.tup ds, .tup cs, .tup ps]) = some (.int 3) := by rw [Sy.len_ H.std]; rfl
  have t3 := Sy.ieq_tt H.std (a := 3) (b := 3) rfl
  cbv
  rw [l3]; cbv; rw [t3]; cbv; rw [r1]; cbv; rw [r2]; cbv; rw [r3]; cbv
def lstOf : P → P
  | .tup r => .lst r
  | x => x
theorem stays (H : HG O G) (k : Nat) {h lv n : Int} {ss rs : List P} (q : Crw h lv n ss rs) : Sy.evCall O G (k + 1) 25 [.imm (crewP h ss rs), .imm (rowsP h ss rs)] = .ok (.bool true) false [] := by
  refine ok_of (Sy.wp_fn (k := k) (d := f__law_stays) H.f25 rfl ?_)
  generalize Sy.evCall O G k = call
  have hb := q.hl.b
  have n1 := q.n1
  have s2 := LP.dat1 (q.ss.imp (ψ := IsN) fun x ⟨i, e, _⟩ => ⟨i, e⟩)
  have s3 := LP.dat2 (q.rs.imp (ψ := fun x => ∃ r, x = .lst r ∧ ∃ m, LP m IsN r) fun x ⟨r, e, l⟩ => ⟨r, e, _, l.imp (ψ := IsN) fun x ⟨i, e, _⟩ => ⟨i, e⟩⟩)
  have q2 := Sy.eqc_refl H.std s2.1 (by omega)
  have q3 := Sy.eqc_refl H.std s3.1 (by omega)
  have th := Sy.ieq_tt H.std (a := h) (b := h) rfl
  obtain ⟨fns, cls, gls, mks⟩ := G
  have k0 : cls 0 = some ⟨[0, 1, 2], [(3, 31), (4, 32)]⟩ := H.c0
  have e : Sy.evL O ⟨fns, cls, gls, mks⟩ call lc__law_stays_1 [some (.p (.ins 0 [.int h, .tup ss, .tup (rs.map tupOf)])), some (.p (.lst [.int h, .lst ss, .lst rs])), none] [] = .ok rs [] := by
    have hl : ∀ x, x ∈ rs.map tupOf → ∃ r, x = .tup r := fun x m => by
      obtain ⟨y, my, rfl⟩ := List.mem_map.mp m
      obtain ⟨r, rfl, _⟩ := q.rs.2 y my
      exact ⟨r, rfl⟩
    have back : (rs.map tupOf).map lstOf = rs := by
      rw [List.map_map]
      refine (List.map_congr_left fun y my => ?_).trans (List.map_id rs)
      obtain ⟨r, rfl, _⟩ := q.rs.2 y my
      rfl
    have len : (rs.map tupOf).length ≤ 16777216 := by have := q.rs.1; rw [List.length_map]; omega
    generalize rs.map tupOf = ls at hl back len ⊢
    have ei : Sy.evI O ⟨fns, cls, gls, mks⟩ call (.sq (.fld (.var 0) 2)) [some (.p (.ins 0 [.int h, .tup ss, .tup ls])), some (.p (.lst [.int h, .lst ss, .lst rs])), none] [] = .ok ls [] := by
      cbv; rw [k0]; cbv
    rw [lc__law_stays_1, Sy.lc_eq H.std ei rfl len]
    rw [lcL_all (g := lstOf) _ _ _ fun x m => by
      obtain ⟨r, rfl⟩ := hl x m
      rfl]
    rw [back]
    rfl
  show RS.wp (Sy.evSs O ⟨fns, cls, gls, mks⟩ call 0 b__law_stays [some (.p (.ins 0 [.int h, .tup ss, .tup (rs.map tupOf)])), some (.p (.lst [.int h, .lst ss, .lst rs])), none] []) _ _ _ _
  generalize rs.map tupOf = ls at e ⊢
  cbv at e
  cbv
  rw [k0]; cbv; rw [th]; cbv; rw [k0]; cbv; rw [q2]; cbv; rw [e]; cbv; rw [q3]; cbv
end
end K29
set_option maxRecDepth 100000
set_option maxHeartbeats 1000000
namespace K29
open Ev
/-- a group of workers -/
def GrpP (n : Int) (x : P) : Prop := ∃ g, x = .lst g ∧ ∃ m, m ≤ 16777000 ∧ LP m (IsI 0 n) g
section
variable {O : Ops} {G : Glob} {call : Nat → List Arg → CR}
abbrev env7 (n kd ld : Int) (o5 o6 : Option VP) : Env := [some (.ref 0), some (.p (.int n)), some (.p (.int kd)), some (.p (.int ld)), some (.ref 1), o5, o6]
theorem some_loop (H : HG O G) (tk : Tk call) {n kd ld : Int} (n0 : 1 ≤ n) (n1 : n ≤ 16) (x y z : Int) : ∃ g o5 o6 x' y' z', (∃ m, m ≤ 16 ∧ LP m (IsI 0 n) g) ∧
    Sy.evS O G call 1 lp__law_some_1 (env7 n kd ld none none) [fd x y z, .lst []] = .nx (env7 n kd ld o5 o6) [fd x' y' z', .lst g] := by
  have ei : Sy.evI O G call (.r1 (.var 1)) (env7 n kd ld none none) [fd x y z, .lst []] = .ok (rngV 0 n.toNat) [fd x y z, .lst []] := Sy.evI_r1 (by cbv) (by omega) (by omega)
  rw [lp__law_some_1, Sy.for_eq2 (Sy.box_ H.std) ei rfl]
  refine forL_gen (Q := fun r => ∃ g o5 o6 x' y' z', (∃ m, m ≤ 16 ∧ LP m (IsI 0 n) g) ∧ r = .nx (env7 n kd ld o5 o6) [fd x' y' z', .lst g])
    (fun xs ρ cs => ∃ (m j : Int) (g : List P) (o5 o6 : Option P) (x y z : Int), 0 ≤ m ∧ m ≤ n - j ∧ LP m (IsI 0 n) g ∧ LP j (IsI 0 n) xs ∧ ρ = env7 n kd ld (o5.map .p) (o6.map .p) ∧ cs = [fd x y z, .lst g]) ?_ ?_ _ _ _ ?_
  · rintro q xs ρ cs ⟨m, j, g, o5, o6, x, y, z, m0, mj, l1, l2, rfl, rfl⟩
    obtain ⟨i, rfl, i0, i1⟩ := l2.head
    have j0 : 1 ≤ j := by have := l2.1; simp at this; omega
    have ch : ∃ (b : Bool) (x1 y1 z1 : Int), ∀ R : CSs, Sy.evSs O G call 1 (.cons (.set (.nm 6) (.bool true)) (.cons (.iff (.cmp .lt (.var 2) (.int 2)) (.cons (.set (.nm 6) (.cmp .eq (.var 5) (.var 3))) .nil) (.cons (.iff (.cmp .eq (.var 2) (.int 2)) (.cons (.set (.nm 6) (.cmp .ne (.var 5) (.var 3))) .nil) (.cons (.iff (.cmp .lt (.var 2) (.int 6)) (.cons (.set (.nm 6) (.cmp .eq (.call 11 (.mv 0 (.imm (.int 2) .nil))) (.int 1))) .nil) .nil) .nil)) .nil)) R)) (env7 n kd ld (some (.p (.int i))) (o6.map .p)) [fd x y z, .lst g] =
        Sy.evSs O G call 1 R (env7 n kd ld (some (.p (.int i))) (some (.p (.bool b)))) [fd x1 y1 z1, .lst g] := by
      cases c0 : O .ilt kd 2
      · cases c1 : O .ieq kd 2
        · cases c2 : O .ilt kd 6
          · exact ⟨true, x, y, z, fun R => by cases o6 <;> (cbv; rw [c0]; cbv; rw [c1]; cbv; rw [c2]; cbv)⟩
          · obtain ⟨d, x1, y1, z1, d0, d1, e1⟩ := tk x y z 2 (by decide) (by decide)
            exact ⟨O .ieq d 1, x1, y1, z1, fun R => by cases o6 <;> (cbv; rw [c0]; cbv; rw [c1]; cbv; rw [c2]; cbv; rw [e1]; cbv)⟩
        · exact ⟨!(O .ieq i ld), x, y, z, fun R => by cases o6 <;> (cbv; rw [c0]; cbv; rw [c1]; cbv)⟩
      · exact ⟨O .ieq i ld, x, y, z, fun R => by cases o6 <;> (cbv; rw [c0]; cbv)⟩
    obtain ⟨b, x1, y1, z1, ch⟩ := ch
    cases b
    · refine .inl ⟨env7 n kd ld (some (.p (.int i))) (some (.p (.bool false))), [fd x1 y1 z1, .lst g], .inl ?_, m, j - 1, g, some (.int i), some (.bool false), x1, y1, z1, m0, by omega, l1, l2.tail, rfl, rfl⟩
      cases o5 <;> refine (ch _).trans ?_ <;> cbv
    · have ln := (Sy.lp_len H.std l1).1
      have sz : O .iadd m 1 = m + 1 := Sy.iadd_ H.std m 1
      obtain ⟨d, x2, y2, z2, d0, d1, e2⟩ := tk x1 y1 z1 (O .iadd m 1) (by omega) (by omega)
      obtain ⟨g', eg, lg⟩ := Sy.lp_ins H.std l1 (by omega) d0 (by omega) (v := .int i) ⟨i, rfl, i0, i1⟩
      refine .inl ⟨env7 n kd ld (some (.p (.int i))) (some (.p (.bool true))), [fd x2 y2 z2, .lst g'], .inl ?_, m + 1, j - 1, g', some (.int i), some (.bool true), x2, y2, z2, by omega, by omega, lg, l2.tail, rfl, rfl⟩
      cases o5 <;> refine (ch _).trans ?_ <;> (cbv; rw [ln]; cbv; rw [e2]; cbv; rw [eg]; cbv)
  · rintro ρ cs ⟨m, j, g, o5, o6, x, y, z, m0, mj, l1, l2, rfl, rfl⟩
    have : 0 ≤ j := by have := l2.1; omega
    exact ⟨g, _, _, x, y, z, ⟨m, by omega, l1⟩, rfl⟩
  · exact ⟨0, n, [], none, none, x, y, z, by decide, by omega, LP.nil, rngV_lp (by omega), rfl, rfl⟩
/-- what a call of _law_some gives -/
def SomeOk (call : Nat → List Arg → CR) : Prop := ∀ (n x y z : Int), 1 ≤ n → n ≤ 16 → ∃ g x' y' z', (∃ m, m ≤ 16 ∧ LP m (IsI 0 n) g) ∧ call 15 [.mu (fd x y z), .imm (.int n)] = .ok (.lst g) true [fd x' y' z']
theorem some_ (H : HG O G) (k : Nat) : SomeOk (Sy.evCall O G (k + 2)) := fun n x y z n0 n1 => by
  suffices hh : (Sy.evCall O G (k + 2) 15 [.mu (fd x y z), .imm (.int n)]).wp fun v o cs => ∃ g x' y' z', (∃ m, m ≤ 16 ∧ LP m (IsI 0 n) g) ∧ v = .lst g ∧ o = true ∧ cs = [fd x' y' z'] by
    obtain ⟨v, o, cs, e, g, x', y', z', q, rfl, rfl, rfl⟩ := wp_ex hh
    exact ⟨g, x', y', z', q, e⟩
  refine Sy.wp_fn (k := k + 1) (d := f__law_some) H.f15 rfl ?_
  have tk := tk_ok H k
  generalize Sy.evCall O G (k + 1) = call at tk ⊢
  obtain ⟨d1, x1, y1, z1, _, _, e1⟩ := tk x y z 8 (by decide) (by decide)
  obtain ⟨d2, x2, y2, z2, _, _, e2⟩ := tk x1 y1 z1 n (by omega) (by omega)
  obtain ⟨g, o5, o6, x', y', z', q, el⟩ := some_loop H tk (kd := d1) (ld := d2) n0 n1 x2 y2 z2
  cbv at el
  cbv
  rw [e1]; cbv; rw [e2]; cbv; rw [el]; cbv
  exact ⟨_, _, _, _, q, rfl, rfl, rfl⟩
theorem late_lc (H : HG O G) {n : Int} (n0 : 1 ≤ n) (n1 : n ≤ 16) (a b : P) (cs : Cells) : Sy.evL O G call lc__law_late_1 [some (.ref 0), some (.p (.int n)), some (.p a), some (.p b), none, none] cs = .ok (rngV 0 n.toNat) cs := by
  have ei : Sy.evI O G call (.r1 (.var 1)) [some (.ref 0), some (.p (.int n)), some (.p a), some (.p b), none, none] cs = .ok (rngV 0 n.toNat) cs := Sy.evI_r1 (by cbv) (by omega) (by omega)
  have lp := rngV_lp (n := n) (by omega)
  rw [lc__law_late_1, Sy.lc_eq H.std ei rfl (by have := lp.1; show _ ≤ 16777216; omega)]
  rw [lcL_all (g := id) _ _ _ fun x m => by
    obtain ⟨i, rfl, _, _⟩ := lp.2 x m
    cbv]
  rw [List.map_id]
  rfl
def LateOk (call : Nat → List Arg → CR) : Prop := ∀ (n st ld x y z : Int), 1 ≤ n → n ≤ 16 → 0 ≤ ld → ld < n → ∃ g x' y' z', GrpP n (.lst g) ∧ call 17 [.mu (fd x y z), .imm (.int n), .imm (.int st), .imm (.int ld)] = .ok (.lst g) true [fd x' y' z']
theorem late (H : HG O G) (k : Nat) : LateOk (Sy.evCall O G (k + 3)) := fun n st ld x y z n0 n1 l0 l1 => by
  suffices hh : (Sy.evCall O G (k + 3) 17 [.mu (fd x y z), .imm (.int n), .imm (.int st), .imm (.int ld)]).wp fun v o cs => ∃ g x' y' z', GrpP n (.lst g) ∧ v = .lst g ∧ o = true ∧ cs = [fd x' y' z'] by
    obtain ⟨v, o, cs, e, g, x', y', z', q, rfl, rfl, rfl⟩ := wp_ex hh
    exact ⟨g, x', y', z', q, e⟩
  refine Sy.wp_fn (k := k + 2) (d := f__law_late) H.f17 rfl ?_
  have so := some_ H k
  generalize Sy.evCall O G (k + 2) = call at so ⊢
  cases c0 : O .ieq st 0
  case true =>
    have e := late_lc H (call := call) n0 n1 (.int st) (.int ld) [fd x y z]
    have lp := rngV_lp (n := n) (by omega)
    generalize rngV 0 n.toNat = rg at e lp
    cbv at e
    cbv; rw [c0]; cbv; rw [e]; cbv
    exact ⟨_, _, _, _, ⟨_, rfl, n, by omega, lp⟩, rfl, rfl, rfl⟩
  cases c1 : O .ieq st 1
  case true =>
    cbv; rw [c0]; cbv; rw [c1]; cbv
    exact ⟨_, _, _, _, ⟨_, rfl, 1, by decide, ⟨rfl, fun q m => by simp at m; subst m; exact ⟨ld, rfl, l0, l1⟩⟩⟩, rfl, rfl, rfl⟩
  obtain ⟨g, x1, y1, z1, ⟨m, m1, lg⟩, e1⟩ := so n x y z n0 n1
  have inn : ∃ b, O .inn (.int ld) (.lst g) = some b := by
    have d := LP.dat1 (lg.imp (ψ := IsN) fun x ⟨i, e, _⟩ => ⟨i, e⟩)
    rw [H.std]
    show ∃ b, (if eqOk (.int ld) (.lst g) then some (inL (.int ld) g) else none) = some b
    have : eqOk (.int ld) (.lst g) = true := by
      unfold eqOk
      rw [d.1, decide_eq_true (show (P.lst g).dep ≤ 64 by omega)]
      rfl
    rw [this]
    exact ⟨_, rfl⟩
  obtain ⟨b, eb⟩ := inn
  cases b
  · have ap := Sy.lp_app H.std lg (by omega) (v := .int ld) ⟨ld, rfl, l0, l1⟩
    obtain ⟨g', hg'⟩ : ∃ g', g' = g ++ [P.int ld] := ⟨_, rfl⟩
    rw [← hg'] at ap
    cbv; rw [c0]; cbv; rw [c1]; cbv; rw [e1]; cbv; rw [eb]; cbv; rw [ap.1]; cbv
    exact ⟨_, _, _, _, ⟨_, rfl, m + 1, by omega, ap.2⟩, rfl, rfl, rfl⟩
  · cbv; rw [c0]; cbv; rw [c1]; cbv; rw [e1]; cbv; rw [eb]; cbv
    exact ⟨_, _, _, _, ⟨_, rfl, m, by omega, lg⟩, rfl, rfl, rfl⟩
abbrev env8 (c n lg : Int) (o5 o6 o7 : Option VP) : Env := [some (.p (.int c)), some (.p (.int n)), some (.ref 0), some (.p (.int lg)), some (.ref 1), o5, o6, o7]
theorem groups_loop (H : HG O G) (tk : Tk call) (so : SomeOk call) {c n lg : Int} (n0 : 1 ≤ n) (n1 : n ≤ 16) (g0 : 1 ≤ lg) (g1 : lg ≤ 9) (x y z : Int) : ∃ gs o5 o6 o7 x' y' z', (∃ m, m ≤ 41 ∧ LP m (GrpP n) gs) ∧
    Sy.evS O G call 0 lp__law_groups_1 (env8 c n lg (some (.p (.lst []))) (some (.p (.int 0))) none) [fd x y z, .lst []] = .nx (env8 c n lg o5 o6 o7) [fd x' y' z', .lst gs] := by
  obtain ⟨d, x1, y1, z1, d0, d1, e1⟩ := tk x y z 41 (by decide) (by decide)
  have ei : Sy.evI O G call (.r1 (.call 11 (.mv 2 (.imm (.int 41) .nil)))) (env8 c n lg (some (.p (.lst []))) (some (.p (.int 0))) none) [fd x y z, .lst []] = .ok (rngV 0 d.toNat) [fd x1 y1 z1, .lst []] := Sy.evI_r1 (by cbv; rw [e1]; cbv) (by omega) (by omega)
  rw [lp__law_groups_1, Sy.for_eq2 (Sy.box_ H.std) ei rfl]
  refine forL_gen (Q := fun r => ∃ gs o5 o6 o7 x' y' z', (∃ m, m ≤ 41 ∧ LP m (GrpP n) gs) ∧ r = .nx (env8 c n lg o5 o6 o7) [fd x' y' z', .lst gs])
    (fun xs ρ cs => ∃ (m j r : Int) (g gs : List P) (o7 : Option P) (x y z : Int), 0 ≤ m ∧ m + j ≤ 41 ∧ GrpP n (.lst g) ∧ LP m (GrpP n) gs ∧ LP j (IsI 0 d) xs ∧ ρ = env8 c n lg (some (.p (.lst g))) (some (.p (.int r))) (o7.map .p) ∧ cs = [fd x y z, .lst gs]) ?_ ?_ _ _ _ ?_
  · rintro q xs ρ cs ⟨m, j, r, g, gs, o7, x, y, z, m0, mj, gp, l1, l2, rfl, rfl⟩
    obtain ⟨i, rfl, i0, i1⟩ := l2.head
    have j0 : 1 ≤ j := by have := l2.1; simp at this; omega
    cases c0 : O .ieq r 0
    · have ap := Sy.lp_app H.std l1 (by omega) (v := .lst g) gp
      obtain ⟨gs', hg'⟩ : ∃ g', g' = gs ++ [P.lst g] := ⟨_, rfl⟩
      rw [← hg'] at ap
      refine .inl ⟨env8 c n lg (some (.p (.lst g))) (some (.p (.int (O .isub r 1)))) (some (.p (.int i))), [fd x y z, .lst gs'], .inl ?_, m + 1, j - 1, _, g, gs', some (.int i), x, y, z, by omega, by omega, gp, ap.2, l2.tail, rfl, rfl⟩
      cases o7 <;> (cbv; rw [c0]; cbv; rw [ap.1]; cbv)
    · obtain ⟨g', x2, y2, z2, ⟨m', m1, lg'⟩, e2⟩ := so n x y z n0 n1
      obtain ⟨d3, x3, y3, z3, _, _, e3⟩ := tk x2 y2 z2 lg (by omega) (by omega)
      have gp' : GrpP n (.lst g') := ⟨g', rfl, m', by omega, lg'⟩
      have ap := Sy.lp_app H.std l1 (by omega) (v := .lst g') gp'
      obtain ⟨gs', hg'⟩ : ∃ g'', g'' = gs ++ [P.lst g'] := ⟨_, rfl⟩
      rw [← hg'] at ap
      refine .inl ⟨env8 c n lg (some (.p (.lst g'))) (some (.p (.int (O .isub (O .iadd 1 d3) 1)))) (some (.p (.int i))), [fd x3 y3 z3, .lst gs'], .inl ?_, m + 1, j - 1, _, g', gs', some (.int i), x3, y3, z3, by omega, by omega, gp', ap.2, l2.tail, rfl, rfl⟩
      cases o7 <;> (cbv; rw [c0]; cbv; rw [e2]; cbv; rw [e3]; cbv; rw [ap.1]; cbv)
  · rintro ρ cs ⟨m, j, r, g, gs, o7, x, y, z, m0, mj, gp, l1, l2, rfl, rfl⟩
    have : 0 ≤ j := by have := l2.1; omega
    exact ⟨gs, _, _, _, x, y, z, ⟨m, by omega, l1⟩, rfl⟩
  · exact ⟨0, d, 0, [], [], none, x1, y1, z1, by decide, by omega, ⟨[], rfl, 0, by decide, LP.nil⟩, LP.nil, rngV_lp d0, rfl, rfl⟩
theorem groups (H : HG O G) (k : Nat) (c : Int) {n : Int} (n0 : 1 ≤ n) (n1 : n ≤ 16) : ∃ gs, (∃ m, m ≤ 41 ∧ LP m (GrpP n) gs) ∧ Sy.evCall O G (k + 3) 16 [.imm (.int c), .imm (.int n)] = .ok (.lst gs) true [] := by
  suffices hh : (Sy.evCall O G (k + 3) 16 [.imm (.int c), .imm (.int n)]).wp fun v o cs => ∃ gs, (∃ m, m ≤ 41 ∧ LP m (GrpP n) gs) ∧ v = .lst gs ∧ o = true ∧ cs = [] by
    obtain ⟨v, o, cs, e, gs, q, rfl, rfl, rfl⟩ := wp_ex hh
    exact ⟨gs, q, e⟩
  refine Sy.wp_fn (k := k + 2) (d := f__law_groups) H.f16 rfl ?_
  have tk := tk_ok H (k + 1)
  have so := some_ H k
  have fe := feed H (k + 1) c
  generalize Sy.evCall O G (k + 2) = call at so tk fe ⊢
  obtain ⟨x, y, z, e0⟩ := fe
  obtain ⟨d, x1, y1, z1, d0, d1, e1⟩ := tk x y z 4 (by decide) (by decide)
  have hd : d = 0 ∨ d = 1 ∨ d = 2 ∨ d = 3 := by omega
  have fin : ∀ lg : Int, 1 ≤ lg → lg ≤ 9 → ∃ gs o5 o6 o7 x' y' z', (∃ m, m ≤ 41 ∧ LP m (GrpP n) gs) ∧
    Sy.evS O G call 0 lp__law_groups_1 (env8 c n lg (some (.p (.lst []))) (some (.p (.int 0))) none) [fd x1 y1 z1, .lst []] = .nx (env8 c n lg o5 o6 o7) [fd x' y' z', .lst gs] := fun lg g0 g1 => groups_loop H tk so n0 n1 g0 g1 x1 y1 z1
  cbv
  rw [e0]; cbv; rw [e1]
  rcases hd with rfl | rfl | rfl | rfl
  · obtain ⟨gs, o5, o6, o7, x', y', z', q, el⟩ := fin 1 (by decide) (by decide)
    cbv at el; cbv; rw [Sy.ixv_ H.std]; cbv; rw [el]; cbv
    exact ⟨_, q, rfl, rfl, rfl⟩
  · obtain ⟨gs, o5, o6, o7, x', y', z', q, el⟩ := fin 2 (by decide) (by decide)
    cbv at el; cbv; rw [Sy.ixv_ H.std]; cbv; rw [el]; cbv
    exact ⟨_, q, rfl, rfl, rfl⟩
  · obtain ⟨gs, o5, o6, o7, x', y', z', q, el⟩ := fin 4 (by decide) (by decide)
    cbv at el; cbv; rw [Sy.ixv_ H.std]; cbv; rw [el]; cbv
    exact ⟨_, q, rfl, rfl, rfl⟩
  · obtain ⟨gs, o5, o6, o7, x', y', z', q, el⟩ := fin 9 (by decide) (by decide)
    cbv at el; cbv; rw [Sy.ixv_ H.std]; cbv; rw [el]; cbv
    exact ⟨_, q, rfl, rfl, rfl⟩
end
end K29
set_option maxRecDepth 100000
set_option maxHeartbeats 1000000
namespace K29
open Ev
def bodyOf : CS → CSs
  | .fr _ _ b => b
  | _ => .nil
section
variable {O : Ops} {G : Glob} {call : Nat → List Arg → CR}
theorem const_lc (H : HG O G) {n : Int} (n0 : 0 ≤ n) (n1 : n ≤ 64) {c : CL} {it : CI} {i : Nat} {ρ : Env} {cs : Cells} {xs : List P} {φ : P → Prop} (lp : LP n φ xs) (hc : c = .lc (.nm i) [i] it .nil (.int 0)) (ei : Sy.evI O G call it ρ cs = .ok xs cs) (lk : lockIx it ρ cs = none) :
    Sy.evL O G call c ρ cs = .ok (Z n) cs := by
  subst hc
  rw [Sy.lc_eq H.std ei lk (by have := lp.1; show _ ≤ 16777216; omega)]
  have e : Z n = [] ++ xs.map (fun _ => P.int 0) := by
    unfold Z
    rw [List.nil_append, List.map_const', show xs.length = n.toNat by have := lp.1; omega]
  rw [e]
  exact lcL_all (g := fun _ => .int 0) xs cs [] fun x m => rfl
theorem firstSpot (H : HG O G) (k : Nat) {h lv n : Int} {ss rs : List P} (q : Crw h lv n ss rs) : Sy.evCall O G (k + 1) 18 [.imm (rowsP h ss rs)] = .ok (spotP (Z (2 * lv)) (Z lv) (Z n)) true [] := by
  have hb := q.hl.b
  have n1 := q.n1
  have n0 := q.n0
  have qss := q.ss
  obtain ⟨_, rt, ers, r0, rfl, lr0⟩ := LP.one q.rs q.n0
  subst ers
  have ln := (Sy.lp_len H.std lr0).1
  obtain ⟨lq, hlq⟩ : ∃ lq : Int, lq = lv - 1 := ⟨_, rfl⟩
  rw [← hlq] at ln
  have elv : O .iadd lq 1 = lv := by rw [Sy.iadd_ H.std]; omega
  have mu : O .mulB 2 lv = true := Sy.mul_l H.std (by decide) (by decide)
  have e2 : O .imul 2 lv = 2 * lv := Sy.imul_ H.std 2 lv
  refine ok_of (Sy.wp_fn (k := k) (d := f__law_first_spot) H.f18 rfl ?_)
  generalize Sy.evCall O G k = call
  have e3 := const_lc H (call := call) (c := lc__law_first_spot_3) (it := .r1 (.bin .mul (.int 2) (.var 1))) (i := 2) (ρ := [some (.p (rowsP h ss (.lst r0 :: rt))), some (.p (.int lv)), none]) (cs := []) (n := O .imul 2 lv) (by omega) (by omega) (rngV_lp (by omega)) rfl (Sy.evI_r1 (by cbv; rw [mu]; cbv) (by omega) (by omega)) rfl
  have ee2 := const_lc H (call := call) (c := lc__law_first_spot_2) (it := .r1 (.var 1)) (i := 2) (ρ := [some (.p (rowsP h ss (.lst r0 :: rt))), some (.p (.int lv)), none]) (cs := []) (n := lv) (by omega) (by omega) (rngV_lp (by omega)) rfl (Sy.evI_r1 (by cbv) (by omega) (by omega)) rfl
  have ee1 := const_lc H (call := call) (c := lc__law_first_spot_1) (it := .sq (.ix (.var 0) (.int 1))) (i := 2) (ρ := [some (.p (rowsP h ss (.lst r0 :: rt))), some (.p (.int lv)), none]) (cs := []) (n := n) (by omega) (by omega) qss rfl (by cbv) rfl
  rw [e2] at e3
  generalize Z (2 * lv) = z3 at e3 ⊢
  generalize Z lv = z2 at ee2 ⊢
  generalize Z n = z1 at ee1 ⊢
  cbv at e3 ee2 ee1
  cbv
  rw [ln]; cbv; rw [elv]; cbv; rw [e3]; cbv; rw [ee2]; cbv; rw [ee1]; cbv
theorem Z_spt {lv n : Int} (h : 2 ≤ lv) (n0 : 0 ≤ n) : Spt lv n (Z (2 * lv)) (Z lv) (Z n) := ⟨Z_lp (by omega), (Z_lp (by omega)).imp fun x ⟨i, e, _⟩ => ⟨i, e⟩, (Z_lp n0).imp fun x ⟨i, e, a, b⟩ => ⟨i, e, a, by omega⟩⟩
abbrev env11 (rows needs spot group : P) (lv : Int) (o8 o9 o10 : Option VP) : Env := [some (.p rows), some (.p needs), some (.p spot), some (.p group), some (.p (.int lv)), some (.ref 0), some (.ref 1), some (.ref 2), o8, o9, o10]
abbrev env12t (crew works trip grp : P) (o7 o8 o9 o10 o11 : Option VP) : Env := [some (.p crew), some (.p works), some (.p trip), some (.p grp), some (.ref 0), some (.ref 1), some (.ref 2), o7, o8, o9, o10, o11]
/-- a turn, both ways -/
def TurnOk (call : Nat → List Arg → CR) (lv n : Int) (rows crew spot trip : P) : Prop := ∀ (w : Int) (works : P), 0 ≤ w → w < n → ∃ (s : List Nat) (p p' : Int), 0 ≤ p ∧ p < 2 * lv ∧ 0 ≤ p' ∧ p' < 2 * lv ∧ (s = sWork → lv ≤ p) ∧
  call 6 [.imm crew, .imm works, .imm trip, .imm (.int w)] = .ok (.tup [.str s, .int p, .int p']) false [] ∧ call 20 [.imm rows, .imm spot, .imm (.int w)] = .ok (.lst [.str s, .int p, .int p']) true []
theorem tick_loop (H : HG O G) {h lv n : Int} {ss ls : List P} (n1 : n ≤ 16) (lv0 : 2 ≤ lv) (lv1 : lv ≤ 16) {rows : P} {nd ds0 cs0 ps0 g : List P} {works grp : P} (hw : works = .lst nd ∨ works = .tup nd) (hgr : grp = .lst g ∨ grp = .tup g) (tn : TurnOk call lv n rows (crewL h ss ls) (spotP ds0 cs0 ps0) (tripP ds0 cs0 ps0)) (lvs : call 32 [.imm (crewL h ss ls)] = .ok (.int lv) false [])
    (sp : Spt lv n ds0 cs0 ps0) (ln : LP lv (IsI 1 17) nd) {m : Int} (lg : LP m (IsI 0 n) g) :
    ∃ ds cs ps, Spt lv n ds cs ps ∧ (∃ o8 o9 o10, Sy.evS O G call 0 lp__law_walk_tick_1 (env11 rows (.lst nd) (spotP ds0 cs0 ps0) (.lst g) lv none none none) [.lst ds0, .lst cs0, .lst ps0] = .nx (env11 rows (.lst nd) (spotP ds0 cs0 ps0) (.lst g) lv o8 o9 o10) [.lst ds, .lst cs, .lst ps]) ∧
      ∃ o7 o8 o9 o10 o11, Sy.evS O G call 0 lp_walk_tick_1 (env12t (crewL h ss ls) works (tripP ds0 cs0 ps0) grp none none none none none) [.lst ds0, .lst cs0, .lst ps0] = .nx (env12t (crewL h ss ls) works (tripP ds0 cs0 ps0) grp o7 o8 o9 o10 o11) [.lst ds, .lst cs, .lst ps] := by
  have ei : Sy.evI O G call (.sq (.var 3)) (env11 rows (.lst nd) (spotP ds0 cs0 ps0) (.lst g) lv none none none) [.lst ds0, .lst cs0, .lst ps0] = .ok g [.lst ds0, .lst cs0, .lst ps0] := rfl
  have ei2 : Sy.evI O G call (.sq (.var 3)) (env12t (crewL h ss ls) works (tripP ds0 cs0 ps0) grp none none none none none) [.lst ds0, .lst cs0, .lst ps0] = .ok g [.lst ds0, .lst cs0, .lst ps0] := by rcases hgr with rfl | rfl <;> rfl
  rw [lp__law_walk_tick_1, Sy.for_eq2 (Sy.box_ H.std) ei rfl, lp_walk_tick_1, Sy.for_eq2 (Sy.box_ H.std) ei2 rfl]
  obtain ⟨fns, cls, gls, mks⟩ := G
  have k0 : cls 0 = some ⟨[0, 1, 2], [(3, 31), (4, 32)]⟩ := H.c0
  obtain ⟨ρ1, c1, ρ2, c2, e1, e2, m', ds, cs, ps, o8, o9, o10, t7, t8, t9, t10, t11, st, lx, rfl, rfl, rfl, rfl⟩ := forL_two (b1 := fun x ρ cs => match asgT (.nm 8) x ρ with | some ρ' => Sy.evSs O ⟨fns, cls, gls, mks⟩ call 0 (bodyOf lp__law_walk_tick_1) ρ' cs | none => .stk) (b2 := fun x ρ cs => match asgT (.nm 7) x ρ with | some ρ' => Sy.evSs O ⟨fns, cls, gls, mks⟩ call 0 (bodyOf lp_walk_tick_1) ρ' cs | none => .stk) (fun xs ρ1 c1 ρ2 c2 => ∃ (m : Int) (ds cs ps : List P) (o8 o9 o10 : Option P) (t7 t8 t9 t10 t11 : Option P), Spt lv n ds cs ps ∧ LP m (IsI 0 n) xs ∧
      ρ1 = env11 rows (.lst nd) (spotP ds0 cs0 ps0) (.lst g) lv (o8.map .p) (o9.map .p) (o10.map .p) ∧ c1 = [.lst ds, .lst cs, .lst ps] ∧ ρ2 = env12t (crewL h ss ls) works (tripP ds0 cs0 ps0) grp (t7.map .p) (t8.map .p) (t9.map .p) (t10.map .p) (t11.map .p) ∧ c2 = [.lst ds, .lst cs, .lst ps])
    (fun q xs ρ1 c1 ρ2 c2 ⟨m, ds, cs, ps, o8, o9, o10, t7, t8, t9, t10, t11, st, lx, r1, r2, r3, r4⟩ => by
      subst r1 r2 r3 r4
      obtain ⟨w, rfl, w0, w1⟩ := lx.head
      obtain ⟨s, p, p', p0, p1, q0, q1, hs, e1, e2⟩ := tn w works w0 w1
      obtain ⟨ps', ep, lp⟩ := Sy.lp_sto H.std st.ps w0 w1 (v := .int p') ⟨p', rfl, q0, q1⟩
      obtain ⟨ds', ed, ld⟩ := Sy.lp_sto H.std st.ds p0 p1 (v := .int 1) ⟨1, rfl, by decide, by decide⟩
      have body : ∃ ds2 cs2 o10' t11', Spt lv n ds2 cs2 ps' ∧
          (∀ a8 a9 : Option VP, Sy.evSs O ⟨fns, cls, gls, mks⟩ call 0 (bodyOf lp__law_walk_tick_1) (env11 rows (.lst nd) (spotP ds0 cs0 ps0) (.lst g) lv (some (.p (.int w))) a9 (o10.map .p)) [.lst ds, .lst cs, .lst ps] = .nx (env11 rows (.lst nd) (spotP ds0 cs0 ps0) (.lst g) lv (some (.p (.int w))) (some (.p (.lst [.str s, .int p, .int p']))) (Option.map .p o10')) [.lst ds2, .lst cs2, .lst ps']) ∧
          (∀ a8 a9 a10 : Option VP, Sy.evSs O ⟨fns, cls, gls, mks⟩ call 0 (bodyOf lp_walk_tick_1) (env12t (crewL h ss ls) works (tripP ds0 cs0 ps0) grp (some (.p (.int w))) a8 a9 a10 (t11.map .p)) [.lst ds, .lst cs, .lst ps] = .nx (env12t (crewL h ss ls) works (tripP ds0 cs0 ps0) grp (some (.p (.int w))) (some (.p (.str s))) (some (.p (.int p))) (some (.p (.int p'))) (Option.map .p t11')) [.lst ds2, .lst cs2, .lst ps']) := by
        cases b1 : decide (s = sWork)
        · cases b2 : decide (s = sMark)
          · refine ⟨ds, cs, o10, t11, ⟨st.ds, st.cs, lp⟩, fun a8 a9 => ?_, fun a8 a9 a10 => ?_⟩
            · cases o10 <;> (cbv; rw [e2]; cbv; rw [ep]; cbv; rw [b1]; cbv; rw [b2]; cbv)
            · cases t11 <;> (cbv; rw [e1]; cbv; rw [ep]; cbv; rw [b1]; cbv; rw [b2]; cbv)
          · refine ⟨ds', cs, o10, t11, ⟨ld, st.cs, lp⟩, fun a8 a9 => ?_, fun a8 a9 a10 => ?_⟩
            · cases o10 <;> (cbv; rw [e2]; cbv; rw [ep]; cbv; rw [b1]; cbv; rw [b2]; cbv; rw [ed]; cbv)
            · cases t11 <;> (cbv; rw [e1]; cbv; rw [ep]; cbv; rw [b1]; cbv; rw [b2]; cbv; rw [ed]; cbv)
        · have hss : s = sWork := of_decide_eq_true b1
          have hp := hs hss
          subst hss
          have isb : O .isub p lv = p - lv := Sy.isub_ H.std p lv
          obtain ⟨_, ⟨c0, rfl⟩, ec0, ec0'⟩ := Sy.lp_ix H.std sp.cs (p := O .isub p lv) (by omega) (by omega)
          obtain ⟨cs', ec, lc⟩ := Sy.lp_sto H.std st.cs (p := O .isub p lv) (by omega) (by omega) (v := .int (O .iadd c0 1)) ⟨_, rfl⟩
          obtain ⟨_, ⟨c1, rfl⟩, ec1, _⟩ := Sy.lp_ix H.std lc (p := O .isub p lv) (by omega) (by omega)
          obtain ⟨_, ⟨c2, rfl, _, _⟩, ec2, ec2'⟩ := Sy.lp_ix H.std ln (p := O .isub p lv) (by omega) (by omega)
          have ew : O .ixv works (.int (O .isub p lv)) = some (.int c2) := by rcases hw with rfl | rfl <;> assumption
          cases b3 : O .ieq c1 c2
          · refine ⟨ds, cs', some (.int (O .isub p lv)), some (.int (O .isub p lv)), ⟨st.ds, lc, lp⟩, fun a8 a9 => ?_, fun a8 a9 a10 => ?_⟩
            · cases o10 <;> (cbv; rw [e2]; cbv; rw [ep]; cbv; rw [ec0]; cbv; rw [ec]; cbv; rw [ec1]; cbv; rw [ec2]; cbv; rw [b3]; cbv)
            · cases t11 <;> (cbv; rw [e1]; cbv; rw [ep]; cbv; rw [k0]; cbv; rw [lvs]; cbv; rw [ec0']; cbv; rw [ec]; cbv; rw [ec1]; cbv; rw [ew]; cbv; rw [b3]; cbv)
          · refine ⟨ds', cs', some (.int (O .isub p lv)), some (.int (O .isub p lv)), ⟨ld, lc, lp⟩, fun a8 a9 => ?_, fun a8 a9 a10 => ?_⟩
            · cases o10 <;> (cbv; rw [e2]; cbv; rw [ep]; cbv; rw [ec0]; cbv; rw [ec]; cbv; rw [ec1]; cbv; rw [ec2]; cbv; rw [b3]; cbv; rw [ed]; cbv)
            · cases t11 <;> (cbv; rw [e1]; cbv; rw [ep]; cbv; rw [k0]; cbv; rw [lvs]; cbv; rw [ec0']; cbv; rw [ec]; cbv; rw [ec1]; cbv; rw [ew]; cbv; rw [b3]; cbv; rw [ed]; cbv)
      obtain ⟨ds2, cs2, o10', t11', st2, f1, f2⟩ := body
      refine ⟨env11 rows (.lst nd) (spotP ds0 cs0 ps0) (.lst g) lv (some (.p (.int w))) (some (.p (.lst [.str s, .int p, .int p']))) (Option.map .p o10'), [.lst ds2, .lst cs2, .lst ps'], env12t (crewL h ss ls) works (tripP ds0 cs0 ps0) grp (some (.p (.int w))) (some (.p (.str s))) (some (.p (.int p))) (some (.p (.int p'))) (Option.map .p t11'), [.lst ds2, .lst cs2, .lst ps'], f1 (o8.map .p) (o9.map .p), f2 (t8.map .p) (t9.map .p) (t10.map .p), m - 1, ds2, cs2, ps', some (.int w), some (.lst [.str s, .int p, .int p']), o10', some (.int w), some (.str s), some (.int p), some (.int p'), t11', st2, lx.tail, ?_, rfl, ?_, rfl⟩
      · cases o10' <;> rfl
      · cases t11' <;> rfl) g _ _ _ _ ⟨m, ds0, cs0, ps0, none, none, none, none, none, none, none, none, sp, lg, rfl, rfl, rfl, rfl⟩
  exact ⟨ds, cs, ps, st, ⟨_, _, _, e1⟩, _, _, _, _, _, e2⟩
theorem tick (H : HG O G) (k : Nat) {h lv n : Int} {ss rs : List P} (q : Crw h lv n ss rs) {ds cs ps nd g : List P} (sp : Spt lv n ds cs ps) (ln : LP lv (IsI 1 17) nd) {m : Int} (lg : LP m (IsI 0 n) g) : ∃ ds' cs' ps', Spt lv n ds' cs' ps' ∧ Sy.evCall O G (k + 5) 21 [.imm (rowsP h ss rs), .imm (.lst nd), .imm (spotP ds cs ps), .imm (.lst g)] = .ok (spotP ds' cs' ps') true [] ∧
    ∀ works grp, (works = .lst nd ∨ works = .tup nd) → (grp = .lst g ∨ grp = .tup g) → Sy.evCall O G (k + 5) 7 [.imm (crewP h ss rs), .imm works, .imm (tripP ds cs ps), .imm grp] = .ok (tripP ds' cs' ps') false [] := by
  have tn : TurnOk (Sy.evCall O G (k + 4)) lv n (rowsP h ss rs) (crewP h ss rs) (spotP ds cs ps) (tripP ds cs ps) := fun w works w0 w1 => by
    obtain ⟨s, p, p', b1, b2, b3, b4, b5, e1, e2⟩ := turn H k q sp w0 w1 works
    exact ⟨s, p, p', b1, b2, b3, b4, b5, e1, e2⟩
  have lvs := leaves H (k + 2) q.hl ss (rs.map tupOf)
  have hb := q.hl.b
  have n1 := q.n1
  obtain ⟨rows, hrows⟩ : ∃ rows, rows = rowsP h ss rs := ⟨_, rfl⟩
  rw [← hrows] at tn
  obtain ⟨_, rt, ers, r0, rfl, lr0⟩ := LP.one q.rs q.n0
  have lnn := (Sy.lp_len H.std lr0).1
  obtain ⟨lq, hlq⟩ : ∃ lq : Int, lq = lv - 1 := ⟨_, rfl⟩
  rw [← hlq] at lnn
  have elv : O .iadd lq 1 = lv := by rw [Sy.iadd_ H.std]; omega
  obtain ⟨ds', cs', ps', st, ⟨o8, o9, o10, e⟩, _⟩ := tick_loop H n1 hb.2.2.1 hb.2.2.2 (.inl rfl) (.inl rfl) tn lvs sp ln lg
  refine ⟨ds', cs', ps', st, ?_, fun works grp hw hgr => ?_⟩
  · rw [← hrows]
    refine ok_of (Sy.wp_fn (k := k + 4) (d := f__law_walk_tick) H.f21 rfl ?_)
    generalize Sy.evCall O G (k + 4) = call at e ⊢
    have hr : rows = .lst [.int h, .lst ss, .lst (.lst r0 :: rt)] := by rw [hrows, ers]
    rw [hr] at e ⊢
    cbv at e
    cbv
    rw [lnn]; cbv; rw [elv]; cbv; rw [e]; cbv
  · obtain ⟨ds2, cs2, ps2, _, ⟨o8', o9', o10', e'⟩, o7, t8, t9, t10, t11, e2⟩ := tick_loop H n1 hb.2.2.1 hb.2.2.2 hw hgr tn lvs sp ln lg
    rw [e] at e'
    simp only [RS.nx.injEq, List.cons.injEq, Cell.lst.injEq] at e'
    obtain ⟨_, rfl, rfl, rfl, _⟩ := e'
    refine ok_of (Sy.wp_fn (k := k + 4) (d := f_walk_tick) H.f7 rfl ?_)
    show RS.wp (Sy.evSs O G (Sy.evCall O G (k + 4)) 0 b_walk_tick [some (.p (.ins 0 [.int h, .tup ss, .tup (rs.map tupOf)])), some (.p works), some (.p (.tup [.tup ds, .tup cs, .tup ps])), some (.p grp), none, none, none, none, none, none, none, none] []) _ _ _ _
    generalize Sy.evCall O G (k + 4) = call at e2 ⊢
    generalize rs.map tupOf = ls at e2 ⊢
    cbv at e2
    cbv; rw [e2]; cbv
end
end K29
set_option maxRecDepth 100000
set_option maxHeartbeats 4000000
namespace K29
open Ev
def nthS : CSs → Nat → CS
  | .cons s _, 0 => s
  | .cons _ r, n + 1 => nthS r n
  | _, _ => .stk
theorem step {O : Ops} {G : Glob} {call : Nat → List Arg → CR} {m : Nat} {s : CS} {ss : CSs} {ρ ρ' : Env} {cs cs' : Cells} (e : Sy.evS O G call m s ρ cs = .nx ρ' cs') : Sy.evSs O G call m (.cons s ss) ρ cs = Sy.evSs O G call m ss ρ' cs' := by rw [Sy.evSs, e]; rfl
theorem stepb {O : Ops} {G : Glob} {call : Nat → List Arg → CR} {m : Nat} {s : CS} {ss : CSs} {ρ ρ' : Env} {cs cs' : Cells} (e : Sy.evS O G call m s ρ cs = .bk ρ' cs') : Sy.evSs O G call m (.cons s ss) ρ cs = .bk ρ' cs' := by rw [Sy.evSs, e]; rfl
abbrev partP (h : Int) (ss rs nd : List P) : P := .lst [rowsP h ss rs, .lst nd]
/-- a place of a side -/
def SpP (lv n : Int) (x : P) : Prop := ∃ ds cs ps, x = spotP ds cs ps ∧ Spt lv n ds cs ps
theorem Spt.ints {lv n : Int} {ds cs ps : List P} (s : Spt lv n ds cs ps) : LP (2 * lv) IsN ds ∧ LP lv IsN cs ∧ LP n IsN ps := ⟨s.ds.imp fun x ⟨i, e, _⟩ => ⟨i, e⟩, s.cs, s.ps.imp fun x ⟨i, e, _⟩ => ⟨i, e⟩⟩
section
variable {O : Ops} {G : Glob} {call : Nat → List Arg → CR}
theorem holds (H : HG O G) (k : Nat) {h lv n : Int} {ss rs nd : List P} (q : Crw h lv n ss rs) (l : LP lv (IsI 1 17) nd) {sp : P} (p : SpP lv n sp) {g : List P} (gp : GrpP n (.lst g)) (shape : Int) : Sy.evCall O G (k + 6) 24 [.imm (crewP h ss rs), .imm (partP h ss rs nd), .imm sp, .imm (.lst g), .imm (.int shape)] = .ok (.bool true) false [] := by
  obtain ⟨ds, cs, ps, rfl, st⟩ := p
  obtain ⟨_, eg, m, mb, lg⟩ := gp
  cases eg
  obtain ⟨ds', cs', ps', st', e1, e2⟩ := tick H k q st l lg
  have f1 := e2 (.tup nd) (.tup g) (.inr rfl) (.inr rfl)
  have f2 := e2 (.lst nd) (.lst g) (.inl rfl) (.inl rfl)
  have tr := triple H (k + 4) ds cs ps
  obtain ⟨i1, i2, i3⟩ := st'.ints
  have sp := isSpot H (k + 2) i1 i2 i3
  have d1 := LP.dat1 (l.imp (ψ := IsN) fun x ⟨i, e, _⟩ => ⟨i, e⟩)
  have d2 := LP.dat1 (lg.imp (ψ := IsN) fun x ⟨i, e, _⟩ => ⟨i, e⟩)
  have q1 := Sy.eqc_refl H.std d1.1 (by omega)
  have q2 := Sy.eqc_refl H.std d2.1 (by omega)
  refine ok_of (Sy.wp_fn (k := k + 5) (d := f__law_tick_holds) H.f24 rfl ?_)
  generalize Sy.evCall O G (k + 5) = call at e1 f1 f2 tr sp ⊢
  generalize crewP h ss rs = crew at f1 f2 ⊢
  cases c : O .ieq shape 1
  · cbv; rw [e1]; cbv; rw [c]; cbv; rw [tr]; cbv; rw [f2]; cbv; rw [sp]; cbv; rw [q1]; cbv; rw [q2]; cbv
  · cbv; rw [e1]; cbv; rw [c]; cbv; rw [tr]; cbv; rw [f1]; cbv; rw [sp]; cbv
/-- the slots of the law -/
abbrev E9 (ns : List Int) (a1 a2 a3 a4 a5 a6 a7 a8 a9 a10 a11 a12 a13 a14 a15 a16 : Option VP) : Env := [some (.p (.scr ns)), a1, a2, a3, a4, a5, a6, a7, a8, a9, a10, a11, a12, a13, a14, a15, a16, none, none, none, none, none, none]
def CellOk (call : Nat → List Arg → CR) (ns : List Int) : Prop := ∀ i : Int, 0 ≤ i → i ≤ 100 → ∃ v : Int, call 9 [.imm (.scr ns), .imm (.int i)] = .ok (.int v) false []
def RowsOk (call : Nat → List Arg → CR) : Prop := ∀ c : Int, ∃ h lv n ss rs, Crw h lv n ss rs ∧ call 13 [.imm (.int c)] = .ok (rowsP h ss rs) true []
def NeedOk (call : Nat → List Arg → CR) : Prop := ∀ c lv : Int, 0 ≤ lv → lv ≤ 16 → ∃ nd, LP lv (IsI 1 17) nd ∧ call 14 [.imm (.int c), .imm (.int lv)] = .ok (.lst nd) true []
def MakeOk (call : Nat → List Arg → CR) : Prop := ∀ h lv n ss rs, Crw h lv n ss rs → call 27 [.imm (.int h), .imm (.lst ss), .imm (.lst rs)] = .ok (crewP h ss rs) false []
def FeedOk (call : Nat → List Arg → CR) : Prop := ∀ c : Int, ∃ x y z : Int, call 10 [.imm (.int c)] = .ok (.lst [.int x, .int y, .int z]) true []
def GroupsOk (call : Nat → List Arg → CR) : Prop := ∀ c n : Int, 1 ≤ n → n ≤ 16 → ∃ gs, (∃ m, m ≤ 41 ∧ LP m (GrpP n) gs) ∧ call 16 [.imm (.int c), .imm (.int n)] = .ok (.lst gs) true []
theorem lc7 (H : HG O G) {ns : List Int} {a1 a2 a3 : Option VP} {h lv n : Int} {ss rs : List P} (q : Crw h lv n ss rs) (cs : Cells) :
    Sy.evL O G call lc_law_7 [some (.p (.scr ns)), a1, a2, a3, none, none, none, none, none, none, none, none, none, none, none, none, none, some (.p (rowsP h ss rs)), none, none, none, none, none] cs = .ok rs cs := by
  have ei : Sy.evI O G call (.sq (.ix (.var 17) (.int 2))) [some (.p (.scr ns)), a1, a2, a3, none, none, none, none, none, none, none, none, none, none, none, none, none, some (.p (rowsP h ss rs)), none, none, none, none, none] cs = .ok rs cs := rfl
  have n1 := q.n1
  rw [lc_law_7, Sy.lc_eq H.std ei rfl (by have := q.rs.1; show _ ≤ 16777216; omega)]
  rw [lcL_all (g := id) rs cs [] fun x m => by
    obtain ⟨r, rfl, l⟩ := q.rs.2 x m
    rfl]
  rw [List.map_id]
  rfl
theorem st04 (H : HG O G) {ns : List Int} (ce : CellOk call ns) (ro : RowsOk call) (mk : MakeOk call) (fe : FeedOk call) (tk : Tk call) : ∃ (style : Int) (x y z : Int) (h lv n : Int) (ss rs : List P) (h' lv' n' : Int) (ss' rs' : List P), Crw h lv n ss rs ∧ Crw h' lv' n' ss' rs' ∧
    ∀ R : CSs, Sy.evSs O G call 0 (.cons (nthS b_law 0) (.cons (nthS b_law 1) (.cons (nthS b_law 2) (.cons (nthS b_law 3) (.cons (nthS b_law 4) R))))) (E9 ns none none none none none none none none none none none none none none none none) [] =
      Sy.evSs O G call 0 R (E9 ns (some (.ref 0)) (some (.p (.int style))) (some (.ref 1)) (some (.ref 2)) none none none none none none none none none none none none) [fd x y z, .lst [rowsP h ss rs, rowsP h' ss' rs'], .lst [crewP h ss rs, crewP h' ss' rs']] := by
  obtain ⟨v3, e3⟩ := ce 3 (by decide) (by decide)
  obtain ⟨x, y, z, ef⟩ := fe v3
  obtain ⟨d1, x1, y1, z1, _, _, e1⟩ := tk x y z 4 (by decide) (by decide)
  obtain ⟨v0, e0⟩ := ce 0 (by decide) (by decide)
  obtain ⟨v4, e4⟩ := ce 4 (by decide) (by decide)
  obtain ⟨h, lv, n, ss, rs, q, er⟩ := ro v0
  obtain ⟨h', lv', n', ss', rs', q', er'⟩ := ro v4
  have m1 := mk _ _ _ _ _ q
  have m2 := mk _ _ _ _ _ q'
  obtain ⟨d2, x2, y2, z2, _, _, e2⟩ := tk x1 y1 z1 2 (by decide) (by decide)
  have l1 := lc7 H (call := call) (ns := ns) (a1 := some (.ref 0)) (a2 := some (.p (.int d1))) (a3 := some (.ref 1)) q [fd x1 y1 z1, .lock (.lst [rowsP h ss rs, rowsP h' ss' rs'])]
  have l2 := lc7 H (call := call) (ns := ns) (a1 := some (.ref 0)) (a2 := some (.p (.int d1))) (a3 := some (.ref 1)) q' [fd x1 y1 z1, .lock (.lst [rowsP h ss rs, rowsP h' ss' rs'])]
  cases c : O .ieq d2 1
  · refine ⟨d1, x2, y2, z2, h, lv, n, ss, rs, h', lv', n', ss', rs', q, q', fun R => ?_⟩
    generalize crewP h ss rs = c1 at m1 ⊢
    generalize crewP h' ss' rs' = c2 at m2 ⊢
    cbv at l1 l2
    cbv; rw [e3]; cbv; rw [ef]; cbv; rw [e1]; cbv; rw [e0]; cbv; rw [er]; cbv; rw [e4]; cbv; rw [er']; cbv; rw [Sy.boxL_ H.std]; cbv
    rw [l1]; cbv; rw [m1]; cbv; rw [l2]; cbv; rw [m2]; cbv; rw [e2]; cbv; rw [c]; cbv
  · refine ⟨d1, x2, y2, z2, h, lv, n, ss, rs, h, lv, n, ss, rs, q, q, fun R => ?_⟩
    generalize crewP h ss rs = c1 at m1 ⊢
    generalize crewP h' ss' rs' = c2 at m2 ⊢
    cbv at l1 l2
    cbv; rw [e3]; cbv; rw [ef]; cbv; rw [e1]; cbv; rw [e0]; cbv; rw [er]; cbv; rw [e4]; cbv; rw [er']; cbv; rw [Sy.boxL_ H.std]; cbv
    rw [l1]; cbv; rw [m1]; cbv; rw [l2]; cbv; rw [m2]; cbv; rw [e2]; cbv; rw [c]; cbv; rw [Sy.sto_ H.std]; cbv; rw [Sy.sto_ H.std]; cbv
theorem st58 (H : HG O G) {ns : List Int} (ce : CellOk call ns) (ne : NeedOk call) (tk : Tk call) {style x y z : Int} {h lv n : Int} {ss rs : List P} {h' lv' n' : Int} {ss' rs' : List P} (q : Crw h lv n ss rs) (q' : Crw h' lv' n' ss' rs') (crews : Cell) : ∃ (lead x' y' z' : Int) (nd nd' : List P), 0 ≤ lead ∧ lead < n ∧ lead < n' ∧ LP lv (IsI 1 17) nd ∧ LP lv' (IsI 1 17) nd' ∧
    ∀ R : CSs, Sy.evSs O G call 0 (.cons (nthS b_law 5) (.cons (nthS b_law 6) (.cons (nthS b_law 7) (.cons (nthS b_law 8) R)))) (E9 ns (some (.ref 0)) (some (.p (.int style))) (some (.ref 1)) (some (.ref 2)) none none none none none none none none none none none none) [fd x y z, .lst [rowsP h ss rs, rowsP h' ss' rs'], crews] =
      Sy.evSs O G call 0 R (E9 ns (some (.ref 0)) (some (.p (.int style))) (some (.ref 1)) (some (.ref 2)) (some (.p (.lst [.int n, .int n']))) (some (.p (.int lead))) (some (.ref 3)) none none none none none none none none none) [fd x' y' z', .lst [rowsP h ss rs, rowsP h' ss' rs'], crews, .lst [partP h ss rs nd, partP h' ss' rs' nd']] := by
  have b1 := q.n0
  have b2 := q.n1
  have b3 := q'.n0
  have b4 := q'.n1
  have s1 := (Sy.lp_len H.std q.ss).1
  have s2 := (Sy.lp_len H.std q'.ss).1
  have mn := Sy.min_two H.std n n'
  obtain ⟨mm, hmm⟩ : ∃ mm : Int, mm = if n' < n then n' else n := ⟨_, rfl⟩
  rw [← hmm] at mn
  have mb : 1 ≤ mm ∧ mm ≤ n ∧ mm ≤ n' ∧ mm ≤ 16 := by rw [hmm]; split <;> omega
  obtain ⟨ld, x1, y1, z1, d0, d1, e1⟩ := tk x y z mm (by omega) (by omega)
  obtain ⟨v1, ev1⟩ := ce 1 (by decide) (by decide)
  obtain ⟨v5, ev5⟩ := ce 5 (by decide) (by decide)
  obtain ⟨_, rt, ers, r0, rfl, lr0⟩ := LP.one q.rs q.n0
  obtain ⟨_, rt', ers', r0', rfl, lr0'⟩ := LP.one q'.rs q'.n0
  subst ers ers'
  have hb := q.hl.b
  have hb' := q'.hl.b
  have ln := (Sy.lp_len H.std lr0).1
  have ln' := (Sy.lp_len H.std lr0').1
  obtain ⟨lq, hlq⟩ : ∃ lq : Int, lq = lv - 1 := ⟨_, rfl⟩
  obtain ⟨lq', hlq'⟩ : ∃ lq : Int, lq = lv' - 1 := ⟨_, rfl⟩
  rw [← hlq] at ln
  rw [← hlq'] at ln'
  have elv : O .iadd lq 1 = lv := by rw [Sy.iadd_ H.std]; omega
  have elv' : O .iadd lq' 1 = lv' := by rw [Sy.iadd_ H.std]; omega
  obtain ⟨nd, ln1, en⟩ := ne v1 (O .iadd lq 1) (by omega) (by omega)
  obtain ⟨nd', ln1', en'⟩ := ne v5 (O .iadd lq' 1) (by omega) (by omega)
  refine ⟨ld, x1, y1, z1, nd, nd', d0, by omega, by omega, ln1.to elv, ln1'.to elv', fun R => ?_⟩
  cbv; rw [Sy.boxL_ H.std]; cbv; rw [s1]; cbv; rw [s2]; cbv; rw [mn]; cbv; rw [e1]; cbv
  rw [ev1]; cbv; rw [ln]; cbv; rw [en]; cbv; rw [ev5]; cbv; rw [ln']; cbv; rw [en']; cbv; rw [Sy.mth_ H.std]; cbv
end
end K29
set_option maxRecDepth 100000
set_option maxHeartbeats 4000000
namespace K29
open Ev
section
variable {O : Ops} {G : Glob} {call : Nat → List Arg → CR}
abbrev sp0 (lv n : Int) : P := spotP (Z (2 * lv)) (Z lv) (Z n)
abbrev tr0 (lv n : Int) : P := tripP (Z (2 * lv)) (Z lv) (Z n)
/-- what the calls do at a side -/
structure Side (call : Nat → List Arg → CR) (c : P) (h lv n : Int) (ss rs nd : List P) : Prop where
  sq : LP n (IsI 0 lv) ss
  lnd : LP lv (IsI 1 17) nd
  lb : 2 ≤ lv ∧ lv ≤ 16
  nb : 1 ≤ n ∧ n ≤ 16
  first : call 18 [.imm (rowsP h ss rs)] = .ok (sp0 lv n) true []
  start : call 3 [.imm c] = .ok (tr0 lv n) false []
  same : call 23 [.imm (tr0 lv n), .imm (sp0 lv n)] = .ok (.bool true) false []
  hold : ∀ sp g shape, SpP lv n sp → GrpP n (.lst g) → call 24 [.imm c, .imm (partP h ss rs nd), .imm sp, .imm (.lst g), .imm (.int shape)] = .ok (.bool true) false []
  tick : ∀ sp g, SpP lv n sp → GrpP n (.lst g) → ∃ sp', SpP lv n sp' ∧ call 21 [.imm (rowsP h ss rs), .imm (.lst nd), .imm sp, .imm (.lst g)] = .ok sp' true []
  stay : call 25 [.imm c, .imm (rowsP h ss rs)] = .ok (.bool true) false []
/-- the most workers -/
def mx2 (a b : Int) : Int := if b > a then b else a
theorem mx2_b {a b : Int} (h : 1 ≤ a ∧ a ≤ 16) (h' : 1 ≤ b ∧ b ≤ 16) : 1 ≤ mx2 a b ∧ mx2 a b ≤ 16 ∧ a ≤ mx2 a b ∧ b ≤ mx2 a b := by unfold mx2; split <;> omega
theorem lc5 (H : HG O G) {ns : List Int} (hn : ns.length ≤ 63) (fe : FeedOk call) (so : SomeOk call) {style lead n n' : Int} {gs : P} (b : 1 ≤ n ∧ n ≤ 16) (b' : 1 ≤ n' ∧ n' ≤ 16) (cs : Cells) : ∃ gs', (∃ m, m ≤ 63 ∧ LP m (GrpP (mx2 n n')) gs') ∧
    Sy.evL O G call lc_law_5 (E9 ns (some (.ref 0)) (some (.p (.int style))) (some (.ref 1)) (some (.ref 2)) (some (.p (.lst [.int n, .int n']))) (some (.p (.int lead))) (some (.ref 3)) (some (.p gs)) none none none none none none none none) cs = .ok gs' cs := by
  obtain ⟨zs, es, m, m1, lz⟩ := Sy.slw_scr H.std ns hn (some 6) (some 63)
  have mb := mx2_b b b'
  have mx : O .bil .max (.lst [.int n, .int n']) = some (.int (mx2 n n')) := Sy.max_two H.std n n'
  generalize mx2 n n' = mm at mb mx ⊢
  have ei : Sy.evI O G call (.sq (.sl (.var 0) (.some (.int 6)) (.some (.int 63)))) (E9 ns (some (.ref 0)) (some (.p (.int style))) (some (.ref 1)) (some (.ref 2)) (some (.p (.lst [.int n, .int n']))) (some (.p (.int lead))) (some (.ref 3)) (some (.p gs)) none none none none none none none none) cs = .ok zs cs := by
    cbv; rw [es]; cbv
  rw [lc_law_5, Sy.lc_eq H.std ei rfl (by have := lz.1; show _ ≤ 16777216; omega)]
  have key := lcL_gen (f := fun x cs => match asgT (.nm 19) x (wipe (E9 ns (some (.ref 0)) (some (.p (.int style))) (some (.ref 1)) (some (.ref 2)) (some (.p (.lst [.int n, .int n']))) (some (.p (.int lead))) (some (.ref 3)) (some (.p gs)) none none none none none none none none) [19]) with
        | some ρ' => (Sy.evTs O G call .nil ρ' cs).bind fun k cs => if k then (Sy.evE O G call (.call 15 (.ml (.call 10 (.imm (.var 19) .nil)) (.imm (.bi .max (.cons (.var 5) .nil)) .nil))) ρ' cs).bind fun v cs => (escV cs v).bind fun y cs => .ok (some y) cs else .ok Option.none cs
        | Option.none => .stk) (fun xs c acc => ∃ j : Int, LP j (GrpP mm) acc ∧ LP (m - j) IsN xs ∧ c = cs) (fun q xs c acc ⟨j, l1, l2, l3⟩ => by
    subst l3
    obtain ⟨i, rfl⟩ := l2.head
    obtain ⟨x, y, z, ef⟩ := fe i
    obtain ⟨gr, x1, y1, z1, ⟨k, k1, lg⟩, e1⟩ := so mm x y z mb.1 mb.2.1
    refine .inl ⟨.lst gr, c, ?_, j + 1, l1.snoc ⟨gr, rfl, k, by omega, lg⟩, l2.tail.to (by omega), rfl⟩
    cbv; rw [ef]; cbv; rw [mx]; cbv; rw [e1]; cbv) zs cs [] ⟨0, LP.nil, lz.to (by omega), rfl⟩
  obtain ⟨gs', c', e1, j, l1, l2, l3⟩ := key
  subst l3
  exact ⟨gs', ⟨j, by have := l2.1; simp at this; omega, l1⟩, e1⟩
theorem st910 (H : HG O G) {ns : List Int} (hn : ns.length ≤ 63) (ce : CellOk call ns) (fe : FeedOk call) (so : SomeOk call) (gr : GroupsOk call) {style lead n n' : Int} (b : 1 ≤ n ∧ n ≤ 16) (b' : 1 ≤ n' ∧ n' ≤ 16) (cs : Cells) : ∃ gs gm, gm ≤ 104 ∧ LP gm (GrpP (mx2 n n')) gs ∧
    ∀ R : CSs, Sy.evSs O G call 0 (.cons (nthS b_law 9) (.cons (nthS b_law 10) R)) (E9 ns (some (.ref 0)) (some (.p (.int style))) (some (.ref 1)) (some (.ref 2)) (some (.p (.lst [.int n, .int n']))) (some (.p (.int lead))) (some (.ref 3)) none none none none none none none none none) cs =
      Sy.evSs O G call 0 R (E9 ns (some (.ref 0)) (some (.p (.int style))) (some (.ref 1)) (some (.ref 2)) (some (.p (.lst [.int n, .int n']))) (some (.p (.int lead))) (some (.ref 3)) (some (.p (.lst gs))) none none none none none none none none) cs := by
  obtain ⟨v, e2⟩ := ce 2 (by decide) (by decide)
  have mb := mx2_b b b'
  have mx : O .bil .max (.lst [.int n, .int n']) = some (.int (mx2 n n')) := Sy.max_two H.std n n'
  obtain ⟨g1, ⟨m1, b1, l1⟩, e3⟩ := gr v (mx2 n n') mb.1 mb.2.1
  obtain ⟨g2, ⟨m2, b2, l2⟩, e4⟩ := lc5 H hn fe so b b' (style := style) (lead := lead) (gs := .lst g1) cs
  obtain ⟨e5, l5⟩ := Sy.cat_ll H.std l1 l2 (by omega)
  refine ⟨_, _, ?_, l5, fun R => ?_⟩
  · omega
  · generalize g1 ++ g2 = g3 at e5 ⊢
    generalize mx2 n n' = mm at mx e3
    cbv at e4
    cbv; rw [e2]; cbv; rw [mx]; cbv; rw [e3]; cbv; rw [e4]; cbv; rw [e5]; cbv
abbrev EA (ns : List Int) (style n n' lead : Int) (gs : List P) (a9 a10 a11 a12 a13 a14 a15 a16 : Option VP) : Env := E9 ns (some (.ref 0)) (some (.p (.int style))) (some (.ref 1)) (some (.ref 2)) (some (.p (.lst [.int n, .int n']))) (some (.p (.int lead))) (some (.ref 3)) (some (.p (.lst gs))) a9 a10 a11 a12 a13 a14 a15 a16
variable {ns : List Int} {style lead : Int} {c0 c1 : P} {gs : List P} {h lv n h' lv' n' : Int} {ss rs nd ss' rs' nd' : List P}
theorem st1114 (H : HG O G) (A : Side call c0 h lv n ss rs nd) (B : Side call c1 h' lv' n' ss' rs' nd') {gm : Int} {φ : P → Prop} (lg : LP gm φ gs) (gb : gm ≤ 104) (f : Cell) : ∃ limit : Int, 1 ≤ limit ∧ limit ≤ 2000 ∧
    ∀ R : CSs, Sy.evSs O G call 0 (.cons (nthS b_law 11) (.cons (nthS b_law 12) (.cons (nthS b_law 13) (.cons (nthS b_law 14) R)))) (EA ns style n n' lead gs none none none none none none none none) [f, .lst [rowsP h ss rs, rowsP h' ss' rs'], .lst [c0, c1], .lst [partP h ss rs nd, partP h' ss' rs' nd']] =
      Sy.evSs O G call 0 R (EA ns style n n' lead gs (some (.ref 4)) (some (.p (.int 1))) (some (.ref 5)) (some (.p (.int limit))) none none none none) [f, .lst [rowsP h ss rs, rowsP h' ss' rs'], .lst [c0, c1], .lst [partP h ss rs nd, partP h' ss' rs' nd'], .lst [sp0 lv n, sp0 lv' n'], .lst []] := by
  have f1 := A.first
  have f2 := B.first
  have t1 := A.start
  have t2 := B.start
  have u1 := A.same
  have u2 := B.same
  have lb := A.lb
  have lb' := B.lb
  obtain ⟨s1, es1, p0, p1⟩ := Sy.sum_ok H.std A.lnd (by decide) (by decide)
  obtain ⟨s2, es2, q0, q1⟩ := Sy.sum_ok H.std B.lnd (by decide) (by decide)
  have ln := (Sy.lp_len H.std A.lnd).1
  have ln' := (Sy.lp_len H.std B.lnd).1
  have lgs := (Sy.lp_len H.std lg).1
  have g0 : 0 ≤ gm := by have := lg.1; omega
  have m1 : O .mulB 5 lv = true := Sy.mul_l H.std (by decide) (by decide)
  have m2 : O .mulB 5 lv' = true := Sy.mul_l H.std (by decide) (by decide)
  have w1 : O .iadd s1 (O .imul 5 lv) = s1 + 5 * lv := by rw [Sy.iadd_ H.std, Sy.imul_ H.std]
  have w2 : O .iadd s2 (O .imul 5 lv') = s2 + 5 * lv' := by rw [Sy.iadd_ H.std, Sy.imul_ H.std]
  have mx := Sy.max_two H.std (O .iadd s1 (O .imul 5 lv)) (O .iadd s2 (O .imul 5 lv'))
  obtain ⟨mm, hmm⟩ : ∃ mm : Int, mm = if O .iadd s2 (O .imul 5 lv') > O .iadd s1 (O .imul 5 lv) then O .iadd s2 (O .imul 5 lv') else O .iadd s1 (O .imul 5 lv) := ⟨_, rfl⟩
  rw [← hmm] at mx
  have mb : 1 ≤ mm ∧ mm ≤ 1000 := by rw [hmm]; split <;> omega
  have el : O .iadd gm mm = gm + mm := Sy.iadd_ H.std gm mm
  refine ⟨O .iadd gm mm, by omega, by omega, fun R => ?_⟩
  generalize sp0 lv n = x0 at f1 u1 ⊢
  generalize sp0 lv' n' = x1 at f2 u2 ⊢
  generalize tr0 lv n = y0 at t1 u1
  generalize tr0 lv' n' = y1 at t2 u2
  cbv; rw [Sy.boxL_ H.std]; cbv; rw [f1]; cbv; rw [f2]; cbv
  rw [Sy.box_ H.std]; cbv
  repeat (rw [Sy.ixv_ H.std]; cbv)
  rw [t1]; cbv
  repeat (rw [Sy.ixv_ H.std]; cbv)
  rw [u1]; cbv
  repeat (rw [Sy.ixv_ H.std]; cbv)
  rw [t2]; cbv
  repeat (rw [Sy.ixv_ H.std]; cbv)
  rw [u2]; cbv
  rw [lgs]; cbv
  rw [Sy.boxL_ H.std]; cbv; rw [es1]; cbv; rw [ln]; cbv; rw [m1]; cbv; rw [es2]; cbv; rw [ln']; cbv; rw [m2]; cbv; rw [mx]; cbv
end
end K29
set_option maxRecDepth 100000
set_option maxHeartbeats 4000000
namespace K29
open Ev
theorem forL_pair {body : P → Env → Cells → RS} {x y : P} {ρ ρ1 ρ2 : Env} {cs c1 c2 : Cells} (e1 : body x ρ cs = .nx ρ1 c1) (t1 : trimE cs.length ρ1 = ρ1) (k1 : c1.take cs.length = c1) (e2 : body y ρ1 c1 = .nx ρ2 c2) (t2 : trimE c1.length ρ2 = ρ2) (k2 : c2.take c1.length = c2) : forL body [x, y] ρ cs = .nx ρ2 c2 := by
  rw [forL, e1]
  dsimp only
  rw [t1, k1, forL, e2]
  dsimp only
  rw [t2, k2]
  rfl
def KeptQ (lv n lv' n' : Int) (x : P) : Prop := ∃ (i : Int) (s : P) (g : List P), x = .lst [.int i, s, .lst g] ∧ ((i = 0 ∧ SpP lv n s ∧ GrpP n (.lst g)) ∨ (i = 1 ∧ SpP lv' n' s ∧ GrpP n' (.lst g)))
section
variable {O : Ops} {G : Glob} {call : Nat → List Arg → CR} {ns : List Int} {style lead limit cnt : Int} {c0 c1 : P} {gs : List P} {h lv n h' lv' n' : Int} {ss rs nd ss' rs' nd' : List P}
theorem lcf0 (H : HG O G) {m : Int} {g : List P} (lg : LP m (IsI 0 cnt) g) (mb : m ≤ 16777000) (k : Int) (a15 : Option VP) (cs : Cells) : ∃ g', GrpP n (.lst g') ∧
    Sy.evL O G call lc_law_2 (EA ns style n n' lead gs (some (.ref 4)) (some (.p (.int 0))) (some (.ref 5)) (some (.p (.int limit))) (some (.p (.int k))) (some (.p (.lst g))) a15 none) cs = .ok g' cs := by
  have ei : Sy.evI O G call (.sq (.var 14)) (EA ns style n n' lead gs (some (.ref 4)) (some (.p (.int 0))) (some (.ref 5)) (some (.p (.int limit))) (some (.p (.int k))) (some (.p (.lst g))) a15 none) cs = .ok g cs := rfl
  rw [lc_law_2, Sy.lc_eq H.std ei rfl (by have := lg.1; show _ ≤ 16777216; omega)]
  have key := lcL_gen (f := fun x cs => match asgT (.nm 21) x (wipe (EA ns style n n' lead gs (some (.ref 4)) (some (.p (.int 0))) (some (.ref 5)) (some (.p (.int limit))) (some (.p (.int k))) (some (.p (.lst g))) a15 none) [21]) with
        | some ρ' => (Sy.evTs O G call (.cons (.cmp .lt (.var 21) (.ix (.var 5) (.var 10))) .nil) ρ' cs).bind fun k cs => if k then (Sy.evE O G call (.var 21) ρ' cs).bind fun v cs => (escV cs v).bind fun y cs => .ok (some y) cs else .ok Option.none cs
        | Option.none => .stk) (fun xs c acc => (∃ j : Int, j + xs.length ≤ m ∧ LP j (IsI 0 n) acc) ∧ (∃ j : Int, LP j (IsI 0 cnt) xs) ∧ c = cs) (fun q xs c acc ⟨⟨j, jb, l1⟩, ⟨j', l2⟩, l3⟩ => by
    subst l3
    obtain ⟨i, rfl, i0, i1⟩ := l2.head
    simp only [List.length_cons] at jb
    cases cc : O .ilt i n
    · refine .inr ⟨_, ?_, ⟨j, by omega, l1⟩, ⟨_, l2.tail⟩, rfl⟩
      cbv; rw [Sy.ixv_ H.std]; cbv; rw [cc]; cbv
    · refine .inl ⟨.int i, _, ?_, ⟨_, by omega, l1.snoc ⟨i, rfl, i0, Sy.ilt_t H.std cc⟩⟩, ⟨_, l2.tail⟩, rfl⟩
      cbv; rw [Sy.ixv_ H.std]; cbv; rw [cc]; cbv) g cs [] ⟨⟨0, by have := lg.1; omega, LP.nil⟩, ⟨m, lg⟩, rfl⟩
  obtain ⟨g', c', e1, ⟨j, jb, l1⟩, _, l3⟩ := key
  subst l3
  exact ⟨g', ⟨g', rfl, j, by simp at jb; omega, l1⟩, e1⟩
theorem inner0 (H : HG O G) (A : Side call c0 h lv n ss rs nd) (o : Option P) {k : Int} (f : Cell) {s0 s1 : P} (p0 : SpP lv n s0) {g : List P} (gp : GrpP cnt (.lst g)) {kept : List P} {j : Int} (lk : LP j (KeptQ lv n lv' n') kept) (jb : j ≤ 16770000) : ∃ s0' sm kept' j', SpP lv n s0' ∧ j' ≤ j + 1 ∧ LP j' (KeptQ lv n lv' n') kept' ∧
    Sy.evSs O G call 0 (bodyOf lp_law_4) (EA ns style n n' lead gs (some (.ref 4)) (some (.p (.int 0))) (some (.ref 5)) (some (.p (.int limit))) (some (.p (.int k))) (some (.p (.lst g))) (o.map .p) none) [f, .lst [rowsP h ss rs, rowsP h' ss' rs'], .lst [c0, c1], .lst [partP h ss rs nd, partP h' ss' rs' nd'], .lst [s0, s1], .lst kept] =
      .nx (EA ns style n n' lead gs (some (.ref 4)) (some (.p (.int 0))) (some (.ref 5)) (some (.p (.int limit))) (some (.p (.int k))) (some (.p (.lst g))) (some (.p sm)) none) [f, .lst [rowsP h ss rs, rowsP h' ss' rs'], .lst [c0, c1], .lst [partP h ss rs nd, partP h' ss' rs' nd'], .lst [s0', s1], .lst kept'] := by
  obtain ⟨_, eg, m, mb, lg⟩ := gp
  cases eg
  obtain ⟨g', gp', eF⟩ := lcf0 H (call := call) (ns := ns) (style := style) (lead := lead) (gs := gs) (limit := limit) (n := n) (n' := n') lg mb k (o.map .p) [f, .lst [rowsP h ss rs, rowsP h' ss' rs'], .lst [c0, c1], .lst [partP h ss rs nd, partP h' ss' rs' nd'], .lst [s0, s1], .lst kept]
  have eh := A.hold s0 g' (O .imod (O .iadd k 0) 2) p0 gp'
  obtain ⟨s0', q0, et⟩ := A.tick s0 g' p0 gp'
  have m2 : O .modB 2 = true := Sy.mod_ok H.std (by decide)
  have m4 : O .modB 4 = true := Sy.mod_ok H.std (by decide)
  have ln := (Sy.lp_len H.std lk).1
  have ap := Sy.lp_app H.std lk (by omega) (v := .lst [.int 0, s0, .lst g']) ⟨0, s0, g', rfl, .inl ⟨rfl, p0, gp'⟩⟩
  cases b1 : O .ieq (O .imod k 4) 2
  case false =>
    refine ⟨s0', .lst g', kept, j, q0, by omega, lk, ?_⟩
    rcases o with _ | o <;>
      (cbv at eF; cbv; rw [eF]; cbv
       repeat (rw [Sy.ixv_ H.std]; cbv)
       rw [m2]; cbv; rw [eh]; cbv; rw [m4]; cbv; rw [b1]; cbv
       repeat (rw [Sy.ixv_ H.std]; cbv)
       rw [et]; cbv; rw [Sy.sto_ H.std]; cbv)
  cases b2 : O .ilt j 16
  case false =>
    refine ⟨s0', .lst g', kept, j, q0, by omega, lk, ?_⟩
    rcases o with _ | o <;>
      (cbv at eF; cbv; rw [eF]; cbv
       repeat (rw [Sy.ixv_ H.std]; cbv)
       rw [m2]; cbv; rw [eh]; cbv; rw [m4]; cbv; rw [b1]; cbv; rw [ln]; cbv; rw [b2]; cbv
       repeat (rw [Sy.ixv_ H.std]; cbv)
       rw [et]; cbv; rw [Sy.sto_ H.std]; cbv)
  refine ⟨s0', .lst g', _, _, q0, Int.le_refl _, ap.2, ?_⟩
  have ap := ap.1
  generalize kept ++ [P.lst [.int 0, s0, .lst g']] = kept' at ap ⊢
  rcases o with _ | o <;>
    (cbv at eF; cbv; rw [eF]; cbv
     repeat (rw [Sy.ixv_ H.std]; cbv)
     rw [m2]; cbv; rw [eh]; cbv; rw [m4]; cbv; rw [b1]; cbv; rw [ln]; cbv; rw [b2]; cbv
     repeat (rw [Sy.ixv_ H.std]; cbv)
     rw [ap]; cbv
     repeat (rw [Sy.ixv_ H.std]; cbv)
     rw [et]; cbv; rw [Sy.sto_ H.std]; cbv)
theorem lcf1 (H : HG O G) {m : Int} {g : List P} (lg : LP m (IsI 0 cnt) g) (mb : m ≤ 16777000) (k : Int) (a15 : Option VP) (cs : Cells) : ∃ g', GrpP n' (.lst g') ∧
    Sy.evL O G call lc_law_2 (EA ns style n n' lead gs (some (.ref 4)) (some (.p (.int 1))) (some (.ref 5)) (some (.p (.int limit))) (some (.p (.int k))) (some (.p (.lst g))) a15 none) cs = .ok g' cs := by
  have ei : Sy.evI O G call (.sq (.var 14)) (EA ns style n n' lead gs (some (.ref 4)) (some (.p (.int 1))) (some (.ref 5)) (some (.p (.int limit))) (some (.p (.int k))) (some (.p (.lst g))) a15 none) cs = .ok g cs := rfl
  rw [lc_law_2, Sy.lc_eq H.std ei rfl (by have := lg.1; show _ ≤ 16777216; omega)]
  have key := lcL_gen (f := fun x cs => match asgT (.nm 21) x (wipe (EA ns style n n' lead gs (some (.ref 4)) (some (.p (.int 1))) (some (.ref 5)) (some (.p (.int limit))) (some (.p (.int k))) (some (.p (.lst g))) a15 none) [21]) with
        | some ρ' => (Sy.evTs O G call (.cons (.cmp .lt (.var 21) (.ix (.var 5) (.var 10))) .nil) ρ' cs).bind fun k cs => if k then (Sy.evE O G call (.var 21) ρ' cs).bind fun v cs => (escV cs v).bind fun y cs => .ok (some y) cs else .ok Option.none cs
        | Option.none => .stk) (fun xs c acc => (∃ j : Int, j + xs.length ≤ m ∧ LP j (IsI 0 n') acc) ∧ (∃ j : Int, LP j (IsI 0 cnt) xs) ∧ c = cs) (fun q xs c acc ⟨⟨j, jb, l1⟩, ⟨j', l2⟩, l3⟩ => by
    subst l3
    obtain ⟨i, rfl, i0, i1⟩ := l2.head
    simp only [List.length_cons] at jb
    cases cc : O .ilt i n'
    · refine .inr ⟨_, ?_, ⟨j, by omega, l1⟩, ⟨_, l2.tail⟩, rfl⟩
      cbv; rw [Sy.ixv_ H.std]; cbv; rw [cc]; cbv
    · refine .inl ⟨.int i, _, ?_, ⟨_, by omega, l1.snoc ⟨i, rfl, i0, Sy.ilt_t H.std cc⟩⟩, ⟨_, l2.tail⟩, rfl⟩
      cbv; rw [Sy.ixv_ H.std]; cbv; rw [cc]; cbv) g cs [] ⟨⟨0, by have := lg.1; omega, LP.nil⟩, ⟨m, lg⟩, rfl⟩
  obtain ⟨g', c', e1, ⟨j, jb, l1⟩, _, l3⟩ := key
  subst l3
  exact ⟨g', ⟨g', rfl, j, by simp at jb; omega, l1⟩, e1⟩
theorem inner1 (H : HG O G) (A : Side call c1 h' lv' n' ss' rs' nd') (o : Option P) {k : Int} (f : Cell) {s0 s1 : P} (p0 : SpP lv' n' s1) {g : List P} (gp : GrpP cnt (.lst g)) {kept : List P} {j : Int} (lk : LP j (KeptQ lv n lv' n') kept) (jb : j ≤ 16770000) : ∃ s1' sm kept' j', SpP lv' n' s1' ∧ j' ≤ j + 1 ∧ LP j' (KeptQ lv n lv' n') kept' ∧
    Sy.evSs O G call 0 (bodyOf lp_law_4) (EA ns style n n' lead gs (some (.ref 4)) (some (.p (.int 1))) (some (.ref 5)) (some (.p (.int limit))) (some (.p (.int k))) (some (.p (.lst g))) (o.map .p) none) [f, .lst [rowsP h ss rs, rowsP h' ss' rs'], .lst [c0, c1], .lst [partP h ss rs nd, partP h' ss' rs' nd'], .lst [s0, s1], .lst kept] =
      .nx (EA ns style n n' lead gs (some (.ref 4)) (some (.p (.int 1))) (some (.ref 5)) (some (.p (.int limit))) (some (.p (.int k))) (some (.p (.lst g))) (some (.p sm)) none) [f, .lst [rowsP h ss rs, rowsP h' ss' rs'], .lst [c0, c1], .lst [partP h ss rs nd, partP h' ss' rs' nd'], .lst [s0, s1'], .lst kept'] := by
  obtain ⟨_, eg, m, mb, lg⟩ := gp
  cases eg
  obtain ⟨g', gp', eF⟩ := lcf1 H (call := call) (ns := ns) (style := style) (lead := lead) (gs := gs) (limit := limit) (n := n) (n' := n') lg mb k (o.map .p) [f, .lst [rowsP h ss rs, rowsP h' ss' rs'], .lst [c0, c1], .lst [partP h ss rs nd, partP h' ss' rs' nd'], .lst [s0, s1], .lst kept]
  have eh := A.hold s1 g' (O .imod (O .iadd k 1) 2) p0 gp'
  obtain ⟨s1', q0, et⟩ := A.tick s1 g' p0 gp'
  have m2 : O .modB 2 = true := Sy.mod_ok H.std (by decide)
  have m4 : O .modB 4 = true := Sy.mod_ok H.std (by decide)
  have ln := (Sy.lp_len H.std lk).1
  have ap := Sy.lp_app H.std lk (by omega) (v := .lst [.int 1, s1, .lst g']) ⟨1, s1, g', rfl, .inr ⟨rfl, p0, gp'⟩⟩
  cases b1 : O .ieq (O .imod k 4) 2
  case false =>
    refine ⟨s1', .lst g', kept, j, q0, by omega, lk, ?_⟩
    rcases o with _ | o <;>
      (cbv at eF; cbv; rw [eF]; cbv
       repeat (rw [Sy.ixv_ H.std]; cbv)
       rw [m2]; cbv; rw [eh]; cbv; rw [m4]; cbv; rw [b1]; cbv
       repeat (rw [Sy.ixv_ H.std]; cbv)
       rw [et]; cbv; rw [Sy.sto_ H.std]; cbv)
  cases b2 : O .ilt j 16
  case false =>
    refine ⟨s1', .lst g', kept, j, q0, by omega, lk, ?_⟩
    rcases o with _ | o <;>
      (cbv at eF; cbv; rw [eF]; cbv
       repeat (rw [Sy.ixv_ H.std]; cbv)
       rw [m2]; cbv; rw [eh]; cbv; rw [m4]; cbv; rw [b1]; cbv; rw [ln]; cbv; rw [b2]; cbv
       repeat (rw [Sy.ixv_ H.std]; cbv)
       rw [et]; cbv; rw [Sy.sto_ H.std]; cbv)
  refine ⟨s1', .lst g', _, _, q0, Int.le_refl _, ap.2, ?_⟩
  have ap := ap.1
  generalize kept ++ [P.lst [.int 1, s1, .lst g']] = kept' at ap ⊢
  rcases o with _ | o <;>
    (cbv at eF; cbv; rw [eF]; cbv
     repeat (rw [Sy.ixv_ H.std]; cbv)
     rw [m2]; cbv; rw [eh]; cbv; rw [m4]; cbv; rw [b1]; cbv; rw [ln]; cbv; rw [b2]; cbv
     repeat (rw [Sy.ixv_ H.std]; cbv)
     rw [ap]; cbv
     repeat (rw [Sy.ixv_ H.std]; cbv)
     rw [et]; cbv; rw [Sy.sto_ H.std]; cbv)
end
end K29
set_option maxRecDepth 100000
set_option maxHeartbeats 4000000
namespace K29
open Ev
section
variable {O : Ops} {G : Glob} {call : Nat → List Arg → CR} {ns : List Int} {style lead limit cnt : Int} {c0 c1 : P} {gs : List P} {h lv n h' lv' n' : Int} {ss rs nd ss' rs' nd' : List P}
abbrev CC (f : Cell) (h : Int) (ss rs nd : List P) (h' : Int) (ss' rs' nd' : List P) (c0 c1 s0 s1 : P) (kept : List P) : Cells := [f, .lst [rowsP h ss rs, rowsP h' ss' rs'], .lst [c0, c1], .lst [partP h ss rs nd, partP h' ss' rs' nd'], .lst [s0, s1], .lst kept]
theorem in4 (H : HG O G) (A : Side call c0 h lv n ss rs nd) (B : Side call c1 h' lv' n' ss' rs' nd') (o : Option P) {k : Int} (f : Cell) {s0 s1 : P} (p0 : SpP lv n s0) (p1 : SpP lv' n' s1) {g : List P} (gp : GrpP cnt (.lst g)) {kept : List P} {j : Int} (lk : LP j (KeptQ lv n lv' n') kept) (jb : j ≤ 16760000) : ∃ s0' s1' sm kept' j', SpP lv n s0' ∧ SpP lv' n' s1' ∧ j' ≤ j + 2 ∧ LP j' (KeptQ lv n lv' n') kept' ∧
    Sy.evS O G call 0 lp_law_4 (EA ns style n n' lead gs (some (.ref 4)) (some (.p (.int 1))) (some (.ref 5)) (some (.p (.int limit))) (some (.p (.int k))) (some (.p (.lst g))) (o.map .p) none) (CC f h ss rs nd h' ss' rs' nd' c0 c1 s0 s1 kept) =
      .nx (EA ns style n n' lead gs (some (.ref 4)) (some (.p (.int 1))) (some (.ref 5)) (some (.p (.int limit))) (some (.p (.int k))) (some (.p (.lst g))) (some (.p sm)) none) (CC f h ss rs nd h' ss' rs' nd' c0 c1 s0' s1' kept') := by
  obtain ⟨s0', sm, kept1, j1, q0, b1, lk1, e0⟩ := inner0 H A o (k := k) f p0 (s1 := s1) gp lk (by omega) (ns := ns) (style := style) (lead := lead) (gs := gs) (limit := limit) (n' := n') (c1 := c1) (h' := h') (ss' := ss') (rs' := rs') (nd' := nd')
  obtain ⟨s1', sm', kept2, j2, q1, b2, lk2, e1⟩ := inner1 H B (some sm) (k := k) f p1 (s0 := s0') gp lk1 (by omega) (ns := ns) (style := style) (lead := lead) (gs := gs) (limit := limit) (n := n) (c0 := c0) (h := h) (ss := ss) (rs := rs) (nd := nd)
  refine ⟨s0', s1', sm', kept2, j2, q0, q1, by omega, lk2, ?_⟩
  have ei : Sy.evI O G call (.r1 (.int 2)) (EA ns style n n' lead gs (some (.ref 4)) (some (.p (.int 1))) (some (.ref 5)) (some (.p (.int limit))) (some (.p (.int k))) (some (.p (.lst g))) (o.map .p) none) (CC f h ss rs nd h' ss' rs' nd' c0 c1 s0 s1 kept) = .ok [.int 0, .int 1] (CC f h ss rs nd h' ss' rs' nd' c0 c1 s0 s1 kept) := rfl
  show Sy.evS O G call 0 (.fr (.nm 10) (.r1 (.int 2)) (bodyOf lp_law_4)) _ _ = _
  rw [Sy.for_eq2 (Sy.box_ H.std) ei rfl]
  refine forL_pair (ρ1 := EA ns style n n' lead gs (some (.ref 4)) (some (.p (.int 0))) (some (.ref 5)) (some (.p (.int limit))) (some (.p (.int k))) (some (.p (.lst g))) (some (.p sm)) none) (c1 := CC f h ss rs nd h' ss' rs' nd' c0 c1 s0' s1 kept1) ?_ rfl rfl ?_ rfl rfl
  · exact e0
  · exact e1
theorem SpP.root {lv n : Int} {s : P} (p : SpP lv n s) (b : 2 ≤ lv) : ∃ (a0 a1 : Int) (dt cs ps : List P), s = spotP (.int a0 :: .int a1 :: dt) cs ps := by
  obtain ⟨ds, cs, ps, rfl, st⟩ := p
  obtain ⟨_, _, dt, rfl, ⟨a0, rfl, _, _⟩, ⟨a1, rfl, _, _⟩⟩ := LP.two st.ds (by omega)
  exact ⟨a0, a1, dt, cs, ps, rfl⟩
/-- the group of a round, or the end -/
theorem in0 (H : HG O G) (la : LateOk call) (lb : 2 ≤ lv) (lb' : 2 ≤ lv') (b : 1 ≤ n ∧ n ≤ 16) (b' : 1 ≤ n' ∧ n' ≤ 16) (l0 : 0 ≤ lead) (l1 : lead < n) (o : Option (P × P)) {k : Int} (k0 : 0 ≤ k) (x y z : Int) (p1' p2' p3' : Cell) {s0 s1 : P} (p0 : SpP lv n s0) (p1 : SpP lv' n' s1) (kept : Cell) {gm : Int} (lg : LP gm (GrpP (mx2 n n')) gs) :
    (∃ g x' y' z', GrpP (mx2 n n') (.lst g) ∧ Sy.evS O G call 0 (nthS (bodyOf lp_law_5) 0) (EA ns style n n' lead gs (some (.ref 4)) (some (.p (.int 1))) (some (.ref 5)) (some (.p (.int limit))) (some (.p (.int k))) (o.map fun t => .p t.1) (o.map fun t => .p t.2) none) [fd x y z, p1', p2', p3', .lst [s0, s1], kept] =
      .nx (EA ns style n n' lead gs (some (.ref 4)) (some (.p (.int 1))) (some (.ref 5)) (some (.p (.int limit))) (some (.p (.int k))) (some (.p (.lst g))) (o.map fun t => .p t.2) none) [fd x' y' z', p1', p2', p3', .lst [s0, s1], kept]) ∨
    Sy.evS O G call 0 (nthS (bodyOf lp_law_5) 0) (EA ns style n n' lead gs (some (.ref 4)) (some (.p (.int 1))) (some (.ref 5)) (some (.p (.int limit))) (some (.p (.int k))) (o.map fun t => .p t.1) (o.map fun t => .p t.2) none) [fd x y z, p1', p2', p3', .lst [s0, s1], kept] =
      .bk (EA ns style n n' lead gs (some (.ref 4)) (some (.p (.int 1))) (some (.ref 5)) (some (.p (.int limit))) (some (.p (.int k))) (o.map fun t => .p t.1) (o.map fun t => .p t.2) none) [fd x y z, p1', p2', p3', .lst [s0, s1], kept] := by
  have ln := (Sy.lp_len H.std lg).1
  have mb := mx2_b b b'
  have mx : O .bil .max (.lst [.int n, .int n']) = some (.int (mx2 n n')) := Sy.max_two H.std n n'
  obtain ⟨gr, x1, y1, z1, gp, e⟩ := la (mx2 n n') style lead x y z mb.1 mb.2.1 l0 (by omega)
  cases c : O .ilt k gm
  · obtain ⟨a0, a1, dt, cs, ps, rfl⟩ := p0.root lb
    obtain ⟨b0, b1, dt', cs', ps', rfl⟩ := p1.root lb'
    cases d : O .ieq a1 1
    · refine .inl ⟨gr, x1, y1, z1, gp, ?_⟩
      generalize mx2 n n' = mm at mx e
      cbv; rw [ln]; cbv; rw [c]; cbv; rw [d]; cbv; rw [mx]; cbv; rw [e]; cbv
    · cases d2 : O .ieq b1 1
      · refine .inl ⟨gr, x1, y1, z1, gp, ?_⟩
        generalize mx2 n n' = mm at mx e
        cbv; rw [ln]; cbv; rw [c]; cbv; rw [d]; cbv; rw [d2]; cbv; rw [mx]; cbv; rw [e]; cbv
      · exact .inr (by cbv; rw [ln]; cbv; rw [c]; cbv; rw [d]; cbv; rw [d2]; cbv)
  · obtain ⟨_, ⟨g, rfl, gq⟩, e, _⟩ := Sy.lp_ix H.std lg k0 (Sy.ilt_t H.std c)
    exact .inl ⟨g, x, y, z, ⟨g, rfl, gq⟩, by cbv; rw [ln]; cbv; rw [c]; cbv; rw [e]; cbv⟩
theorem st15 (H : HG O G) (A : Side call c0 h lv n ss rs nd) (B : Side call c1 h' lv' n' ss' rs' nd') (la : LateOk call) (l0 : 0 ≤ lead) (l1 : lead < n) {gm : Int} (lg : LP gm (GrpP (mx2 n n')) gs) (m0 : 1 ≤ limit) (m1 : limit ≤ 2000)
    (x y z : Int) {s0 s1 : P} (p0 : SpP lv n s0) (p1 : SpP lv' n' s1) : ∃ (k : P) (o : Option (P × P)) (x' y' z' : Int) (s0' s1' : P) (kept : List P) (j : Int), SpP lv n s0' ∧ SpP lv' n' s1' ∧ LP j (KeptQ lv n lv' n') kept ∧
      Sy.evS O G call 0 (nthS b_law 15) (EA ns style n n' lead gs (some (.ref 4)) (some (.p (.int 1))) (some (.ref 5)) (some (.p (.int limit))) none none none none) (CC (fd x y z) h ss rs nd h' ss' rs' nd' c0 c1 s0 s1 []) =
        .nx (EA ns style n n' lead gs (some (.ref 4)) (some (.p (.int 1))) (some (.ref 5)) (some (.p (.int limit))) (some (.p k)) (o.map fun t => .p t.1) (o.map fun t => .p t.2) none) (CC (fd x' y' z') h ss rs nd h' ss' rs' nd' c0 c1 s0' s1' kept) := by
  have ei : Sy.evI O G call (.r1 (.var 12)) (EA ns style n n' lead gs (some (.ref 4)) (some (.p (.int 1))) (some (.ref 5)) (some (.p (.int limit))) none none none none) (CC (fd x y z) h ss rs nd h' ss' rs' nd' c0 c1 s0 s1 []) = .ok (rngV 0 limit.toNat) (CC (fd x y z) h ss rs nd h' ss' rs' nd' c0 c1 s0 s1 []) := Sy.evI_r1 (by cbv) (by omega) (by omega)
  show ∃ (k : P) (o : Option (P × P)) (x' y' z' : Int) (s0' s1' : P) (kept : List P) (j : Int), SpP lv n s0' ∧ SpP lv' n' s1' ∧ LP j (KeptQ lv n lv' n') kept ∧
      Sy.evS O G call 0 (.fr (.nm 13) (.r1 (.var 12)) (bodyOf lp_law_5)) _ _ = _
  rw [Sy.for_eq2 (Sy.box_ H.std) ei rfl]
  have lp := rngV_lp (n := limit) (by omega)
  refine forL_gen (Q := fun r => ∃ (k : P) (o : Option (P × P)) (x' y' z' : Int) (s0' s1' : P) (kept : List P) (j : Int), SpP lv n s0' ∧ SpP lv' n' s1' ∧ LP j (KeptQ lv n lv' n') kept ∧
      r = .nx (EA ns style n n' lead gs (some (.ref 4)) (some (.p (.int 1))) (some (.ref 5)) (some (.p (.int limit))) (some (.p k)) (o.map fun t => .p t.1) (o.map fun t => .p t.2) none) (CC (fd x' y' z') h ss rs nd h' ss' rs' nd' c0 c1 s0' s1' kept))
    (fun xs ρ cs => ∃ (t j : Int) (ok : Option P) (o : Option (P × P)) (x y z : Int) (s0 s1 : P) (kept : List P), LP t (IsI 0 limit) xs ∧ (ok = none → t = limit) ∧ j + 2 * t ≤ 4000 ∧ SpP lv n s0 ∧ SpP lv' n' s1 ∧ LP j (KeptQ lv n lv' n') kept ∧
      ρ = EA ns style n n' lead gs (some (.ref 4)) (some (.p (.int 1))) (some (.ref 5)) (some (.p (.int limit))) (ok.map .p) (o.map fun t => .p t.1) (o.map fun t => .p t.2) none ∧ cs = CC (fd x y z) h ss rs nd h' ss' rs' nd' c0 c1 s0 s1 kept) ?_ ?_ _ _ _ ?_
  · rintro q xs ρ cs ⟨t, j, ok, o, x, y, z, s0, s1, kept, lx, ht, hj, p0, p1, lk, rfl, rfl⟩
    obtain ⟨k, rfl, k0, k1⟩ := lx.head
    have t0 : 1 ≤ t := by have := lx.1; simp at this; omega
    have hρ : asgT (.nm 13) (.int k) (EA ns style n n' lead gs (some (.ref 4)) (some (.p (.int 1))) (some (.ref 5)) (some (.p (.int limit))) (ok.map .p) (o.map fun t => .p t.1) (o.map fun t => .p t.2) none) =
        some (EA ns style n n' lead gs (some (.ref 4)) (some (.p (.int 1))) (some (.ref 5)) (some (.p (.int limit))) (some (.p (.int k))) (o.map fun t => .p t.1) (o.map fun t => .p t.2) none) := rfl
    rcases in0 H la A.lb.1 B.lb.1 A.nb B.nb l0 l1 o k0 x y z (.lst [rowsP h ss rs, rowsP h' ss' rs']) (.lst [c0, c1]) (.lst [partP h ss rs nd, partP h' ss' rs' nd']) p0 p1 (.lst kept) lg (ns := ns) (style := style) (limit := limit) with ⟨g, x', y', z', gp, e0⟩ | e0
    · obtain ⟨s0', s1', sm, kept', j', q0, q1, hj', lk', e4⟩ := in4 H A B (o.map fun t => t.2) (k := k) (fd x' y' z') p0 p1 gp lk (by omega) (ns := ns) (style := style) (lead := lead) (gs := gs) (limit := limit)
      refine .inl ⟨EA ns style n n' lead gs (some (.ref 4)) (some (.p (.int 1))) (some (.ref 5)) (some (.p (.int limit))) (some (.p (.int k))) (some (.p (.lst g))) (some (.p sm)) none, CC (fd x' y' z') h ss rs nd h' ss' rs' nd' c0 c1 s0' s1' kept', .inl ?_, t - 1, j', some (.int k), some (.lst g, sm), x', y', z', s0', s1', kept', lx.tail, (fun z => by cases z), by omega, q0, q1, lk', rfl, rfl⟩
      show (match asgT (.nm 13) (.int k) _ with | some ρ' => Sy.evSs O G call 0 (bodyOf lp_law_5) ρ' _ | none => .stk) = _
      rw [hρ]
      rcases o with _ | ⟨_, _⟩ <;> exact (step e0).trans (step e4)
    · refine .inr (.inl ⟨EA ns style n n' lead gs (some (.ref 4)) (some (.p (.int 1))) (some (.ref 5)) (some (.p (.int limit))) (some (.p (.int k))) (o.map fun t => .p t.1) (o.map fun t => .p t.2) none, CC (fd x y z) h ss rs nd h' ss' rs' nd' c0 c1 s0 s1 kept, ?_, .int k, o, x, y, z, s0, s1, kept, j, p0, p1, lk, rfl⟩)
      show (match asgT (.nm 13) (.int k) _ with | some ρ' => Sy.evSs O G call 0 (bodyOf lp_law_5) ρ' _ | none => .stk) = _
      rw [hρ]
      exact stepb e0
  · rintro ρ cs ⟨t, j, ok, o, x, y, z, s0, s1, kept, lx, ht, hj, p0, p1, lk, rfl, rfl⟩
    have t0 : t = 0 := by have := lx.1; simp at this; omega
    rcases ok with _ | k
    · have := ht rfl; omega
    · exact ⟨k, o, x, y, z, s0, s1, kept, j, p0, p1, lk, rfl⟩
  · exact ⟨limit, 0, none, none, x, y, z, s0, s1, [], lp, fun _ => rfl, by omega, p0, p1, LP.nil, rfl, rfl⟩
end
end K29
set_option maxRecDepth 100000
set_option maxHeartbeats 4000000
namespace K29
open Ev
section
variable {O : Ops} {G : Glob} {call : Nat → List Arg → CR} {ns : List Int} {style lead limit cnt : Int} {c0 c1 : P} {gs : List P} {h lv n h' lv' n' : Int} {ss rs nd ss' rs' nd' : List P}
theorem lcg0 (H : HG O G) (b : 1 ≤ n ∧ n ≤ 16) (k : P) (a14 a15 : Option P) (cs : Cells) :
    Sy.evL O G call lc_law_1 (EA ns style n n' lead gs (some (.ref 4)) (some (.p (.int 0))) (some (.ref 5)) (some (.p (.int limit))) (some (.p k)) (a14.map .p) (a15.map .p) none) cs = .ok (rngV 0 n.toNat) cs := by
  have ei : Sy.evI O G call (.r1 (.ix (.var 5) (.var 10))) (EA ns style n n' lead gs (some (.ref 4)) (some (.p (.int 0))) (some (.ref 5)) (some (.p (.int limit))) (some (.p k)) (a14.map .p) (a15.map .p) none) cs = .ok (rngV 0 n.toNat) cs := Sy.evI_r1 (by cbv; rw [Sy.ixv_ H.std]; cbv) (by omega) (by omega)
  rw [lc_law_1, Sy.lc_eq H.std ei rfl (by rw [rngV_len]; show _ ≤ 16777216; omega)]
  rw [lcL_all (g := id) (rngV 0 n.toNat) cs [] fun x m => by
    obtain ⟨i, rfl, _, _⟩ := rngV_mem _ _ x m
    rcases a14 with _ | _ <;> rcases a15 with _ | _ <;> rfl]
  rw [List.map_id]
  rfl
theorem lcg1 (H : HG O G) (b : 1 ≤ n' ∧ n' ≤ 16) (k : P) (a14 a15 : Option P) (cs : Cells) :
    Sy.evL O G call lc_law_1 (EA ns style n n' lead gs (some (.ref 4)) (some (.p (.int 1))) (some (.ref 5)) (some (.p (.int limit))) (some (.p k)) (a14.map .p) (a15.map .p) none) cs = .ok (rngV 0 n'.toNat) cs := by
  have ei : Sy.evI O G call (.r1 (.ix (.var 5) (.var 10))) (EA ns style n n' lead gs (some (.ref 4)) (some (.p (.int 1))) (some (.ref 5)) (some (.p (.int limit))) (some (.p k)) (a14.map .p) (a15.map .p) none) cs = .ok (rngV 0 n'.toNat) cs := Sy.evI_r1 (by cbv; rw [Sy.ixv_ H.std]; cbv) (by omega) (by omega)
  rw [lc_law_1, Sy.lc_eq H.std ei rfl (by rw [rngV_len]; show _ ≤ 16777216; omega)]
  rw [lcL_all (g := id) (rngV 0 n'.toNat) cs [] fun x m => by
    obtain ⟨i, rfl, _, _⟩ := rngV_mem _ _ x m
    rcases a14 with _ | _ <;> rcases a15 with _ | _ <;> rfl]
  rw [List.map_id]
  rfl
theorem grp3 {n lead : Int} (b : 1 ≤ n ∧ n ≤ 16) (l0 : 0 ≤ lead) (l1 : lead < n) : GrpP n (.lst (rngV 0 n.toNat)) ∧ GrpP n (.lst [.int lead]) ∧ GrpP n (.lst []) :=
  ⟨⟨_, rfl, n, by omega, rngV_lp (by omega)⟩, ⟨_, rfl, 1, by omega, rfl, fun x m => by
    rw [List.mem_singleton] at m
    exact ⟨lead, m, l0, l1⟩⟩, ⟨_, rfl, 0, by omega, LP.nil⟩⟩
theorem in16a (H : HG O G) (A : Side call c0 h lv n ss rs nd) (l0 : 0 ≤ lead) (l1 : lead < n) (k : P) (a14 a15 : Option P) (f kept : Cell) {s0 s1 : P} (p0 : SpP lv n s0) :
    Sy.evS O G call 0 lp_law_2 (EA ns style n n' lead gs (some (.ref 4)) (some (.p (.int 0))) (some (.ref 5)) (some (.p (.int limit))) (some (.p k)) (a14.map .p) (a15.map .p) none) [f, .lst [rowsP h ss rs, rowsP h' ss' rs'], .lst [c0, c1], .lst [partP h ss rs nd, partP h' ss' rs' nd'], .lst [s0, s1], kept] =
      .nx (EA ns style n n' lead gs (some (.ref 4)) (some (.p (.int 0))) (some (.ref 5)) (some (.p (.int limit))) (some (.p k)) (some (.p (.lst []))) (a15.map .p) none) [f, .lst [rowsP h ss rs, rowsP h' ss' rs'], .lst [c0, c1], .lst [partP h ss rs nd, partP h' ss' rs' nd'], .lst [s0, s1], kept] := by
  have eF := lcg0 H (call := call) (ns := ns) (style := style) (lead := lead) (gs := gs) (limit := limit) (n := n) (n' := n') A.nb k a14 a15 [f, .lst [rowsP h ss rs, rowsP h' ss' rs'], .lst [c0, c1], .lst [partP h ss rs nd, partP h' ss' rs' nd'], .lst [s0, s1], kept]
  obtain ⟨g1, g2, g3⟩ := grp3 A.nb l0 l1
  have e1 := A.hold s0 _ 0 p0 g1
  have e2 := A.hold s0 _ 0 p0 g2
  have e3 := A.hold s0 _ 0 p0 g3
  generalize rngV 0 n.toNat = rg at eF e1
  rcases a14 with _ | a14 <;> rcases a15 with _ | a15 <;>
    (cbv at eF; cbv; rw [Sy.box_ H.std]; cbv; rw [eF]; cbv
     repeat (rw [Sy.ixv_ H.std]; cbv)
     rw [e1]; cbv
     repeat (rw [Sy.ixv_ H.std]; cbv)
     rw [e2]; cbv
     repeat (rw [Sy.ixv_ H.std]; cbv)
     rw [e3]; cbv)
theorem in16b (H : HG O G) (A : Side call c1 h' lv' n' ss' rs' nd') (l0 : 0 ≤ lead) (l1 : lead < n') (k : P) (a14 a15 : Option P) (f kept : Cell) {s0 s1 : P} (p0 : SpP lv' n' s1) :
    Sy.evS O G call 0 lp_law_2 (EA ns style n n' lead gs (some (.ref 4)) (some (.p (.int 1))) (some (.ref 5)) (some (.p (.int limit))) (some (.p k)) (a14.map .p) (a15.map .p) none) [f, .lst [rowsP h ss rs, rowsP h' ss' rs'], .lst [c0, c1], .lst [partP h ss rs nd, partP h' ss' rs' nd'], .lst [s0, s1], kept] =
      .nx (EA ns style n n' lead gs (some (.ref 4)) (some (.p (.int 1))) (some (.ref 5)) (some (.p (.int limit))) (some (.p k)) (some (.p (.lst []))) (a15.map .p) none) [f, .lst [rowsP h ss rs, rowsP h' ss' rs'], .lst [c0, c1], .lst [partP h ss rs nd, partP h' ss' rs' nd'], .lst [s0, s1], kept] := by
  have eF := lcg1 H (call := call) (ns := ns) (style := style) (lead := lead) (gs := gs) (limit := limit) (n := n) (n' := n') A.nb k a14 a15 [f, .lst [rowsP h ss rs, rowsP h' ss' rs'], .lst [c0, c1], .lst [partP h ss rs nd, partP h' ss' rs' nd'], .lst [s0, s1], kept]
  obtain ⟨g1, g2, g3⟩ := grp3 A.nb l0 l1
  have e1 := A.hold s1 _ 1 p0 g1
  have e2 := A.hold s1 _ 1 p0 g2
  have e3 := A.hold s1 _ 1 p0 g3
  generalize rngV 0 n'.toNat = rg at eF e1
  rcases a14 with _ | a14 <;> rcases a15 with _ | a15 <;>
    (cbv at eF; cbv; rw [Sy.box_ H.std]; cbv; rw [eF]; cbv
     repeat (rw [Sy.ixv_ H.std]; cbv)
     rw [e1]; cbv
     repeat (rw [Sy.ixv_ H.std]; cbv)
     rw [e2]; cbv
     repeat (rw [Sy.ixv_ H.std]; cbv)
     rw [e3]; cbv)
theorem st16 (H : HG O G) (A : Side call c0 h lv n ss rs nd) (B : Side call c1 h' lv' n' ss' rs' nd') (l0 : 0 ≤ lead) (l1 : lead < n) (l2 : lead < n') (k : P) (a14 a15 : Option P) (f : Cell) {kept : List P} {s0 s1 : P} (p0 : SpP lv n s0) (p1 : SpP lv' n' s1) :
    Sy.evS O G call 0 (nthS b_law 16) (EA ns style n n' lead gs (some (.ref 4)) (some (.p (.int 1))) (some (.ref 5)) (some (.p (.int limit))) (some (.p k)) (a14.map .p) (a15.map .p) none) (CC f h ss rs nd h' ss' rs' nd' c0 c1 s0 s1 kept) =
      .nx (EA ns style n n' lead gs (some (.ref 4)) (some (.p (.int 1))) (some (.ref 5)) (some (.p (.int limit))) (some (.p k)) (some (.p (.lst []))) (a15.map .p) none) (CC f h ss rs nd h' ss' rs' nd' c0 c1 s0 s1 kept) := by
  have e0 := in16a H A l0 l1 k a14 a15 f (.lst kept) p0 (s1 := s1) (ns := ns) (style := style) (lead := lead) (gs := gs) (limit := limit) (n' := n') (c1 := c1) (h' := h') (ss' := ss') (rs' := rs') (nd' := nd')
  have e1 := in16b H B l0 l2 k (some (.lst [])) a15 f (.lst kept) p1 (s0 := s0) (ns := ns) (style := style) (lead := lead) (gs := gs) (limit := limit) (n := n) (c0 := c0) (h := h) (ss := ss) (rs := rs) (nd := nd)
  have ei : Sy.evI O G call (.r1 (.int 2)) (EA ns style n n' lead gs (some (.ref 4)) (some (.p (.int 1))) (some (.ref 5)) (some (.p (.int limit))) (some (.p k)) (a14.map .p) (a15.map .p) none) (CC f h ss rs nd h' ss' rs' nd' c0 c1 s0 s1 kept) = .ok [.int 0, .int 1] (CC f h ss rs nd h' ss' rs' nd' c0 c1 s0 s1 kept) := rfl
  show Sy.evS O G call 0 (.fr (.nm 10) (.r1 (.int 2)) (bodyOf lp_law_3)) _ _ = _
  rw [Sy.for_eq2 (Sy.box_ H.std) ei rfl]
  refine forL_pair (ρ1 := EA ns style n n' lead gs (some (.ref 4)) (some (.p (.int 0))) (some (.ref 5)) (some (.p (.int limit))) (some (.p k)) (some (.p (.lst []))) (a15.map .p) none) (c1 := CC f h ss rs nd h' ss' rs' nd' c0 c1 s0 s1 kept) ?_ ?_ rfl ?_ ?_ rfl
  · exact step e0
  · rcases a15 with _ | _ <;> rfl
  · exact step e1
  · rcases a15 with _ | _ <;> rfl
theorem in17 (H : HG O G) (A : Side call c0 h lv n ss rs nd) (B : Side call c1 h' lv' n' ss' rs' nd') (k a14 : P) (a15 : Option P) (f k5 : Cell) {s0 s1 x : P} (q : KeptQ lv n lv' n' x) :
    Sy.evSs O G call 0 (bodyOf lp_law_1) (EA ns style n n' lead gs (some (.ref 4)) (some (.p (.int 1))) (some (.ref 5)) (some (.p (.int limit))) (some (.p k)) (some (.p a14)) (a15.map .p) (some (.p x))) [f, .lst [rowsP h ss rs, rowsP h' ss' rs'], .lst [c0, c1], .lst [partP h ss rs nd, partP h' ss' rs' nd'], .lst [s0, s1], k5] =
      .nx (EA ns style n n' lead gs (some (.ref 4)) (some (.p (.int 1))) (some (.ref 5)) (some (.p (.int limit))) (some (.p k)) (some (.p a14)) (a15.map .p) (some (.p x))) [f, .lst [rowsP h ss rs, rowsP h' ss' rs'], .lst [c0, c1], .lst [partP h ss rs nd, partP h' ss' rs' nd'], .lst [s0, s1], k5] := by
  have d2 : O .divB 2 = true := Sy.div_ok H.std (by decide) (by decide)
  obtain ⟨i, s, g, rfl, ⟨rfl, p0, gp⟩ | ⟨rfl, p0, gp⟩⟩ := q
  · have e1 := A.hold s g (O .idiv style 2) p0 gp
    rcases a15 with _ | a15 <;>
      (cbv
       repeat (rw [Sy.ixv_ H.std]; cbv)
       rw [d2]; cbv; rw [e1]; cbv)
  · have e1 := B.hold s g (O .idiv style 2) p0 gp
    rcases a15 with _ | a15 <;>
      (cbv
       repeat (rw [Sy.ixv_ H.std]; cbv)
       rw [d2]; cbv; rw [e1]; cbv)
theorem st17 (H : HG O G) (A : Side call c0 h lv n ss rs nd) (B : Side call c1 h' lv' n' ss' rs' nd') (k a14 : P) (a15 : Option P) (f : Cell) {kept : List P} {j : Int} (lk : LP j (KeptQ lv n lv' n') kept) {s0 s1 : P} : ∃ o : Option P,
    Sy.evS O G call 0 (nthS b_law 17) (EA ns style n n' lead gs (some (.ref 4)) (some (.p (.int 1))) (some (.ref 5)) (some (.p (.int limit))) (some (.p k)) (some (.p a14)) (a15.map .p) none) (CC f h ss rs nd h' ss' rs' nd' c0 c1 s0 s1 kept) =
      .nx (EA ns style n n' lead gs (some (.ref 4)) (some (.p (.int 1))) (some (.ref 5)) (some (.p (.int limit))) (some (.p k)) (some (.p a14)) (a15.map .p) (o.map .p)) (CC f h ss rs nd h' ss' rs' nd' c0 c1 s0 s1 kept) := by
  have lr := Sy.rev_lp H.std lk
  have ei : Sy.evI O G call (.sq (.rev (.var 11))) (EA ns style n n' lead gs (some (.ref 4)) (some (.p (.int 1))) (some (.ref 5)) (some (.p (.int limit))) (some (.p k)) (some (.p a14)) (a15.map .p) none) (CC f h ss rs nd h' ss' rs' nd' c0 c1 s0 s1 kept) = .ok (O .revw kept) (CC f h ss rs nd h' ss' rs' nd' c0 c1 s0 s1 kept) := rfl
  generalize O .revw kept = kr at lr ei
  show ∃ o : Option P, Sy.evS O G call 0 (.fr (.nm 16) (.sq (.rev (.var 11))) (bodyOf lp_law_1)) _ _ = _
  rw [Sy.for_eq2 (Sy.box_ H.std) ei rfl]
  refine forL_gen (Q := fun r => ∃ o : Option P, r = .nx (EA ns style n n' lead gs (some (.ref 4)) (some (.p (.int 1))) (some (.ref 5)) (some (.p (.int limit))) (some (.p k)) (some (.p a14)) (a15.map .p) (o.map .p)) (CC f h ss rs nd h' ss' rs' nd' c0 c1 s0 s1 kept))
    (fun xs ρ cs => (∃ t : Int, LP t (KeptQ lv n lv' n') xs) ∧ ∃ o : Option P, ρ = EA ns style n n' lead gs (some (.ref 4)) (some (.p (.int 1))) (some (.ref 5)) (some (.p (.int limit))) (some (.p k)) (some (.p a14)) (a15.map .p) (o.map .p) ∧ cs = CC f h ss rs nd h' ss' rs' nd' c0 c1 s0 s1 kept) ?_ ?_ _ _ _ ?_
  · rintro q xs ρ cs ⟨⟨t, lx⟩, o, rfl, rfl⟩
    have e := in17 H A B k a14 a15 f (.lst kept) lx.head (s0 := s0) (s1 := s1) (ns := ns) (style := style) (lead := lead) (gs := gs) (limit := limit)
    refine .inl ⟨EA ns style n n' lead gs (some (.ref 4)) (some (.p (.int 1))) (some (.ref 5)) (some (.p (.int limit))) (some (.p k)) (some (.p a14)) (a15.map .p) (some (.p q)), CC f h ss rs nd h' ss' rs' nd' c0 c1 s0 s1 kept, .inl ?_, ⟨_, lx.tail⟩, some q, ?_, rfl⟩
    · have hρ : asgT (.nm 16) q (EA ns style n n' lead gs (some (.ref 4)) (some (.p (.int 1))) (some (.ref 5)) (some (.p (.int limit))) (some (.p k)) (some (.p a14)) (a15.map .p) (o.map .p)) =
          some (EA ns style n n' lead gs (some (.ref 4)) (some (.p (.int 1))) (some (.ref 5)) (some (.p (.int limit))) (some (.p k)) (some (.p a14)) (a15.map .p) (some (.p q))) := rfl
      show (match asgT (.nm 16) q _ with | some ρ' => Sy.evSs O G call 0 (bodyOf lp_law_1) ρ' _ | none => .stk) = _
      rw [hρ]
      exact e
    · rcases a15 with _ | _ <;> rfl
  · rintro ρ cs ⟨⟨t, lx⟩, o, rfl, rfl⟩
    exact ⟨o, rfl⟩
  · exact ⟨⟨j, lr⟩, none, rfl, rfl⟩
theorem st18 (H : HG O G) (A : Side call c0 h lv n ss rs nd) (B : Side call c1 h' lv' n' ss' rs' nd') (k a14 : P) (a15 o : Option P) (f k5 : Cell) {s0 s1 : P} :
    Sy.evSs O G call 0 (.cons (nthS b_law 18) .nil) (EA ns style n n' lead gs (some (.ref 4)) (some (.p (.int 1))) (some (.ref 5)) (some (.p (.int limit))) (some (.p k)) (some (.p a14)) (a15.map .p) (o.map .p)) [f, .lst [rowsP h ss rs, rowsP h' ss' rs'], .lst [c0, c1], .lst [partP h ss rs nd, partP h' ss' rs' nd'], .lst [s0, s1], k5] =
      .rt (.bool true) false [f, .lst [rowsP h ss rs, rowsP h' ss' rs'], .lst [c0, c1], .lst [partP h ss rs nd, partP h' ss' rs' nd'], .lst [s0, s1], k5] := by
  have e0 := A.stay
  have e1 := B.stay
  rcases a15 with _ | _ <;> rcases o with _ | o <;>
    (cbv; rw [e0]; cbv; rw [e1]; cbv)
theorem side (H : HG O G) {h lv n : Int} {ss rs nd : List P} (q : Crw h lv n ss rs) (l : LP lv (IsI 1 17) nd) : Side (Sy.evCall O G 6) (crewP h ss rs) h lv n ss rs nd where
  sq := q.ss
  lnd := l
  lb := ⟨q.hl.b.2.2.1, q.hl.b.2.2.2⟩
  nb := ⟨q.n0, q.n1⟩
  first := firstSpot H 5 q
  start := startS H 3 q
  same := by
    obtain ⟨i1, i2, i3⟩ := (Z_spt (lv := lv) (n := n) q.hl.b.2.2.1 (by have := q.n0; omega)).ints
    exact isSpot H 3 i1 i2 i3
  hold := fun sp g shape p gp => holds H 0 q l p gp shape
  tick := fun sp g p gp => by
    obtain ⟨ds, cs, ps, rfl, st⟩ := p
    obtain ⟨_, eg, m, mb, lg⟩ := gp
    cases eg
    obtain ⟨ds', cs', ps', st', e1, _⟩ := tick H 1 q st l lg
    exact ⟨_, ⟨ds', cs', ps', rfl, st'⟩, e1⟩
  stay := stays H 5 q
theorem lawG (H : HG O G) (ns : List Int) (hn : ns.length ≤ 63) : Sy.evCall O G (6 + 1) 26 [.imm (.scr ns)] = .ok (.bool true) false [] := by
  refine ok_of (Sy.wp_fn (k := 6) (d := f_law) H.f26 rfl ?_)
  have ce : CellOk (Sy.evCall O G 6) ns := fun i h0 h1 => cell H 5 ns h0 h1
  have ro : RowsOk (Sy.evCall O G 6) := fun c => rows H 3 c
  have ne : NeedOk (Sy.evCall O G 6) := fun c lv h0 h1 => need H 4 c h0 h1
  have mk : MakeOk (Sy.evCall O G 6) := fun _ _ _ _ _ q => make H 3 q
  have fe : FeedOk (Sy.evCall O G 6) := fun c => feed H 5 c
  have tk := tk_ok H 5
  have so : SomeOk (Sy.evCall O G 6) := some_ H 4
  have gr : GroupsOk (Sy.evCall O G 6) := fun c n h0 h1 => groups H 3 c h0 h1
  have la : LateOk (Sy.evCall O G 6) := late H 3
  have sd := fun (h lv n : Int) (ss rs nd : List P) (q : Crw h lv n ss rs) (l : LP lv (IsI 1 17) nd) => side H q l
  generalize Sy.evCall O G 6 = call at ce ro ne mk fe tk so gr la sd ⊢
  obtain ⟨style, x, y, z, h, lv, n, ss, rs, h', lv', n', ss', rs', q, q', e0⟩ := st04 H ce ro mk fe tk
  obtain ⟨lead, x1, y1, z1, nd, nd', l0, l1, l2, ld, ld', e5⟩ := st58 H ce ne tk (style := style) (x := x) (y := y) (z := z) q q' (.lst [crewP h ss rs, crewP h' ss' rs'])
  have A := sd h lv n ss rs nd q ld
  have B := sd h' lv' n' ss' rs' nd' q' ld'
  generalize crewP h ss rs = c0 at e0 e5 A
  generalize crewP h' ss' rs' = c1 at e0 e5 B
  obtain ⟨gs, gm, m1, lg, e9⟩ := st910 H hn ce fe so gr (style := style) (lead := lead) A.nb B.nb [fd x1 y1 z1, .lst [rowsP h ss rs, rowsP h' ss' rs'], .lst [c0, c1], .lst [partP h ss rs nd, partP h' ss' rs' nd']]
  obtain ⟨limit, t0, t1, e11⟩ := st1114 H A B lg m1 (fd x1 y1 z1) (ns := ns) (style := style) (lead := lead)
  have b1 := q.hl.b
  have b2 := q'.hl.b
  have b3 := q.n0
  have b4 := q'.n0
  have p0 : SpP lv n (sp0 lv n) := ⟨_, _, _, rfl, Z_spt (by omega) (by omega)⟩
  have p1 : SpP lv' n' (sp0 lv' n') := ⟨_, _, _, rfl, Z_spt (by omega) (by omega)⟩
  generalize sp0 lv n = s0 at p0 e11
  generalize sp0 lv' n' = s1 at p1 e11
  obtain ⟨k, o, x2, y2, z2, s0', s1', kept, j, q0, q1, lk, e15⟩ := st15 H A B la l0 l1 lg t0 t1 x1 y1 z1 p0 p1 (ns := ns) (style := style)
  have e16 := st16 H A B l0 l1 l2 k (o.map fun t => t.1) (o.map fun t => t.2) (fd x2 y2 z2) q0 q1 (kept := kept) (ns := ns) (style := style) (gs := gs) (limit := limit)
  obtain ⟨o', e17⟩ := st17 H A B k (.lst []) (o.map fun t => t.2) (fd x2 y2 z2) lk (s0 := s0') (s1 := s1') (ns := ns) (style := style) (lead := lead) (gs := gs) (limit := limit)
  have e18 := st18 H A B k (.lst []) (o.map fun t => t.2) o' (fd x2 y2 z2) (.lst kept) (s0 := s0') (s1 := s1') (ns := ns) (style := style) (lead := lead) (gs := gs) (limit := limit)
  have e16' := e16
  rw [Option.map_map, Option.map_map] at e16'
  rw [Option.map_map] at e17 e18
  have main : Sy.evSs O G call 0 b_law (E9 ns none none none none none none none none none none none none none none none none) [] = .rt (.bool true) false (CC (fd x2 y2 z2) h ss rs nd h' ss' rs' nd' c0 c1 s0' s1' kept) :=
    (e0 _).trans ((e5 _).trans ((e9 _).trans ((e11 _).trans ((step e15).trans ((step e16').trans ((step e17).trans e18))))))
  show RS.wp (Sy.evSs O G call 0 b_law (E9 ns none none none none none none none none none none none none none none none none) []) _ _ _ _
  rw [main]
  exact ⟨rfl, rfl, rfl⟩
end
theorem law : L.Law 7 26 := fun ns hn => ⟨false, [], by rw [← evCall_std]; exact lawG hg ns hn⟩
end K29
set_option maxHeartbeats 0
open PySem PySem.W PySem.Calls PyProof.Rows
theorem PySem.Challenge.cw_stillinstep_k29_walk_ticks_whole_holds : PySem.Challenge.rw_stillinstep_k29_walk_ticks_whole.Holds := by
  w_on; o_law
  refine HandSHeadRun.head_any (r := K29.R) (q := view K29.R.prog [34]) (H := K29.hk) (ob := K29.ob) (M := 4000) (loose := K29.loose) (d := HandSHeadRun.topDef K29.R.prog 34) (kwd := []) K29.ob_eq
    (by kernel_rfl) (fun s => by kernel_rfl) K29.run (by kernel_rfl) (by kernel_rfl) (by kernel_rfl) (by rfl) (by first | assumption | decide +kernel) (by decide +kernel) ⟨rfl, rfl, rfl, rfl, rfl, by decide +kernel⟩ ?hw ?hc
  case hw => w_witness2
  case hc =>
    exact Ev.LawD.walk (k := 7) (f := 26) (r := K29.d_law) K29.chk K29.binds K29.kwds rfl (by rfl) (by rfl) (by rfl) (by rfl) K29.law rfl (by rfl) ⟨rfl, by decide, by decide⟩
