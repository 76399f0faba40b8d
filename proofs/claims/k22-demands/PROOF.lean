import PyProof.Rows.All
import Wide.All
import OpenK.AllK
import Wide.FinOn
import HandS.ForMost
import HandS.Conv
import HandS.Wide
import HandS.IsInst
import HandS.Walk
import HandS.SortInts
import HandS.Defaults
import HandS.HeadEnd
import HandS.HeadHook2
import HandS.HeadHook4
import HandS.Head2
import HandS.TupAny
import HandS.Deep
import HandS.TupMul
import HandS.Zip
import HandS.Rev
import HandS.Flow
import HandS.RaiseMore
import HandS.Style
import KE.GoesEnum
import KE.KStateDown
import Lean
import HandS.Base
import HandS.Call
import HandS.Ends
import HandS.More
import HandS.Words
import HandS.WordsExc
import HandS.Head0
import HandS.Head1
import HandS.HeadHook1
import PySem.Challenge.RW_surefreight_k22_demands
set_option Elab.async false
set_option linter.all false
set_option maxRecDepth 100000
/-! Core1: a small core language with values, and its evaluator (no heap). -/
namespace Co
open PySem

/-- data: tup, lst (frozen list), ro (the script), own (a list that one place owns) -/
inductive D where
  | non | bl (b : Bool) | int (i : Int) | str (x : Str)
  | tup (l : List D) | lst (l : List D) | ro (l : List D) | own (l : List D)

mutual
/-- nothing owned within -/
def D.fz : D → Bool
  | .tup l => fzL l
  | .lst l => fzL l
  | .ro l => fzL l
  | .own _ => false
  | .non => true
  | .bl _ => true
  | .int _ => true
  | .str _ => true
def fzL : List D → Bool
  | [] => true
  | d :: l => d.fz && fzL l
end
mutual
/-- frozen -/
def D.frz : D → D
  | .tup l => .tup (frzL l)
  | .own l => .lst (frzL l)
  | .lst l => .lst l
  | .ro l => .ro l
  | .non => .non
  | .bl b => .bl b
  | .int i => .int i
  | .str x => .str x
def frzL : List D → List D
  | [] => []
  | d :: l => d.frz :: frzL l
end

/-- a slot: nothing, a value of one's own, a borrowed one, a locked one -/
inductive Sl where
  | no | v (d : D) | bo (d : D) | lk (d : D)
abbrev Env := List Sl
/-- a result: data, or what stands in a slot -/
inductive R where
  | d (d : D) | pl (i : Nat)

def Sl.cont : Sl → Option D
  | .no => none
  | .v d => some d
  | .bo d => some d
  | .lk d => some d
def cont (ρ : Env) (i : Nat) : Option D := (ρ[i]?).bind Sl.cont
def rd (ρ : Env) : R → Option D
  | .d d => some d
  | .pl i => cont ρ i
def rds (ρ : Env) : List R → Option (List D)
  | [] => some []
  | r :: rs => (rd ρ r).bind fun d => (rds ρ rs).map (d :: ·)
/-- all are data themselves -/
def vals : List R → Option (List D)
  | [] => some []
  | .d d :: rs => (vals rs).map (d :: ·)
  | .pl _ :: _ => none

def lim : Nat := 16777216

inductive Blt where
  | len | list | tuple | abs | int | min | max | sum | any | all | str
  deriving DecidableEq
inductive Mut where
  | append | extend | pop
  deriving DecidableEq

/-- the core's terms: expressions, lists of them, targets, sources, statements, blocks -/
inductive C where
  | var (i : Nat) | fz (i : Nat) | mv (i : Nat)
  | non | bl (b : Bool) | int (i : Int) | str (x : Str)
  | bin (o : Operator) (a b : C)
  | neg (a : C) | not (a : C)
  | cmp (o : CmpOp) (a b : C)
  | chn (o1 o2 : CmpOp) (a b c : C)
  | and (a b : C) | or (a b : C)
  | ite (c a b : C)
  | one (a : C)
  | tst (a : C)
  | frz (a : C)
  | tup (es : C) | lst (es : C)
  | idx (a b : C)
  | slc (a lo hi : C)
  | lrng1 (a : C) | lrng2 (a b : C) | ixm (a b : C)
  | isi (a : C) (t : String)
  | call (f : Nat) (es : C)
  | blt (n : Blt) (es : C)
  | mut (n : Mut) (i : Nat) (es : C)
  | comp (elt tg src cond : C) (own : List Nat)
  | nil | cons (a r : C)
  | tnm (i : Nat) | ttup (ts : C) | tsub (i : Nat) (k : C)
  | sseq (e : C) | srng (es : C) | senum (e : C)
  | asg (t e : C) | par (i j : Nat) (es : C) | par3 (i j l : Nat) (es : C) | exs (e : C) | ret (e : C) | retN | cond (c a b : C) | for_ (t src body : C) | whl (c body : C) | brk | cnt | pass

/-! ### operations on data -/
/-- the items of a list or a tuple -/
def D.items : D → Option (List D)
  | .tup l => some l
  | .lst l => some l
  | .ro l => some l
  | .own l => some l
  | _ => none
def D.isL : D → Option (List D)
  | .lst l => some l
  | .own l => some l
  | _ => none

def addD : D → D → Option D
  | .int i, .int j => some (.int (i + j))
  | .str x, .str y => if x.length + y.length ≤ lim then some (.str (x ++ y)) else none
  | .own a, .own b => if fzL a && fzL b && decide (a.length + b.length ≤ lim) then some (.own (a ++ b)) else none
  | .own a, .lst b => if fzL a && fzL b && decide (a.length + b.length ≤ lim) then some (.own (a ++ b)) else none
  | .lst a, .own b => if fzL a && fzL b && decide (a.length + b.length ≤ lim) then some (.own (a ++ b)) else none
  | .lst a, .lst b => if fzL a && fzL b && decide (a.length + b.length ≤ lim) then some (.own (a ++ b)) else none
  | .tup a, .tup b => if fzL a && fzL b && decide (a.length + b.length ≤ lim) then some (.tup (a ++ b)) else none
  | _, _ => none
def binD (o : Operator) (x y : D) : Option D :=
  match o, x, y with
  | .Add, x, y => addD x y
  | .Sub, .int i, .int j => some (.int (i - j))
  | .Mult, .int i, .int j => if i.natAbs.log2 + j.natAbs.log2 < 1000000 then some (.int (i * j)) else none
  | .FloorDiv, .int i, .int j => if 0 < j ∧ j.natAbs.log2 < 9000 then some (.int (i / j)) else none
  | .Mod, .int i, .int j => if 0 < j then some (.int (i % j)) else none
  | .Pow, .int i, .int j => if 0 ≤ j ∧ j ≤ 1000000 ∧ i.natAbs < 2 ^ 64 then some (.int (i ^ j.toNat)) else none
  | .BitAnd, .int i, .int j => some (.int (Builtin.bitAnd i j))
  | .RShift, .int i, .int j => if 0 ≤ j then some (.int (i / 2 ^ j.toNat)) else none
  | _, _, _ => none
def negD : D → Option D
  | .int i => some (.int (-i))
  | _ => none

mutual
def D.py : D → PyData
  | .non => .none
  | .bl b => .bool b
  | .int i => .int i
  | .str x => .str x
  | .tup l => .tuple (pyL l)
  | .lst l => .list (pyL l)
  | .ro l => .list (pyL l)
  | .own l => .list (pyL l)
def pyL : List D → List PyData
  | [] => []
  | d :: l => d.py :: pyL l
end
def eqD (x y : D) : Option Bool :=
  if SeqAt.shaped x.py && SeqAt.shaped y.py then some (PyData.eqv x.py y.py) else none
def D.flat : D → Bool
  | .non => true
  | .bl _ => true
  | .int _ => true
  | .str _ => true
  | _ => false
def D.isNon : D → Bool
  | .non => true
  | _ => false
/-- == of flat data -/
def eqF : D → D → Bool
  | .non, .non => true
  | .bl a, .bl b => a == b
  | .bl a, .int b => (if a then 1 else 0) == b
  | .int a, .bl b => a == (if b then 1 else 0)
  | .int a, .int b => a == b
  | .str a, .str b => a == b
  | _, _ => false
def inF (x : D) (l : List D) : Option Bool := if x.flat && l.all D.flat then some (l.any fun y => eqF y x) else none
def inN (x : D) (l : List D) : Option Bool :=
  if x.flat && l.all D.flat then some (l.any fun y => eqF y x)
  else if SeqAt.shaped x.py && SeqAt.shaped (.list (pyL l)) then some ((pyL l).any fun z => PyData.eqv z x.py) else none
def inD (x y : D) : Option Bool :=
  match y with
  | .tup l => inF x l
  | .lst l => inN x l
  | .ro l => inN x l
  | .own l => inN x l
  | _ => none
def ordD (g : Int → Int → Bool) : D → D → Option Bool
  | .int i, .int j => some (g i j)
  | _, _ => none
def isD (b : Bool) : D → Option Bool
  | .non => some b
  | _ => none
def cmpD (o : CmpOp) (x y : D) : Option Bool :=
  match o with
  | .Eq => eqD x y
  | .NotEq => (eqD x y).map not
  | .Lt => ordD (fun i j => decide (i < j)) x y
  | .LtE => ordD (fun i j => decide (i ≤ j)) x y
  | .Gt => ordD (fun i j => decide (j < i)) x y
  | .GtE => ordD (fun i j => decide (j ≤ i)) x y
  | .Is => isD x.isNon y
  | .IsNot => isD (!x.isNon) y
  | .In => inD x y
  | .NotIn => (inD x y).map not
def truD : D → Option Bool
  | .non => some false
  | .bl b => some b
  | .int i => some (i != 0)
  | .str x => if x.length ≤ lim then some ((x.length : Int) != 0) else none
  | .tup l => some (!l.isEmpty)
  | .lst l => some (!l.isEmpty)
  | .ro l => some (!l.isEmpty)
  | .own l => some (!l.isEmpty)
def tyD : D → String
  | .non => "NoneType" | .bl _ => "bool" | .int _ => "int" | .str _ => "str" | .tup _ => "tuple" | .lst _ => "list" | .ro _ => "list" | .own _ => "list"
def idxD (x y : D) : Option D :=
  match x, y with
  | .str z, .int i => if z.length ≤ lim then (L2.atI z.cps.toList i).map fun c => .str ⟨#[c]⟩ else none
  | .tup l, .int i => (L2.atI l i).bind fun d => if d.fz then some d else none
  | .lst l, .int i => (L2.atI l i).bind fun d => if d.fz then some d else none
  | .ro l, .int i => (L2.atI l i).bind fun d => if d.fz then some d else none
  | .own l, .int i => (L2.atI l i).bind fun d => if d.fz then some d else none
  | _, _ => none
def cutD (l : List D) (lo hi : Option Int) : List D := (l.drop (HT.sIx l.length 0 lo)).take (HT.sIx l.length l.length hi - HT.sIx l.length 0 lo)
def slD (x : D) (lo hi : Option Int) : Option D :=
  match x with
  | .tup l => if fzL l then some (.tup (cutD l lo hi)) else none
  | .lst l => if fzL l then some (.own (cutD l lo hi)) else none
  | .ro l => if fzL l then some (.own (cutD l lo hi)) else none
  | .own l => if fzL l then some (.own (cutD l lo hi)) else none
  | _ => none
def lenD : List D → Option D
  | [.str z] => if z.length ≤ lim then some (.int z.length) else none
  | [d] => d.items.map fun l => .int l.length
  | _ => none
def listD : List D → Option D
  | [d] => d.items.bind fun l => if fzL l then some (.own l) else none
  | _ => none
def tupleD : List D → Option D
  | [d] => d.items.bind fun l => if fzL l then some (.tup l) else none
  | _ => none
def absD : List D → Option D
  | [.int i] => some (.int (if i < 0 then -i else i))
  | _ => none
def intD : List D → Option D
  | [.int i] => some (.int i)
  | [.bl b] => some (.int (if b then 1 else 0))
  | _ => none
/-- the items of a list -/
def D.lsts : D → Option (List D)
  | .lst l => some l
  | .ro l => some l
  | .own l => some l
  | _ => none
def allInt : List D → Option (List Int)
  | [] => some []
  | .int i :: l => (allInt l).map (i :: ·)
  | _ => none
def allBl : List D → Option (List Bool)
  | [] => some []
  | .bl i :: l => (allBl l).map (i :: ·)
  | _ => none
def leastI : List Int → Option Int
  | [] => none
  | [a] => some a
  | a :: l => (leastI l).map fun m => if m < a then m else a
def mostI : List Int → Option Int
  | [] => none
  | [a] => some a
  | a :: l => (mostI l).map fun m => if a < m then m else a
def minD : List D → Option D
  | [.int i, .int j] => some (.int (if j < i then j else i))
  | [d] => d.lsts.bind fun l => (allInt l).bind fun ns => (leastI ns).map D.int
  | _ => none
def maxD : List D → Option D
  | [.int i, .int j] => some (.int (if j > i then j else i))
  | [d] => d.lsts.bind fun l => (allInt l).bind fun ns => (mostI ns).map D.int
  | _ => none
def sumD : List D → Option D
  | [d] => d.lsts.bind fun l => (allInt l).map fun ns => .int ns.sum
  | _ => none
def anyD : List D → Option D
  | [d] => d.lsts.bind fun l => (allBl l).map fun bs => .bl (bs.any id)
  | _ => none
def allD : List D → Option D
  | [d] => d.lsts.bind fun l => (allBl l).map fun bs => .bl (bs.all id)
  | _ => none
def strD : List D → Option D
  | [.int i] => if i.natAbs.log2 < 1920 then some (.str (toString i)) else none
  | [.str x] => some (.str x)
  | _ => none
def bltD (n : Blt) : List D → Option D :=
  match n with
  | .min => minD
  | .max => maxD
  | .sum => sumD
  | .any => anyD
  | .all => allD
  | .str => strD
  | .len => lenD
  | .list => listD
  | .tuple => tupleD
  | .abs => absD
  | .int => intD
/-- a method that changes a list: its result, the new items -/
def appD (l : List D) : List D → Option (D × List D)
  | [x] => if l.length < lim then some (.non, l ++ [x]) else none
  | _ => none
def extD (l : List D) : List D → Option (D × List D)
  | [x] => x.isL.bind fun r => if fzL r && decide (l.length + r.length ≤ lim) then some (.non, l ++ r) else none
  | _ => none
def popD (l : List D) : List D → Option (D × List D)
  | [.int i] => if -(2 ^ 63) ≤ i ∧ i < 2 ^ 63 then (L2.ixN l.length i).bind fun n => (l[n]?).bind fun d => if d.fz then some (d, l.eraseIdx n) else none else none
  | _ => none
def mutD (n : Mut) (l : List D) (ds : List D) : Option (D × List D) :=
  match n with
  | .append => appD l ds
  | .extend => extD l ds
  | .pop => popD l ds
/-- the first place of what is equal -/
def idxF (y : D) : List D → Option Nat
  | [] => none
  | d :: l => if eqF d y then some 0 else (idxF y l).map (· + 1)
def indexD (x y : D) : Option D := x.lsts.bind fun l => if y.flat && l.all D.flat then (idxF y l).map fun (n : Nat) => .int n else none
/-- what such a method is given -/
def mutArgs (n : Mut) (ρ : Env) (rs : List R) : Option (List D) :=
  match n with
  | .append => vals rs
  | .extend => rds ρ rs
  | .pop => vals rs

/-! ### slots -/
/-- a name stored -/
def store (ρ : Env) (i : Nat) (d : D) : Option Env :=
  match ρ[i]? with
  | some .no => some (ρ.set i (.v d))
  | some (.v _) => some (ρ.set i (.v d))
  | _ => none
/-- a slot's list with new items -/
def setL (ρ : Env) (i : Nat) (l : List D) : Option Env :=
  match ρ[i]? with
  | some (.v (.own _)) => some (ρ.set i (.v (.own l)))
  | some (.bo (.own _)) => some (ρ.set i (.bo (.own l)))
  | _ => none
def ownAt (ρ : Env) (i : Nat) : Option (List D) :=
  match ρ[i]? with
  | some (.v (.own l)) => some l
  | some (.bo (.own l)) => some l
  | _ => none
/-- an argument's slot in the callee -/
def lentS : Option Sl → Option Sl
  | some (.v d) => some (.bo d)
  | some (.bo d) => some (.bo d)
  | some (.lk d) => some (.lk d)
  | _ => none
def argOf (ρ : Env) : R → Option Sl
  | .d d => some (.v d)
  | .pl i => lentS ρ[i]?
def argsOf (ρ : Env) : List R → Option (List Sl)
  | [] => some []
  | r :: rs => (argOf ρ r).bind fun s => (argsOf ρ rs).map (s :: ·)
def places : List R → List Nat
  | [] => []
  | .d _ :: rs => places rs
  | .pl i :: rs => i :: places rs
/-- what a lent slot holds behind the call -/
def backOne (old new : Sl) : Sl :=
  match old, new with
  | .v _, .bo d => .v d
  | .bo _, .bo d => .bo d
  | o, _ => o
def back (ρ : Env) : List R → List Sl → Env
  | .pl i :: rs, n :: ns => back (match ρ[i]? with | some o => ρ.set i (backOne o n) | none => ρ) rs ns
  | .d _ :: rs, _ :: ns => back ρ rs ns
  | _, _ => ρ
/-- the parameters' slots behind a call -/
def outs : List Sl → List Sl → List Sl
  | .bo _ :: as, s :: ss => s :: outs as ss
  | .lk _ :: as, s :: ss => s :: outs as ss
  | .v _ :: as, _ :: ss => .no :: outs as ss
  | .no :: as, _ :: ss => .no :: outs as ss
  | _, _ => []

inductive Out where
  | nx (ρ : Env) | rt (d : D) (ρ : Env) | bk (ρ : Env) | ct (ρ : Env)
def parS (ρ : Env) (i j : Nat) : List R → Option Out
  | [.d x, .d y] => (store ρ i x).bind fun ρ2 => (store ρ2 j y).bind fun ρ3 => some (.nx ρ3)
  | _ => none
def parS3 (ρ : Env) (i j l : Nat) : List R → Option Out
  | [.d x, .d y, .d z] => (store ρ i x).bind fun ρ2 => (store ρ2 j y).bind fun ρ3 => (store ρ3 l z).bind fun ρ4 => some (.nx ρ4)
  | _ => none
def Out.map (f : Env → Env) : Out → Out
  | .nx ρ => .nx (f ρ)
  | .rt d ρ => .rt d (f ρ)
  | .bk ρ => .bk (f ρ)
  | .ct ρ => .ct (f ρ)
/-- a list that is walked is locked -/
def lock (ρ : Env) : Option Nat → Env
  | none => ρ
  | some i => match ρ[i]? with
    | some (.v d) => ρ.set i (.lk d)
    | some (.bo d) => ρ.set i (.lk d)
    | _ => ρ
def unlock (old : Env) (l : Option Nat) (ρ : Env) : Env :=
  match l with
  | none => ρ
  | some i => match old[i]? with
    | some s => ρ.set i s
    | none => ρ
def wipeS (ρ : Env) : List Nat → Env
  | [] => ρ
  | i :: is => (wipeS ρ is).set i .no
def putBack (old : Env) (ρ : Env) : List Nat → Env
  | [] => ρ
  | i :: is => match old[i]? with
    | some s => (putBack old ρ is).set i s
    | none => putBack old ρ is
/-- the slot holds nothing that is owned -/
def freeAt (ρ : Env) (i : Nat) : Bool :=
  match ρ[i]? with
  | some .no => true
  | some (.v d) => d.fz
  | _ => false

def forL (step : D → Env → Option Out) : List D → Env → Option Out
  | [], ρ => some (.nx ρ)
  | d :: ds, ρ => match step d ρ with
    | some (.nx ρ') => forL step ds ρ'
    | some (.ct ρ') => forL step ds ρ'
    | some (.bk ρ') => some (.nx ρ')
    | some (.rt d ρ') => some (.rt d ρ')
    | none => none
def compL (step : D → Env → Option (Option D × Env)) : List D → List D → Env → Option (List D × Env)
  | [], acc, ρ => some (acc, ρ)
  | d :: ds, acc, ρ => match step d ρ with
    | some (some x, ρ') => if acc.length < lim then compL step ds (acc ++ [x]) ρ' else none
    | some (none, ρ') => compL step ds acc ρ'
    | none => none
def whileL (test : Env → Option (Bool × Env)) (step : Env → Option Out) : Nat → Env → Option Out
  | 0, _ => none
  | n + 1, ρ => match test ρ with
    | some (true, ρ') => match step ρ' with
      | some (.nx ρ2) => whileL test step n ρ2
      | some (.ct ρ2) => whileL test step n ρ2
      | some (.bk ρ2) => some (.nx ρ2)
      | some (.rt d ρ2) => some (.rt d ρ2)
      | none => none
    | some (false, ρ') => some (.nx ρ')
    | none => none
/-- what a for walks: the items, the slot to be locked -/
def srcOf (ρ : Env) : R → Option (List D × Option Nat)
  | .d d => d.items.bind fun l => if fzL l then some (l, none) else none
  | .pl i => match ρ[i]? with
    | some (.v (.own l)) => if fzL l then some (l, some i) else none
    | some (.bo (.own l)) => if fzL l then some (l, some i) else none
    | some (.lk (.own l)) => if fzL l then some (l, none) else none
    | _ => none
def rngD (a b : Int) : List D := (List.range (b - a).toNat).map fun (k : Nat) => D.int (a + (k : Int))
def enumL : Nat → List D → List D
  | _, [] => []
  | i, d :: ds => .tup [.int i, d] :: enumL (i + 1) ds
def rngOf : List D → Option (List D)
  | [.int n] => if -(2 ^ 62) ≤ n ∧ n < 2 ^ 62 then some (rngD 0 n) else none
  | [.int a, .int b] => if -(2 ^ 62) ≤ a ∧ a < 2 ^ 62 ∧ -(2 ^ 62) ≤ b ∧ b < 2 ^ 62 then some (rngD a b) else none
  | _ => none

section
variable (Φ : Nat → List Sl → Option (D × List Sl)) (wf : Nat)
mutual
/-- expressions -/
def evE : C → Env → Option (R × Env)
  | .var i, ρ => match ρ[i]? with
    | some (.v d) => some (if d.fz then .d d else .pl i, ρ)
    | some (.bo d) => some (if d.fz then .d d else .pl i, ρ)
    | some (.lk _) => some (.pl i, ρ)
    | _ => none
  | .fz i, ρ => match ρ[i]? with
    | some (.v d) => some (.d d.frz, ρ.set i (.v d.frz))
    | some (.bo d) => some (.d d.frz, ρ.set i (.bo d.frz))
    | _ => none
  | .mv i, ρ => match ρ[i]? with
    | some (.v d) => some (.d d, ρ.set i .no)
    | _ => none
  | .non, ρ => some (.d .non, ρ)
  | .bl b, ρ => some (.d (.bl b), ρ)
  | .int i, ρ => some (.d (.int i), ρ)
  | .str x, ρ => some (.d (.str x), ρ)
  | .bin o a b, ρ => (evE a ρ).bind fun (ra, ρ1) => (evE b ρ1).bind fun (rb, ρ2) =>
      (rd ρ2 ra).bind fun x => (rd ρ2 rb).bind fun y => (binD o x y).bind fun z => some (.d z, ρ2)
  | .neg a, ρ => (evE a ρ).bind fun (ra, ρ1) => (rd ρ1 ra).bind fun x => (negD x).bind fun z => some (.d z, ρ1)
  | .not a, ρ => (evE a ρ).bind fun (ra, ρ1) => match ra with
    | .d (.bl b) => some (.d (.bl (!b)), ρ1)
    | _ => none
  | .cmp o a b, ρ => (evE a ρ).bind fun (ra, ρ1) => (evE b ρ1).bind fun (rb, ρ2) =>
      (rd ρ2 ra).bind fun x => (rd ρ2 rb).bind fun y => (cmpD o x y).bind fun z => some (.d (.bl z), ρ2)
  | .chn o1 o2 a b c, ρ => ((evE a ρ).bind fun (ra, ρ1) => (evE b ρ1).bind fun (rb, ρ2) =>
      (rd ρ2 ra).bind fun x => (rd ρ2 rb).bind fun y => (cmpD o1 x y).bind fun z =>
        if z then (evE c ρ2).bind fun (rc, ρ3) => (rd ρ3 rb).bind fun y' => (rd ρ3 rc).bind fun w => (cmpD o2 y' w).bind fun z2 => some (z2, ρ3)
        else some (false, ρ2)).bind fun (z, ρ4) => some (.d (.bl z), ρ4)
  | .and a b, ρ => (evE a ρ).bind fun (ra, ρ1) => match ra with
    | .d (.bl true) => evE b ρ1
    | .d (.bl false) => some (.d (.bl false), ρ1)
    | _ => none
  | .or a b, ρ => (evE a ρ).bind fun (ra, ρ1) => match ra with
    | .d (.bl true) => some (.d (.bl true), ρ1)
    | .d (.bl false) => evE b ρ1
    | _ => none
  | .one a, ρ => evE a ρ
  | .frz a, ρ => (evE a ρ).bind fun (r, ρ1) => match r with
    | .d d => some (.d d.frz, ρ1)
    | .pl _ => none
  | .ite c a b, ρ => (evT c ρ).bind fun (t, ρ1) => if t then evE a ρ1 else evE b ρ1
  | .tup es, ρ => (evA es ρ).bind fun (rs, ρ1) => (vals rs).bind fun ds => if ds.length ≤ lim then some (.d (.tup ds), ρ1) else none
  | .lst es, ρ => (evA es ρ).bind fun (rs, ρ1) => (vals rs).bind fun ds => if ds.length ≤ lim then some (.d (.own ds), ρ1) else none
  | .idx a b, ρ => (evE a ρ).bind fun (ra, ρ1) => (evE b ρ1).bind fun (rb, ρ2) =>
      (rd ρ2 ra).bind fun x => (rd ρ2 rb).bind fun y => (idxD x y).bind fun z => some (.d z, ρ2)
  | .slc a lo hi, ρ => (evE a ρ).bind fun (ra, ρ1) => (evO lo ρ1).bind fun (l, ρ2) => (evO hi ρ2).bind fun (h, ρ3) =>
      (rd ρ3 ra).bind fun x => (slD x l h).bind fun z => some (.d z, ρ3)
  | .lrng1 a, ρ => (evE a ρ).bind fun (r, ρ1) => (vals [r]).bind fun ds => (rngOf ds).bind fun l => if l.length ≤ lim then some (.d (.own l), ρ1) else none
  | .lrng2 a b, ρ => (evE a ρ).bind fun (ra, ρ1) => (evE b ρ1).bind fun (rb, ρ2) => (vals [ra, rb]).bind fun ds => (rngOf ds).bind fun l => if l.length ≤ lim then some (.d (.own l), ρ2) else none
  | .ixm a b, ρ => (evE a ρ).bind fun (ra, ρ1) => ((rd ρ1 ra).bind D.lsts).bind fun _ => (evE b ρ1).bind fun (rb, ρ2) =>
      (rd ρ2 ra).bind fun x => (rd ρ2 rb).bind fun y => (indexD x y).bind fun z => some (.d z, ρ2)
  | .isi a t, ρ => (evE a ρ).bind fun (ra, ρ1) => (rd ρ1 ra).bind fun x => (L2.kitB (tyD x) t).bind fun b => some (.d (.bl b), ρ1)
  | .call f es, ρ => (evA es ρ).bind fun (rs, ρ1) => if (places rs).Nodup then (argsOf ρ1 rs).bind fun as =>
      (Φ f as).bind fun (d, os) => some (.d d, back ρ1 rs os) else none
  | .blt n es, ρ => (evA es ρ).bind fun (rs, ρ1) => (rds ρ1 rs).bind fun ds => (bltD n ds).bind fun d => some (.d d, ρ1)
  | .mut n i es, ρ => (ownAt ρ i).bind fun _ => (evA es ρ).bind fun (rs, ρ1) => (mutArgs n ρ1 rs).bind fun ds => (ownAt ρ1 i).bind fun l => (mutD n l ds).bind fun (d, l') =>
      (setL ρ1 i l').bind fun ρ2 => some (.d d, ρ2)
  | .comp elt tg src cond own, ρ => (evI src ρ).bind fun (ds, lk, ρ1) => if own.all (freeAt ρ1) then
      (compL (fun d ρ => (evG tg d ρ).bind fun ρ' => (evT cond ρ').bind fun (t, ρ2) =>
        if t then (evE elt ρ2).bind fun (r, ρ3) => match r with
          | .d x => some (some x, wipeS ρ3 own)
          | .pl _ => none
        else some (none, wipeS ρ2 own)) ds [] (wipeS (lock ρ1 lk) own)).bind fun (acc, ρ4) => some (.d (.own acc), putBack ρ1 (unlock ρ1 lk ρ4) own) else none
  | _, _ => none
/-- a slice's bound -/
def evO : C → Env → Option (Option Int × Env)
  | .nil, ρ => some (none, ρ)
  | .one a, ρ => (evE a ρ).bind fun (r, ρ1) => match r with
    | .d (.int i) => some (some i, ρ1)
    | _ => none
  | _, _ => none
/-- lists of expressions -/
def evA : C → Env → Option (List R × Env)
  | .nil, ρ => some ([], ρ)
  | .cons a r, ρ => (evE a ρ).bind fun (ra, ρ1) => (evA r ρ1).bind fun (rs, ρ2) => some (ra :: rs, ρ2)
  | _, _ => none
/-- tests -/
def evT : C → Env → Option (Bool × Env)
  | .not a, ρ => (evT a ρ).bind fun (t, ρ1) => some (!t, ρ1)
  | .and a b, ρ => (evT a ρ).bind fun (t, ρ1) => if t then evT b ρ1 else some (false, ρ1)
  | .or a b, ρ => (evT a ρ).bind fun (t, ρ1) => if t then some (true, ρ1) else evT b ρ1
  | .cmp o a b, ρ => (evE a ρ).bind fun (ra, ρ1) => (evE b ρ1).bind fun (rb, ρ2) =>
      (rd ρ2 ra).bind fun x => (rd ρ2 rb).bind fun y => (cmpD o x y).bind fun z => some (z, ρ2)
  | .chn o1 o2 a b c, ρ => (evE a ρ).bind fun (ra, ρ1) => (evE b ρ1).bind fun (rb, ρ2) =>
      (rd ρ2 ra).bind fun x => (rd ρ2 rb).bind fun y => (cmpD o1 x y).bind fun z =>
        if z then (evE c ρ2).bind fun (rc, ρ3) => (rd ρ3 rb).bind fun y' => (rd ρ3 rc).bind fun w => (cmpD o2 y' w).bind fun z2 => some (z2, ρ3)
        else some (false, ρ2)
  | .tst a, ρ => (evE a ρ).bind fun (ra, ρ1) => (rd ρ1 ra).bind fun x => (truD x).bind fun b => some (b, ρ1)
  | .bl b, ρ => some (b, ρ)
  | .one a, ρ => evT a ρ
  | _, _ => none
/-- targets -/
def evG : C → D → Env → Option Env
  | .tnm i, d, ρ => store ρ i d
  | .ttup ts, d, ρ => match d with
    | .tup l => evGs ts l ρ
    | _ => none
  | .tsub i k, d, ρ => (ownAt ρ i).bind fun _ => (evE k ρ).bind fun (rk, ρ1) => match rk with
    | .d (.int j) => (ownAt ρ1 i).bind fun l => (L2.ixN l.length j).bind fun n => setL ρ1 i (l.set n d)
    | _ => none
  | _, _, _ => none
def evGs : C → List D → Env → Option Env
  | .nil, l, ρ => match l with
    | [] => some ρ
    | _ => none
  | .cons t ts, l, ρ => match l with
    | d :: l' => (evG t d ρ).bind fun ρ1 => evGs ts l' ρ1
    | [] => none
  | _, _, _ => none
/-- what is walked -/
def evI : C → Env → Option (List D × Option Nat × Env)
  | .sseq e, ρ => (evE e ρ).bind fun (r, ρ1) => (srcOf ρ1 r).bind fun (l, k) => some (l, k, ρ1)
  | .srng es, ρ => (evA es ρ).bind fun (rs, ρ1) => (vals rs).bind fun ds => (rngOf ds).bind fun l => some (l, none, ρ1)
  | .senum e, ρ => (evE e ρ).bind fun (r, ρ1) => (srcOf ρ1 r).bind fun (l, k) => some (enumL 0 l, k, ρ1)
  | _, _ => none
/-- statements -/
def evS : C → Env → Option Out
  | .asg t e, ρ => (evE e ρ).bind fun (r, ρ1) => match r with
    | .d d => (evG t d ρ1).bind fun ρ2 => some (.nx ρ2)
    | .pl _ => none
  | .par i j es, ρ => (evA es ρ).bind fun (rs, ρ1) => parS ρ1 i j rs
  | .par3 i j l es, ρ => (evA es ρ).bind fun (rs, ρ1) => parS3 ρ1 i j l rs
  | .exs e, ρ => (evE e ρ).bind fun (_, ρ1) => some (.nx ρ1)
  | .ret e, ρ => (evE e ρ).bind fun (r, ρ1) => match r with
    | .d d => some (.rt d ρ1)
    | .pl _ => none
  | .retN, ρ => some (.rt .non ρ)
  | .cond c a b, ρ => (evT c ρ).bind fun (t, ρ1) => if t then evB a ρ1 else evB b ρ1
  | .for_ t src body, ρ => (evI src ρ).bind fun (ds, lk, ρ1) =>
      (forL (fun d ρ => (evG t d ρ).bind fun ρ' => evB body ρ') ds (lock ρ1 lk)).bind fun o => some (o.map (unlock ρ1 lk))
  | .whl c body, ρ => whileL (evT c) (evB body) wf ρ
  | .brk, ρ => some (.bk ρ)
  | .cnt, ρ => some (.ct ρ)
  | .pass, ρ => some (.nx ρ)
  | _, _ => none
/-- blocks -/
def evB : C → Env → Option Out
  | .nil, ρ => some (.nx ρ)
  | .cons a r, ρ => (evS a ρ).bind fun o => match o with
    | .nx ρ1 => evB r ρ1
    | o => some o
  | _, _ => none
end
end

/-- a def: how many parameters, how many slots, its body -/
structure Fn where
  np : Nat
  ns : Nat
  body : C
/-- a call, by the depth that is left -/
def evF (T : List Fn) (wf : Nat) : Nat → Nat → List Sl → Option (D × List Sl)
  | 0, _, _ => none
  | k + 1, f, as => match T[f]? with
    | some F => if as.length = F.np then
        match evB (evF T wf k) wf F.body (as ++ List.replicate (F.ns - F.np) .no) with
        | some (.nx ρ) => some (.non, outs as ρ)
        | some (.rt d ρ) => some (d, outs as ρ)
        | _ => none
      else none
    | none => none
end Co

set_option maxRecDepth 100000
/-! Core2: how data stand in the heap -/
namespace Co
open PySem PySem.Spec PyProof.Rows L2

def RoL (K : PySem.W.Frag) (H : Hp) (a : Addr) (xs : List V) : Prop :=
  (∃ o, H a = some (.frz o (.lst xs))) ∨
    ∃ (o : Obj) (its : Array Value) (n : Nat), K.lookup a = some o ∧ o.cls = .type "list" ∧ o.dict = none ∧ o.data = .seq its n ∧ its.size ≤ sizeLine ∧ Vals xs its.toList
theorem RoL.sq {K : PySem.W.Frag} {H : Hp} {a : Addr} {xs : List V} (h : RoL K H a xs) : SqL K H a xs := by
  rcases h with h | h
  · exact .inl (.inr h)
  · exact .inr h

section
variable (K : PySem.W.Frag) (F : Addr → Prop) (H : Hp)
mutual
/-- the value v is the data d; P: the lists that d owns -/
def VR : D → V → List Addr → Prop
  | .non, v, P => v = .non ∧ P = []
  | .bl b, v, P => v = .bl b ∧ P = []
  | .int i, v, P => v = .int i ∧ P = []
  | .str x, v, P => v = .str x ∧ P = []
  | .tup l, v, P => ∃ a xs, v = .ref a ∧ SqT K H a xs ∧ VRL l xs P
  | .lst l, v, P => ∃ a xs, v = .ref a ∧ F a ∧ H a = some (.lst xs) ∧ VRL l xs [] ∧ P = []
  | .ro l, v, P => ∃ a xs, v = .ref a ∧ RoL K H a xs ∧ VRL l xs [] ∧ P = []
  | .own l, v, P => ∃ a xs P', v = .ref a ∧ H a = some (.lst xs) ∧ VRL l xs P' ∧ P = a :: P'
def VRL : List D → List V → List Addr → Prop
  | [], xs, P => xs = [] ∧ P = []
  | d :: l, xs, P => ∃ x xs' P1 P2, xs = x :: xs' ∧ VR d x P1 ∧ VRL l xs' P2 ∧ P = P1 ++ P2
end
/-- a slot -/
def S1 : Sl → Option V → List Addr → Prop
  | .no, _, P => P = []
  | .v d, ov, P => ∃ v, ov = some v ∧ VR K F H d v P
  | .bo d, ov, P => ∃ v, ov = some v ∧ VR K F H d v P
  | .lk d, ov, P => ∃ v, ov = some v ∧ VR K F H d v P
def SR : Env → List (Option V) → List Addr → Prop
  | [], σ, O => σ = [] ∧ O = []
  | s :: ρ, σ, O => ∃ ov σ' O1 O2, σ = ov :: σ' ∧ S1 K F H s ov O1 ∧ SR ρ σ' O2 ∧ O = O1 ++ O2
end
/-- what is owned, what is frozen -/
structure Wd (F : Addr → Prop) (H : Hp) (O : List Addr) : Prop where
  nd : O.Nodup
  nf : ∀ a ∈ O, ¬ F a
  ls : ∀ a ∈ O, ∃ xs, H a = some (.lst xs)
  ft : ∀ a, F a → ∃ xs, H a = some (.lst xs)
structure Stp (F : Addr → Prop) (H : Hp) (O : List Addr) (F' : Addr → Prop) (H' : Hp) (O' : List Addr) : Prop where
  fr : ∀ a o, H a = some o → a ∉ O → H' a = some o
  mo : ∀ a, F a → F' a
  ow : ∀ a ∈ O', a ∈ O ∨ H a = none
  nw : ∀ a, F' a → F a ∨ a ∈ O ∨ H a = none

section
variable {K : PySem.W.Frag} {F F' F2 : Addr → Prop} {H H' H2 : Hp} {O O' O2 P P' : List Addr}
theorem Stp.refl : Stp F H O F H O := ⟨fun _ _ h _ => h, fun _ h => h, fun _ h => .inl h, fun _ h => .inl h⟩
theorem Stp.trans (a : Stp F H O F' H' O') (b : Stp F' H' O' F2 H2 O2) : Stp F H O F2 H2 O2 where
  fr := fun x o h n => b.fr x o (a.fr x o h n) fun z => (a.ow x z).elim n fun q => by rw [h] at q; cases q
  mo := fun x h => b.mo x (a.mo x h)
  ow := fun x h => by
    rcases b.ow x h with z | z
    · exact a.ow x z
    · by_cases hx : x ∈ O
      · exact .inl hx
      · right
        cases q : H x with
        | none => rfl
        | some o => rw [a.fr x o q hx] at z; cases z
  nw := fun x h => by
    rcases b.nw x h with z | z | z
    · exact a.nw x z
    · exact .inr (a.ow x z)
    · by_cases hx : x ∈ O
      · exact .inr (.inl hx)
      · right; right
        cases q : H x with
        | none => rfl
        | some o => rw [a.fr x o q hx] at z; cases z
theorem Stp.sub (a : Stp F H O F' H' O') (h : ∀ x ∈ O2, x ∈ O') : Stp F H O F' H' O2 := ⟨a.fr, a.mo, fun x z => a.ow x (h x z), a.nw⟩
/-- more is owned: what lies beside -/
theorem Stp.more (a : Stp F H O F' H' O') : Stp F H (O ++ P) F' H' (O' ++ P) where
  fr := fun x o h n => a.fr x o h fun z => n (List.mem_append_left _ z)
  mo := a.mo
  ow := fun x h => by
    rcases List.mem_append.mp h with z | z
    · rcases a.ow x z with z | z
      · exact .inl (List.mem_append_left _ z)
      · exact .inr z
    · exact .inl (List.mem_append_right _ z)
  nw := fun x h => by
    rcases a.nw x h with z | z | z
    · exact .inl z
    · exact .inr (.inl (List.mem_append_left _ z))
    · exact .inr (.inr z)
theorem Stp.sup (a : Stp F H O F' H' O') (h : ∀ x ∈ O, x ∈ O2) : Stp F H O2 F' H' O' where
  fr := fun x o e n => a.fr x o e fun z => n (h x z)
  mo := a.mo
  ow := fun x z => (a.ow x z).imp (h x) id
  nw := fun x z => by
    rcases a.nw x z with z | z | z
    · exact .inl z
    · exact .inr (.inl (h x z))
    · exact .inr (.inr z)
theorem Wd.sub (w : Wd F H O) (h : O2.Sublist O) : Wd F H O2 := ⟨h.nodup w.nd, fun a z => w.nf a (h.subset z), fun a z => w.ls a (h.subset z), w.ft⟩
theorem Wd.left (w : Wd F H (O ++ P)) : Wd F H O := w.sub (List.sublist_append_left O P)
theorem Wd.right (w : Wd F H (O ++ P)) : Wd F H P := w.sub (List.sublist_append_right O P)
theorem Wd.apart (w : Wd F H (O ++ P)) : ∀ a ∈ P, a ∉ O := fun a h z => (List.nodup_append.mp w.nd).2.2 a z a h rfl
theorem Wd.apart' (w : Wd F H (O ++ P)) : ∀ a ∈ O, a ∉ P := fun a h z => (List.nodup_append.mp w.nd).2.2 a h a z rfl
theorem Wd.perm (w : Wd F H O) (h : O.Perm O2) : Wd F H O2 := ⟨h.nodup_iff.mp w.nd, fun a z => w.nf a (h.symm.subset z), fun a z => w.ls a (h.symm.subset z), w.ft⟩

theorem SqT.stp (w : Wd F H O) (s : Stp F H O F' H' O') {a : Addr} {xs : List V} (h : SqT K H a xs) : SqT K H' a xs := by
  rcases h with (h | ⟨o, h⟩) | h
  · exact .inl (.inl (s.fr a _ h fun z => by obtain ⟨ys, e⟩ := w.ls a z; rw [h] at e; cases e))
  · exact .inl (.inr ⟨o, s.fr a _ h fun z => by obtain ⟨ys, e⟩ := w.ls a z; rw [h] at e; cases e⟩)
  · exact .inr h
theorem RoL.stp (w : Wd F H O) (s : Stp F H O F' H' O') {a : Addr} {xs : List V} (h : RoL K H a xs) : RoL K H' a xs := by
  rcases h with ⟨o, h⟩ | h
  · exact .inl ⟨o, s.fr a _ h fun z => by obtain ⟨ys, e⟩ := w.ls a z; rw [h] at e; cases e⟩
  · exact .inr h
mutual
theorem VR.stp (w : Wd F H O) (s : Stp F H O F' H' O') : ∀ (d : D) (v : V) (P : List Addr), (∀ a ∈ P, a ∉ O) → VR K F H d v P → VR K F' H' d v P
  | .non, v, P, _, h => by simp only [VR] at h ⊢; exact h
  | .bl b, v, P, _, h => by simp only [VR] at h ⊢; exact h
  | .int i, v, P, _, h => by simp only [VR] at h ⊢; exact h
  | .str x, v, P, _, h => by simp only [VR] at h ⊢; exact h
  | .tup l, v, P, hp, h => by
    simp only [VR] at h ⊢
    obtain ⟨a, xs, e, h1, h2⟩ := h
    exact ⟨a, xs, e, SqT.stp w s h1, VRL.stp w s l xs P hp h2⟩
  | .lst l, v, P, hp, h => by
    simp only [VR] at h ⊢
    obtain ⟨a, xs, e, h1, h2, h3, h4⟩ := h
    exact ⟨a, xs, e, s.mo a h1, s.fr a _ h2 fun z => w.nf a z h1, VRL.stp w s l xs [] (fun a z => by cases z) h3, h4⟩
  | .ro l, v, P, hp, h => by
    simp only [VR] at h ⊢
    obtain ⟨a, xs, e, h1, h3, h4⟩ := h
    exact ⟨a, xs, e, RoL.stp w s h1, VRL.stp w s l xs [] (fun a z => by cases z) h3, h4⟩
  | .own l, v, P, hp, h => by
    simp only [VR] at h ⊢
    obtain ⟨a, xs, P', e, h1, h2, h3⟩ := h
    subst h3
    exact ⟨a, xs, P', e, s.fr a _ h1 (hp a List.mem_cons_self), VRL.stp w s l xs P' (fun b z => hp b (List.mem_cons_of_mem _ z)) h2, rfl⟩
theorem VRL.stp (w : Wd F H O) (s : Stp F H O F' H' O') : ∀ (l : List D) (xs : List V) (P : List Addr), (∀ a ∈ P, a ∉ O) → VRL K F H l xs P → VRL K F' H' l xs P
  | [], xs, P, _, h => by simp only [VRL] at h ⊢; exact h
  | d :: l, xs, P, hp, h => by
    simp only [VRL] at h ⊢
    obtain ⟨x, xs', P1, P2, e, h1, h2, h3⟩ := h
    subst h3
    exact ⟨x, xs', P1, P2, e, VR.stp w s d x P1 (fun a z => hp a (List.mem_append_left _ z)) h1, VRL.stp w s l xs' P2 (fun a z => hp a (List.mem_append_right _ z)) h2, rfl⟩
end
/-! frozen data own nothing -/
mutual
theorem VR.fz : ∀ (d : D) (v : V) (P : List Addr), d.fz = true → VR K F H d v P → P = []
  | .non, v, P, _, h => by simp only [VR] at h; exact h.2
  | .bl b, v, P, _, h => by simp only [VR] at h; exact h.2
  | .int i, v, P, _, h => by simp only [VR] at h; exact h.2
  | .str x, v, P, _, h => by simp only [VR] at h; exact h.2
  | .tup l, v, P, hf, h => by
    simp only [VR] at h
    obtain ⟨a, xs, e, h1, h2⟩ := h
    exact VRL.fz l xs P (by simpa [D.fz] using hf) h2
  | .lst l, v, P, _, h => by simp only [VR] at h; obtain ⟨a, xs, e, h1, h2, h3, h4⟩ := h; exact h4
  | .ro l, v, P, _, h => by simp only [VR] at h; obtain ⟨a, xs, e, h1, h3, h4⟩ := h; exact h4
  | .own l, v, P, hf, _ => by simp [D.fz] at hf
theorem VRL.fz : ∀ (l : List D) (xs : List V) (P : List Addr), fzL l = true → VRL K F H l xs P → P = []
  | [], xs, P, _, h => by simp only [VRL] at h; exact h.2
  | d :: l, xs, P, hf, h => by
    simp only [VRL] at h
    obtain ⟨x, xs', P1, P2, e, h1, h2, h3⟩ := h
    simp only [fzL, Bool.and_eq_true] at hf
    rw [h3, VR.fz d x P1 hf.1 h1, VRL.fz l xs' P2 hf.2 h2]
    rfl
end
theorem VRL.length : ∀ (l : List D) (xs : List V) (P : List Addr), VRL K F H l xs P → xs.length = l.length
  | [], xs, P, h => by simp only [VRL] at h; rw [h.1]; rfl
  | d :: l, xs, P, h => by
    simp only [VRL] at h
    obtain ⟨x, xs', P1, P2, e, h1, h2, h3⟩ := h
    rw [e, List.length_cons, List.length_cons, VRL.length l xs' P2 h2]
theorem VRL.get : ∀ {l : List D} {xs : List V} {P : List Addr} {i : Nat} {d : D}, VRL K F H l xs P → l[i]? = some d → ∃ x Px, xs[i]? = some x ∧ VR K F H d x Px ∧ Px.Sublist P
  | [], xs, P, i, d, h, e => by simp at e
  | d0 :: l, xs, P, 0, d, h, e => by
    simp only [VRL] at h
    obtain ⟨x, xs', P1, P2, e1, h1, h2, h3⟩ := h
    simp at e
    subst e
    exact ⟨x, P1, by rw [e1]; rfl, h1, by rw [h3]; exact List.sublist_append_left _ _⟩
  | d0 :: l, xs, P, i + 1, d, h, e => by
    simp only [VRL] at h
    obtain ⟨x, xs', P1, P2, e1, h1, h2, h3⟩ := h
    obtain ⟨y, Py, q1, q2, q3⟩ := VRL.get (i := i) h2 (by simpa using e)
    exact ⟨y, Py, by rw [e1]; simpa using q1, q2, by rw [h3]; exact q3.trans (List.sublist_append_right _ _)⟩
theorem VRL.app : ∀ {l l2 : List D} {xs ys : List V} {P P2 : List Addr}, VRL K F H l xs P → VRL K F H l2 ys P2 → VRL K F H (l ++ l2) (xs ++ ys) (P ++ P2)
  | [], l2, xs, ys, P, P2, h, h2 => by
    simp only [VRL] at h
    rw [h.1, h.2]
    exact h2
  | d :: l, l2, xs, ys, P, P2, h, h2 => by
    simp only [VRL] at h
    obtain ⟨x, xs', Q1, Q2, e, h1, h3, h4⟩ := h
    show VRL K F H (d :: (l ++ l2)) (xs ++ ys) (P ++ P2)
    simp only [VRL]
    exact ⟨x, xs' ++ ys, Q1, Q2 ++ P2, by rw [e]; rfl, h1, VRL.app h3 h2, by rw [h4, List.append_assoc]⟩
theorem VRL.one {d : D} {v : V} (h : VR K F H d v P) : VRL K F H [d] [v] P := by
  simp only [VRL]
  exact ⟨v, [], P, [], rfl, h, ⟨rfl, rfl⟩, by simp⟩
/-- one item exchanged -/
theorem VRL.set : ∀ {l : List D} {xs : List V} {P Q : List Addr} {i : Nat} {d : D} {v : V}, VRL K F H l xs P → VR K F H d v Q → i < l.length → ∃ P', VRL K F H (l.set i d) (xs.set i v) P' ∧ (∀ a ∈ P', a ∈ P ++ Q) ∧ ∀ R : List Addr, (R ++ (P ++ Q)).Nodup → (R ++ P').Nodup
  | [], xs, P, Q, i, d, v, h, hq, hi => by simp at hi
  | d0 :: l, xs, P, Q, 0, d, v, h, hq, hi => by
    simp only [VRL] at h
    obtain ⟨x, xs', P1, P2, e1, h1, h2, h3⟩ := h
    subst e1 h3
    refine ⟨Q ++ P2, ?_, fun a ha => ?_, fun R hn => ?_⟩
    · show VRL K F H (d :: l) (v :: xs') (Q ++ P2)
      simp only [VRL]
      exact ⟨v, xs', Q, P2, rfl, hq, h2, rfl⟩
    · simp only [List.mem_append] at ha ⊢
      rcases ha with z | z
      · exact .inr z
      · exact .inl (.inr z)
    · have e : (R ++ ((P1 ++ P2) ++ Q)).Perm (R ++ (P1 ++ (Q ++ P2))) := by
        apply List.Perm.append_left
        rw [List.append_assoc]
        exact List.Perm.append_left _ List.perm_append_comm
      have hn2 := e.nodup_iff.mp hn
      exact (List.Sublist.append_left (List.sublist_append_right P1 (Q ++ P2)) R).nodup hn2
  | d0 :: l, xs, P, Q, i + 1, d, v, h, hq, hi => by
    simp only [VRL] at h
    obtain ⟨x, xs', P1, P2, e1, h1, h2, h3⟩ := h
    subst e1 h3
    obtain ⟨P', q1, q0, q2⟩ := VRL.set (i := i) h2 hq (by simpa using hi)
    refine ⟨P1 ++ P', ?_, fun a ha => ?_, fun R hn => ?_⟩
    · show VRL K F H (d0 :: l.set i d) (x :: xs'.set i v) (P1 ++ P')
      simp only [VRL]
      exact ⟨x, _, P1, P', rfl, h1, q1, rfl⟩
    · rcases List.mem_append.mp ha with z | z
      · simp [z]
      · have := q0 a z
        simp only [List.mem_append] at this ⊢
        rcases this with z | z
        · exact .inl (.inr z)
        · exact .inr z
    · have r1 := q2 (R ++ P1) (by rw [List.append_assoc, ← List.append_assoc P1]; exact hn)
      rw [← List.append_assoc]
      exact r1
end
end Co

set_option maxRecDepth 100000
/-! Core3: slots, results, readings from the evaluator -/
namespace Co
open PySem PySem.Spec PyProof.Rows L2

section
variable {K : PySem.W.Frag} {F F' F2 : Addr → Prop} {H H' H2 : Hp} {O O' O2 P P' : List Addr} {ρ ρ' : Env} {σ σ' : L2.St}
theorem S1.stp (w : Wd F H O) (s : Stp F H O F' H' O') {sl : Sl} {ov : Option V} (hp : ∀ a ∈ P, a ∉ O) (h : S1 K F H sl ov P) : S1 K F' H' sl ov P := by
  cases sl with
  | no => exact h
  | v d => obtain ⟨v, e, h⟩ := h; exact ⟨v, e, VR.stp w s d v P hp h⟩
  | bo d => obtain ⟨v, e, h⟩ := h; exact ⟨v, e, VR.stp w s d v P hp h⟩
  | lk d => obtain ⟨v, e, h⟩ := h; exact ⟨v, e, VR.stp w s d v P hp h⟩
theorem SR.stp (w : Wd F H O) (s : Stp F H O F' H' O') : ∀ {ρ : Env} {σ : List (Option V)} {P : List Addr}, (∀ a ∈ P, a ∉ O) → SR K F H ρ σ P → SR K F' H' ρ σ P
  | [], _, _, _, h => h
  | sl :: ρ, σ, P, hp, h => by
    obtain ⟨ov, σ', O1, O2, e, h1, h2, e2⟩ := h
    subst e2
    exact ⟨ov, σ', O1, O2, e, S1.stp w s (fun a z => hp a (List.mem_append_left _ z)) h1, SR.stp w s (fun a z => hp a (List.mem_append_right _ z)) h2, rfl⟩
theorem SR.length : ∀ {ρ : Env} {σ : List (Option V)} {O : List Addr}, SR K F H ρ σ O → σ.length = ρ.length
  | [], _, _, h => by rw [h.1]; rfl
  | sl :: ρ, σ, O, h => by
    obtain ⟨ov, σ', O1, O2, e, h1, h2, e2⟩ := h
    rw [e, List.length_cons, List.length_cons, SR.length h2]
/-- a slot's content taken out -/
theorem SR.take : ∀ {ρ : Env} {σ : List (Option V)} {O : List Addr} {i : Nat} {s : Sl}, SR K F H ρ σ O → ρ[i]? = some s →
    ∃ ov P O', σ[i]? = some ov ∧ S1 K F H s ov P ∧ SR K F H (ρ.set i .no) σ O' ∧ O.Perm (O' ++ P)
  | [], _, _, _, _, _, e => by simp at e
  | sl :: ρ, σ, O, 0, s, h, e => by
    obtain ⟨ov, σ', O1, O2, e1, h1, h2, e2⟩ := h
    simp at e
    subst e
    exact ⟨ov, O1, O2, by rw [e1]; rfl, h1, ⟨ov, σ', [], O2, e1, rfl, h2, rfl⟩, by rw [e2]; exact List.perm_append_comm⟩
  | sl :: ρ, σ, O, i + 1, s, h, e => by
    obtain ⟨ov, σ', O1, O2, e1, h1, h2, e2⟩ := h
    obtain ⟨ov', P, O', q1, q2, q3, q4⟩ := SR.take (i := i) h2 (by simpa using e)
    refine ⟨ov', P, O1 ++ O', by rw [e1]; simpa using q1, q2, ⟨ov, σ', O1, O', e1, h1, q3, rfl⟩, ?_⟩
    rw [e2, List.append_assoc]
    exact q4.append_left O1
/-- .. put in -/
theorem SR.put : ∀ {ρ : Env} {σ : List (Option V)} {O : List Addr} {i : Nat} {s : Sl} {ov : Option V} {P : List Addr}, SR K F H ρ σ O → ρ[i]? = some .no → S1 K F H s ov P →
    ∃ O', SR K F H (ρ.set i s) (σ.set i ov) O' ∧ O'.Perm (O ++ P)
  | [], _, _, _, _, _, _, _, e, _ => by simp at e
  | sl :: ρ, σ, O, 0, s, ov, P, h, e, hs => by
    obtain ⟨ov0, σ', O1, O2, e1, h1, h2, e2⟩ := h
    simp at e
    subst e
    have z : O1 = [] := h1
    subst z
    exact ⟨P ++ O2, ⟨ov, σ', P, O2, by rw [e1]; rfl, hs, h2, rfl⟩, by rw [e2]; exact List.perm_append_comm⟩
  | sl :: ρ, σ, O, i + 1, s, ov, P, h, e, hs => by
    obtain ⟨ov0, σ', O1, O2, e1, h1, h2, e2⟩ := h
    obtain ⟨O', q1, q2⟩ := SR.put (i := i) h2 (by simpa using e) hs
    refine ⟨O1 ++ O', ⟨ov0, σ'.set i ov, O1, O', by rw [e1]; rfl, h1, q1, rfl⟩, ?_⟩
    rw [e2, List.append_assoc]
    exact q2.append_left O1
theorem set_same {α : Type} : ∀ {l : List α} {i : Nat} {x : α}, l[i]? = some x → l.set i x = l
  | [], _, _, e => by simp at e
  | y :: l, 0, x, e => by simp at e; subst e; rfl
  | y :: l, i + 1, x, e => by
    show y :: l.set i x = y :: l
    rw [set_same (by simpa using e)]
theorem set_set {α : Type} (l : List α) (i : Nat) (x y : α) : (l.set i x).set i y = l.set i y := List.set_set ..
theorem get_set_same {α : Type} {l : List α} {i : Nat} {x y : α} (h : l[i]? = some y) : (l.set i x)[i]? = some x := by
  have : i < l.length := (List.getElem?_eq_some_iff.mp h).1
  rw [List.getElem?_set_self this]

/-- flavours are kept -/
structure Kp (ρ ρ' : Env) : Prop where
  len : ρ'.length = ρ.length
  bo : ∀ (i : Nat) (d : D), ρ[i]? = some (Sl.bo d) → ∃ d' : D, ρ'[i]? = some (Sl.bo d')
  lk : ∀ (i : Nat) (d : D), ρ[i]? = some (Sl.lk d) → ρ'[i]? = some (Sl.lk d)
theorem Kp.refl : Kp ρ ρ := ⟨rfl, fun _ d h => ⟨d, h⟩, fun _ _ h => h⟩
theorem Kp.trans {ρ2 : Env} (a : Kp ρ ρ') (b : Kp ρ' ρ2) : Kp ρ ρ2 := ⟨b.len.trans a.len, fun i d h => let ⟨d', e⟩ := a.bo i d h; b.bo i d' e, fun i d h => b.lk i d (a.lk i d h)⟩
theorem Kp.set {i : Nat} {s s' : Sl} (h : ρ[i]? = some s) (hb : ∀ d, s = .bo d → ∃ d', s' = .bo d') (hl : ∀ d, s = .lk d → s' = .lk d) : Kp ρ (ρ.set i s') := by
  refine ⟨List.length_set .., fun j d e => ?_, fun j d e => ?_⟩
  · by_cases hj : i = j
    · subst hj
      rw [h] at e
      obtain ⟨d', q⟩ := hb d (Option.some.inj e)
      exact ⟨d', by rw [get_set_same h, q]⟩
    · exact ⟨d, by rw [List.getElem?_set_ne hj]; exact e⟩
  · by_cases hj : i = j
    · subst hj
      rw [h] at e
      rw [get_set_same h, hl d (Option.some.inj e)]
    · rw [List.getElem?_set_ne hj]; exact e
/-- pinned slots stand -/
def Pin (ρ : Env) (i : Nat) : Prop := (∃ d, ρ[i]? = some (Sl.bo d)) ∨ ∃ d, ρ[i]? = some (Sl.lk d)
def Ks (ρ : Env) (σ σ' : List (Option V)) : Prop := ∀ i, Pin ρ i → σ'[i]? = σ[i]?
theorem Kp.pin (k : Kp ρ ρ') {i : Nat} (h : Pin ρ i) : Pin ρ' i := by
  rcases h with ⟨d, h⟩ | ⟨d, h⟩
  · obtain ⟨d', e⟩ := k.bo i d h; exact .inl ⟨d', e⟩
  · exact .inr ⟨d, k.lk i d h⟩
theorem Ks.refl : Ks ρ σ σ := fun _ _ => rfl
theorem Ks.trans {σ2 : L2.St} (k : Kp ρ ρ') (a : Ks ρ σ σ') (b : Ks ρ' σ' σ2) : Ks ρ σ σ2 := fun i h => (b i (k.pin h)).trans (a i h)

/-- what a target names -/
def tgts : C → List Nat
  | .tnm i => [i]
  | .ttup ts => tgts ts
  | .cons a r => tgts a ++ tgts r
  | _ => []
/-- slots but those of L stand -/
structure Ag (L : List Nat) (σ σ' : List (Option V)) : Prop where
  len : σ'.length = σ.length
  at_ : ∀ j, j ∉ L → σ'[j]? = σ[j]?
theorem Ag.refl {L : List Nat} : Ag L σ σ := ⟨rfl, fun _ _ => rfl⟩
/-- results -/
def RR (K : PySem.W.Frag) (F : Addr → Prop) (H : Hp) (σ : L2.St) : R → V → List Addr → Prop
  | .d d, v, P => VR K F H d v P
  | .pl i, v, P => σ[i]? = some (some v) ∧ P = []
def RRL (K : PySem.W.Frag) (F : Addr → Prop) (H : Hp) (σ : L2.St) : List R → List V → List Addr → Prop
  | [], xs, P => xs = [] ∧ P = []
  | r :: rs, xs, P => ∃ x xs' P1 P2, xs = x :: xs' ∧ RR K F H σ r x P1 ∧ RRL K F H σ rs xs' P2 ∧ P = P1 ++ P2
theorem RR.stp (w : Wd F H O) (s : Stp F H O F' H' O') {r : R} {v : V} (hp : ∀ a ∈ P, a ∉ O) (h : RR K F H σ r v P) : RR K F' H' σ r v P := by
  cases r with
  | d d => exact VR.stp w s d v P hp h
  | pl i => exact h
/-- the two parts of what is owned -/
theorem Wd.join (w1 : Wd F H (O ++ P)) (s : Stp F H O F' H' O') (w2 : Wd F' H' O') : Wd F' H' (O' ++ P) := by
  have dis : ∀ a ∈ P, a ∉ O' := fun a ha hb => by
    rcases s.ow a hb with z | z
    · exact w1.apart a ha z
    · obtain ⟨xs, e⟩ := w1.ls a (List.mem_append_right _ ha)
      rw [e] at z; cases z
  have keep : ∀ a ∈ P, ∃ xs, H' a = some (.lst xs) := fun a ha => by
    obtain ⟨xs, e⟩ := w1.ls a (List.mem_append_right _ ha)
    exact ⟨xs, s.fr a _ e (w1.apart a ha)⟩
  refine ⟨List.nodup_append.mpr ⟨w2.nd, w1.right.nd, fun a ha b hb e => dis b hb (e ▸ ha)⟩, fun a ha => ?_, fun a ha => ?_, w2.ft⟩
  · rcases List.mem_append.mp ha with z | z
    · exact w2.nf a z
    · intro q
      rcases s.nw a q with y | y | y
      · exact w1.nf a (List.mem_append_right _ z) y
      · exact w1.apart a z y
      · obtain ⟨xs, e⟩ := w1.ls a (List.mem_append_right _ z)
        rw [e] at y; cases y
  · rcases List.mem_append.mp ha with z | z
    · exact w2.ls a z
    · exact keep a z
theorem perm3 {A B C' : List Addr} : ((A ++ B) ++ C').Perm (A ++ (C' ++ B)) := by
  rw [List.append_assoc]
  exact List.Perm.append_left A List.perm_append_comm
/-- a step, then a second one beside what the first has made -/
theorem Stp.two {O1 P1 P2 : List Addr} {F1 : Addr → Prop} {H1 : Hp} (a : Stp F H O F1 H1 (O1 ++ P1)) (b : Stp F1 H1 O1 F2 H2 (O2 ++ P2)) : Stp F H O F2 H2 (O2 ++ (P1 ++ P2)) :=
  (a.trans b.more).sub fun x hx => perm3.symm.subset hx
theorem Wd.two {O1 P1 P2 : List Addr} {F1 : Addr → Prop} {H1 : Hp} (w1 : Wd F1 H1 (O1 ++ P1)) (b : Stp F1 H1 O1 F2 H2 (O2 ++ P2)) (w2 : Wd F2 H2 (O2 ++ P2)) : Wd F2 H2 (O2 ++ (P1 ++ P2)) :=
  (w1.join b w2).perm perm3
/-- something new, nothing changed -/
theorem fin_new {P3 : List Addr} {H3 : Hp} {ρ2 : Env} (w : Wd F2 H2 O2) (sr : SR K F2 H2 ρ2 σ O2) (s : Stp F2 H2 [] F2 H3 P3) (w3 : Wd F2 H3 P3) :
    SR K F2 H3 ρ2 σ O2 ∧ Wd F2 H3 (O2 ++ P3) ∧ Stp F2 H2 O2 F2 H3 (O2 ++ P3) := by
  have w0 : Wd F2 H2 ([] ++ O2) := w
  have j := w0.join s w3
  refine ⟨SR.stp (O := []) (O' := P3) ⟨List.nodup_nil, fun _ z => (nomatch z), fun _ z => (nomatch z), w.ft⟩ s (fun _ _ z => (nomatch z)) sr, j.perm List.perm_append_comm, ?_⟩
  have m := s.more (P := O2)
  exact m.sub fun x hx => List.perm_append_comm.subset hx
end

/-! ### readings from the evaluator -/
section
variable (K : PySem.W.Frag) (Φ : Nat → List Sl → Option (D × List Sl)) (wf : Nat)
def tE (c : C) : TE := fun σ H Q => ∃ F ρ O r ρ', SR K F H ρ σ O ∧ Wd F H O ∧ evE Φ wf c ρ = some (r, ρ') ∧
  ∀ v F' H' O' P, Stp F H O F' H' (O' ++ P) → SR K F' H' ρ' σ O' → RR K F' H' σ r v P → Wd F' H' (O' ++ P) → Kp ρ ρ' → Q v H'
def tA (c : C) : TA := fun σ H Q => ∃ F ρ O rs ρ', SR K F H ρ σ O ∧ Wd F H O ∧ evA Φ wf c ρ = some (rs, ρ') ∧
  ∀ vs F' H' O' P, Stp F H O F' H' (O' ++ P) → SR K F' H' ρ' σ O' → RRL K F' H' σ rs vs P → Wd F' H' (O' ++ P) → Kp ρ ρ' → Q vs H'
def tT (c : C) : TT := fun σ H Q => ∃ F ρ O b ρ', SR K F H ρ σ O ∧ Wd F H O ∧ evT Φ wf c ρ = some (b, ρ') ∧
  ∀ F' H' O', Stp F H O F' H' O' → SR K F' H' ρ' σ O' → Wd F' H' O' → Kp ρ ρ' → Q b H'
def tO (c : C) : L2.TO := fun σ H Q => ∃ F ρ O o ρ', SR K F H ρ σ O ∧ Wd F H O ∧ evO Φ wf c ρ = some (o, ρ') ∧
  ∀ F' H' O', Stp F H O F' H' O' → SR K F' H' ρ' σ O' → Wd F' H' O' → Kp ρ ρ' → Q o H'
/-- behind a statement -/
def Post (ρ : Env) (F : Addr → Prop) (H : Hp) (O : List Addr) (σ : L2.St) (D : Ends) : Out → Prop
  | .nx ρ' => ∀ σ' F' H' O', Stp F H O F' H' O' → SR K F' H' ρ' σ' O' → Wd F' H' O' → Kp ρ ρ' → Ks ρ σ σ' → D.nx σ' H'
  | .bk ρ' => ∀ σ' F' H' O', Stp F H O F' H' O' → SR K F' H' ρ' σ' O' → Wd F' H' O' → Kp ρ ρ' → Ks ρ σ σ' → D.bk σ' H'
  | .ct ρ' => ∀ σ' F' H' O', Stp F H O F' H' O' → SR K F' H' ρ' σ' O' → Wd F' H' O' → Kp ρ ρ' → Ks ρ σ σ' → D.ct σ' H'
  | .rt d ρ' => ∀ σ' v F' H' O' P, Stp F H O F' H' (O' ++ P) → SR K F' H' ρ' σ' O' → VR K F' H' d v P → Wd F' H' (O' ++ P) → Kp ρ ρ' → Ks ρ σ σ' → D.rt v H'
def tS (c : C) : TS := fun D σ H => ∃ F ρ O o, SR K F H ρ σ O ∧ Wd F H O ∧ evS Φ wf c ρ = some o ∧ Post K ρ F H O σ D o
def tBk (c : C) : TS := fun D σ H => ∃ F ρ O o, SR K F H ρ σ O ∧ Wd F H O ∧ evB Φ wf c ρ = some o ∧ Post K ρ F H O σ D o
/-- a target: the value beside the slots -/
def tG (c : C) : TG := fun v σ H Q => ∃ F ρ O P d ρ', SR K F H ρ σ O ∧ VR K F H d v P ∧ Wd F H (O ++ P) ∧ evG Φ wf c d ρ = some ρ' ∧
  ∀ σ' F' H' O', Stp F H (O ++ P) F' H' O' → SR K F' H' ρ' σ' O' → Wd F' H' O' → Kp ρ ρ' → Ks ρ σ σ' → Ag (tgts c) σ σ' → Q σ' H'
def tGs (c : C) : TGs := fun vs σ H Q => ∃ F ρ O P ds ρ', SR K F H ρ σ O ∧ VRL K F H ds vs P ∧ Wd F H (O ++ P) ∧ evGs Φ wf c ds ρ = some ρ' ∧
  ∀ σ' F' H' O', Stp F H (O ++ P) F' H' O' → SR K F' H' ρ' σ' O' → Wd F' H' O' → Kp ρ ρ' → Ks ρ σ σ' → Ag (tgts c) σ σ' → Q σ' H'
end

section
variable {X : Cx} {Φ : Nat → List Sl → Option (D × List Sl)} {wf : Nat}
theorem PE.weak {e : Expr} {t u : TE} (h : PE X e t) (w : ∀ σ H Q, u σ H Q → t σ H Q) : PE X e u := ⟨fun pins s σ H Q I q => h.run pins s σ H Q I (w σ H Q q)⟩
theorem PT.weak {e : Expr} {t u : TT} (h : PT X e t) (w : ∀ σ H Q, u σ H Q → t σ H Q) : PT X e u := ⟨fun pins s σ H Q I q => h.run pins s σ H Q I (w σ H Q q)⟩
theorem PW.weak {e : Expr} {t u : TT} (h : PW X e t) (w : ∀ σ H Q, u σ H Q → t σ H Q) : PW X e u := ⟨fun wh pins s σ H Q I q => h.run wh pins s σ H Q I (w σ H Q q)⟩
theorem PA.weak {e : List Expr} {t u : TA} (h : PA X e t) (w : ∀ σ H Q, u σ H Q → t σ H Q) : PA X e u := ⟨fun pos pins s σ H Q I q => h.run pos pins s σ H Q I (w σ H Q q)⟩
theorem PS.weak {e : Stmt} {t u : TS} (h : PS X e t) (w : ∀ D σ H, u D σ H → t D σ H) : PS X e u := ⟨fun pins s σ H D I q => h.run pins s σ H D I (w D σ H q)⟩
theorem PSs.weak {e : List Stmt} {t u : TS} (h : PSs X e t) (w : ∀ D σ H, u D σ H → t D σ H) : PSs X e u := ⟨fun pins s σ H D I q => h.run pins s σ H D I (w D σ H q)⟩
theorem PG.weak {e : Expr} {t u : TG} (h : PG X e t) (w : ∀ v σ H Q, u v σ H Q → t v σ H Q) : PG X e u := ⟨fun pins s σ H v us Q I r q => h.run pins s σ H v us Q I r (w v σ H Q q)⟩
theorem PGs.weak {e : List Expr} {t u : TGs} (h : PGs X e t) (w : ∀ v σ H Q, u v σ H Q → t v σ H Q) : PGs X e u := ⟨fun pins s σ H v us Q I r q => h.run pins s σ H v us Q I r (w v σ H Q q)⟩
theorem some_bind {α β : Type} {o : Option α} {f : α → Option β} {b : β} (h : o.bind f = some b) : ∃ a, o = some a ∧ f a = some b := by
  cases o with
  | none => cases h
  | some a => exact ⟨a, rfl, h⟩
/-- two expressions, one behind the other -/
theorem two {ca cb : C} {K : PySem.W.Frag} {F : Addr → Prop} {H : Hp} {O : List Addr} {ρ ρ1 ρ2 : Env} {σ : L2.St} {ra rb : R} {R2 : V → V → Hp → Prop}
    (sr : SR K F H ρ σ O) (wd : Wd F H O) (ea : evE Φ wf ca ρ = some (ra, ρ1)) (eb : evE Φ wf cb ρ1 = some (rb, ρ2))
    (k : ∀ x y F2 H2 O2 Pa Pb, Stp F H O F2 H2 (O2 ++ (Pa ++ Pb)) → SR K F2 H2 ρ2 σ O2 → RR K F2 H2 σ ra x Pa → RR K F2 H2 σ rb y Pb → Wd F2 H2 (O2 ++ (Pa ++ Pb)) → Kp ρ ρ2 → R2 x y H2) :
    tE K Φ wf ca σ H fun x H1 => tE K Φ wf cb σ H1 fun y H2 => R2 x y H2 :=
  ⟨F, ρ, O, ra, ρ1, sr, wd, ea, fun x F1 H1 O1 P1 st1 sr1 rr1 wd1 kp1 => ⟨F1, ρ1, O1, rb, ρ2, sr1, wd1.left, eb, fun y F2 H2 O2 P2 st2 sr2 rr2 wd2 kp2 =>
    k x y F2 H2 O2 P1 P2 (st1.two st2) sr2 (RR.stp wd1.left st2 wd1.apart rr1) rr2 (wd1.two st2 wd2) (kp1.trans kp2)⟩⟩
/-- what is read -/
theorem rd_ok {K : PySem.W.Frag} {F : Addr → Prop} {H : Hp} {O P : List Addr} {ρ : Env} {σ : L2.St} {r : R} {v : V} {d : D} (sr : SR K F H ρ σ O) (h : RR K F H σ r v P) (e : rd ρ r = some d) : ∃ P', VR K F H d v P' := by
  cases r with
  | d d0 => cases e; exact ⟨P, h⟩
  | pl i =>
    obtain ⟨e1, _⟩ := h
    have e : (ρ[i]?).bind Sl.cont = some d := e
    obtain ⟨s, e2, e3⟩ := some_bind e
    obtain ⟨ov, P', O', q1, q2, _, _⟩ := SR.take sr e2
    rw [e1] at q1
    cases s with
    | no => cases e3
    | v d1 => cases e3; obtain ⟨w, z, q⟩ := q2; cases q1; cases z; exact ⟨P', q⟩
    | bo d1 => cases e3; obtain ⟨w, z, q⟩ := q2; cases q1; cases z; exact ⟨P', q⟩
    | lk d1 => cases e3; obtain ⟨w, z, q⟩ := q2; cases q1; cases z; exact ⟨P', q⟩
theorem rds_ok {K : PySem.W.Frag} {F : Addr → Prop} {H : Hp} {O : List Addr} {ρ : Env} {σ : L2.St} (sr : SR K F H ρ σ O) : ∀ {rs : List R} {vs : List V} {P : List Addr} {ds : List D}, RRL K F H σ rs vs P → rds ρ rs = some ds → ∃ P', VRL K F H ds vs P'
  | [], vs, P, ds, h, e => by cases e; exact ⟨[], by unfold VRL; exact ⟨h.1, rfl⟩⟩
  | r :: rs, vs, P, ds, h, e => by
    obtain ⟨x, xs', P1, P2, e1, h1, h2, h3⟩ := h
    obtain ⟨d, q1, q2⟩ := some_bind (show (rd ρ r).bind _ = some ds from e)
    cases hh : rds ρ rs with
    | none => rw [hh] at q2; cases q2
    | some dt =>
      rw [hh] at q2
      cases q2
      obtain ⟨Pa, ha⟩ := rd_ok sr h1 q1
      obtain ⟨Pb, hb⟩ := rds_ok sr h2 hh
      exact ⟨Pa ++ Pb, by simp only [VRL]; exact ⟨x, xs', Pa, Pb, e1, ha, hb, rfl⟩⟩
theorem vals_ok {K : PySem.W.Frag} {F : Addr → Prop} {H : Hp} {σ : L2.St} : ∀ {rs : List R} {vs : List V} {P : List Addr} {ds : List D}, RRL K F H σ rs vs P → vals rs = some ds → VRL K F H ds vs P
  | [], vs, P, ds, h, e => by cases e; simp only [VRL]; exact h
  | .pl i :: rs, vs, P, ds, h, e => by cases e
  | .d d :: rs, vs, P, ds, h, e => by
    obtain ⟨x, xs', P1, P2, e1, h1, h2, h3⟩ := h
    cases hh : vals rs with
    | none => rw [show vals (.d d :: rs) = (vals rs).map (d :: ·) from rfl, hh] at e; cases e
    | some dt =>
      rw [show vals (.d d :: rs) = (vals rs).map (d :: ·) from rfl, hh] at e
      cases e
      simp only [VRL]
      exact ⟨x, xs', P1, P2, e1, h1, vals_ok h2 hh, h3⟩
end
end Co

set_option maxRecDepth 100000
set_option maxHeartbeats 1000000
/-! Core4: operations on values -/
namespace Co
open PySem PySem.Spec PyProof.Rows L2

theorem lim_eq : lim = sizeLine := by rw [sizeLine_eq]; rfl
section
variable {K : PySem.W.Frag} {F : Addr → Prop} {H : Hp} {O P : List Addr} {p : Addr} {xs : List V} {l : List D}
theorem wd_nil (h : ∀ a, F a → ∃ xs, H a = some (.lst xs)) : Wd F H [] := ⟨List.nodup_nil, fun _ z => (nomatch z), fun _ z => (nomatch z), h⟩
theorem stp_new {o : HO} (hp : H p = none) : Stp F H [] F (upd H p o) [p] :=
  ⟨fun a u e _ => by rw [upd_ne (ne_of_none e hp)]; exact e, fun _ h => h, fun a ha => by simp at ha; subst ha; exact .inr hp, fun _ h => .inl h⟩
theorem new_lst (w : Wd F H P) (hv : VRL K F H l xs P) (hp : H p = none) :
    Stp F H P F (upd H p (.lst xs)) (p :: P) ∧ VR K F (upd H p (.lst xs)) (.own l) (.ref p) (p :: P) ∧ Wd F (upd H p (.lst xs)) (p :: P) := by
  have s := stp_new (F := F) (o := .lst xs) hp
  have hv2 : VRL K F (upd H p (.lst xs)) l xs P := VRL.stp (wd_nil w.ft) s l xs P (fun _ _ z => (nomatch z)) hv
  refine ⟨(s.more (P := P)), ?_, ?_⟩
  · unfold VR
    exact ⟨p, xs, P, rfl, upd_same, hv2, rfl⟩
  · have j := Wd.join (O := []) (P := P) w s ⟨List.nodup_cons.mpr ⟨by simp, List.nodup_nil⟩, fun a ha => ?_, fun a ha => ?_, fun a ha => ?_⟩
    · exact j
    · simp at ha; subst ha
      intro z
      obtain ⟨ys, e⟩ := w.ft a z
      rw [hp] at e; cases e
    · simp at ha; subst ha
      exact ⟨xs, upd_same⟩
    · obtain ⟨ys, e⟩ := w.ft a ha
      exact ⟨ys, by rw [upd_ne (ne_of_none e hp)]; exact e⟩
theorem new_tup (w : Wd F H P) (hv : VRL K F H l xs P) (hp : H p = none) :
    Stp F H P F (upd H p (.tup xs)) P ∧ VR K F (upd H p (.tup xs)) (.tup l) (.ref p) P ∧ Wd F (upd H p (.tup xs)) P := by
  have s : Stp F H P F (upd H p (.tup xs)) P := ⟨fun a u e _ => by rw [upd_ne (ne_of_none e hp)]; exact e, fun _ h => h, fun a ha => .inl ha, fun _ h => .inl h⟩
  have s0 : Stp F H [] F (upd H p (.tup xs)) [p] := stp_new hp
  have hv2 : VRL K F (upd H p (.tup xs)) l xs P := VRL.stp (wd_nil w.ft) s0 l xs P (fun _ _ z => (nomatch z)) hv
  refine ⟨s, ?_, ⟨w.nd, w.nf, fun a ha => ?_, fun a ha => ?_⟩⟩
  · unfold VR
    exact ⟨p, xs, rfl, SqT.of upd_same, hv2⟩
  · obtain ⟨ys, e⟩ := w.ls a ha
    exact ⟨ys, by rw [upd_ne (ne_of_none e hp)]; exact e⟩
  · obtain ⟨ys, e⟩ := w.ft a ha
    exact ⟨ys, by rw [upd_ne (ne_of_none e hp)]; exact e⟩
theorem VR.seq {d : D} {v : V} (h : VR K F H d v P) (e : d.items = some l) : ∃ a xs P', v = .ref a ∧ (SqL K H a xs ∨ SqT K H a xs) ∧ VRL K F H l xs P' := by
  cases d with
  | tup l0 => cases e; unfold VR at h; obtain ⟨a, xs, q, h1, h2⟩ := h; exact ⟨a, xs, P, q, .inr h1, h2⟩
  | lst l0 => cases e; unfold VR at h; obtain ⟨a, xs, q, h1, h2, h3, h4⟩ := h; exact ⟨a, xs, [], q, .inl (SqL.of h2), h3⟩
  | ro l0 => cases e; unfold VR at h; obtain ⟨a, xs, q, h1, h3, h4⟩ := h; exact ⟨a, xs, [], q, .inl h1.sq, h3⟩
  | own l0 => cases e; unfold VR at h; obtain ⟨a, xs, P', q, h1, h2, h3⟩ := h; exact ⟨a, xs, P', q, .inl (SqL.of h1), h2⟩
  | _ => cases e
theorem VR.lstAt {d : D} {v : V} (h : VR K F H d v P) (e : d.isL = some l) : ∃ a xs P', v = .ref a ∧ H a = some (.lst xs) ∧ VRL K F H l xs P' := by
  cases d with
  | lst l0 => cases e; unfold VR at h; obtain ⟨a, xs, q, h1, h2, h3, h4⟩ := h; exact ⟨a, xs, [], q, h2, h3⟩
  | own l0 => cases e; unfold VR at h; obtain ⟨a, xs, P', q, h1, h2, h3⟩ := h; exact ⟨a, xs, P', q, h1, h2⟩
  | _ => cases e
end

/-- what is wanted of an operation's value -/
def Get (K : PySem.W.Frag) (F : Addr → Prop) (H : Hp) (z : D) (Q : VK) : Prop := ∀ v H' P, Stp F H [] F H' P → VR K F H' z v P → Wd F H' P → Q v H'
def Fl (F : Addr → Prop) (H : Hp) : Prop := ∀ a, F a → ∃ xs, H a = some (.lst xs)
section
variable {K : PySem.W.Frag} {F : Addr → Prop} {H : Hp} {Q : VK}
theorem Get.int {i : Int} (g : Get K F H (.int i) Q) (f : Fl F H) : Q (.int i) H := g _ H [] Stp.refl (by unfold VR; exact ⟨rfl, rfl⟩) (wd_nil f)
theorem Get.bl {i : Bool} (g : Get K F H (.bl i) Q) (f : Fl F H) : Q (.bl i) H := g _ H [] Stp.refl (by unfold VR; exact ⟨rfl, rfl⟩) (wd_nil f)
theorem Get.str {i : Str} (g : Get K F H (.str i) Q) (f : Fl F H) : Q (.str i) H := g _ H [] Stp.refl (by unfold VR; exact ⟨rfl, rfl⟩) (wd_nil f)
theorem Get.non (g : Get K F H .non Q) (f : Fl F H) : Q .non H := g _ H [] Stp.refl (by unfold VR; exact ⟨rfl, rfl⟩) (wd_nil f)
theorem Get.own {l : List D} {xs : List V} {p : Addr} (g : Get K F H (.own l) Q) (f : Fl F H) (h : VRL K F H l xs []) (hp : H p = none) : Q (.ref p) (upd H p (.lst xs)) := by
  obtain ⟨a, b, c⟩ := new_lst (wd_nil f) h hp
  exact g _ _ _ a b c
theorem Get.tup {l : List D} {xs : List V} {p : Addr} (g : Get K F H (.tup l) Q) (f : Fl F H) (h : VRL K F H l xs []) (hp : H p = none) : Q (.ref p) (upd H p (.tup xs)) := by
  obtain ⟨a, b, c⟩ := new_tup (wd_nil f) h hp
  exact g _ _ _ a b c
/-- something that stood there -/
theorem Get.old {z : D} {v : V} {P : List Addr} (g : Get K F H z Q) (f : Fl F H) (hz : z.fz = true) (h : VR K F H z v P) : Q v H := by
  have e := VR.fz z v P hz h
  subst e
  exact g _ H [] Stp.refl h (wd_nil f)
end

theorem fz_app : ∀ {a b : List D}, fzL a = true → fzL b = true → fzL (a ++ b) = true
  | [], _, _, h => h
  | d :: a, b, h1, h2 => by
    simp only [fzL, Bool.and_eq_true] at h1
    show (d.fz && fzL (a ++ b)) = true
    rw [h1.1, fz_app h1.2 h2]
    rfl
theorem fz_get : ∀ {l : List D} {i : Nat} {d : D}, fzL l = true → l[i]? = some d → d.fz = true
  | [], _, _, _, e => by simp at e
  | x :: l, 0, d, h, e => by
    simp only [fzL, Bool.and_eq_true] at h
    simp at e
    subst e
    exact h.1
  | x :: l, i + 1, d, h, e => by
    simp only [fzL, Bool.and_eq_true] at h
    exact fz_get (i := i) h.2 (by simpa using e)
/-! ### operators -/
def rBin (K : PySem.W.Frag) (o : Operator) : L2.R2 := fun x y H Q => ∃ F d1 d2 P1 P2 z, Fl F H ∧ VR K F H d1 x P1 ∧ VR K F H d2 y P2 ∧ binD o d1 d2 = some z ∧ Get K F H z Q
section
variable {X : Cx}
theorem vr_i {K : PySem.W.Frag} {F : Addr → Prop} {H : Hp} {i : Int} {x : V} {P : List Addr} (h : VR K F H (.int i) x P) : x = .int i := by unfold VR at h; exact h.1
theorem vr_s {K : PySem.W.Frag} {F : Addr → Prop} {H : Hp} {i : Str} {x : V} {P : List Addr} (h : VR K F H (.str i) x P) : x = .str i := by unfold VR at h; exact h.1
theorem vr_b {K : PySem.W.Frag} {F : Addr → Prop} {H : Hp} {i : Bool} {x : V} {P : List Addr} (h : VR K F H (.bl i) x P) : x = .bl i := by unfold VR at h; exact h.1
theorem vr_n {K : PySem.W.Frag} {F : Addr → Prop} {H : Hp} {x : V} {P : List Addr} (h : VR K F H .non x P) : x = .non := by unfold VR at h; exact h.1
theorem and3 {a b : Bool} {c : Prop} [Decidable c] (h : (a && b && decide c) = true) : a = true ∧ b = true ∧ c := by
  simp only [Bool.and_eq_true, decide_eq_true_eq] at h
  exact ⟨h.1.1, h.1.2, h.2⟩
theorem cat_ok {K : PySem.W.Frag} {F : Addr → Prop} {H : Hp} {Q : VK} {d1 d2 : D} {a b : List D} {x y : V} {P1 P2 : List Addr} {z : D} (f : Fl F H) (h1 : VR K F H d1 x P1) (h2 : VR K F H d2 y P2) (e1 : d1.isL = some a) (e2 : d2.isL = some b)
    (hz : (if fzL a && fzL b && decide (a.length + b.length ≤ lim) then some (D.own (a ++ b)) else none) = some z) (g : Get K F H z Q) : rCat x y H Q := by
  split at hz
  · rename_i hc
    obtain ⟨f1, f2, f3⟩ := and3 hc
    cases hz
    obtain ⟨p, xs, Q1, rfl, q1, r1⟩ := h1.lstAt e1
    obtain ⟨p', ys, Q2, rfl, q2, r2⟩ := h2.lstAt e2
    have z1 := VRL.fz a xs Q1 f1 r1
    have z2 := VRL.fz b ys Q2 f2 r2
    subst z1 z2
    refine ⟨p, p', xs, ys, rfl, rfl, q1, q2, ?_, fun p3 hp3 => ?_⟩
    · rw [VRL.length _ _ _ r1, VRL.length _ _ _ r2, ← lim_eq]; exact f3
    · exact g.own f (VRL.app r1 r2) hp3
  · cases hz
theorem op_add_all : OpR X (binaryOp .Add) (rBin X.K .Add) := by
  intro pins s σ H x y v u Q I rx ry h
  obtain ⟨F, d1, d2, P1, P2, z, f, h1, h2, hz, g⟩ := h
  have hz : addD d1 d2 = some z := hz
  unfold addD at hz
  split at hz
  · cases hz
    rw [vr_i h1] at rx; rw [vr_i h2] at ry
    exact op_add pins s σ H _ _ v u Q I rx ry ⟨_, _, rfl, rfl, g.int f⟩
  · split at hz
    · rename_i hl
      cases hz
      rw [vr_s h1] at rx; rw [vr_s h2] at ry
      exact op_add_str pins s σ H _ _ v u Q I rx ry ⟨_, _, rfl, rfl, by rw [← lim_eq]; exact hl, g.str f⟩
    · cases hz
  · exact op_cat pins s σ H _ _ v u Q I rx ry (cat_ok f h1 h2 rfl rfl hz g)
  · exact op_cat pins s σ H _ _ v u Q I rx ry (cat_ok f h1 h2 rfl rfl hz g)
  · exact op_cat pins s σ H _ _ v u Q I rx ry (cat_ok f h1 h2 rfl rfl hz g)
  · exact op_cat pins s σ H _ _ v u Q I rx ry (cat_ok f h1 h2 rfl rfl hz g)
  · split at hz
    · rename_i hc
      obtain ⟨f1, f2, f3⟩ := and3 hc
      cases hz
      unfold VR at h1 h2
      obtain ⟨p, xs, rfl, q1, r1⟩ := h1
      obtain ⟨p', ys, rfl, q2, r2⟩ := h2
      have z1 := VRL.fz _ xs _ f1 r1
      have z2 := VRL.fz _ ys _ f2 r2
      subst z1 z2
      have l1 := VRL.length _ _ _ r1
      have l2 := VRL.length _ _ _ r2
      have rr := VRL.app r1 r2
      have fr : fzL (_ ++ _) = true := fz_app f1 f2
      refine op_catA pins s σ H _ _ v u Q I rx ry ⟨p, p', xs, ys, rfl, rfl, q1, q2, by rw [l1, l2, ← lim_eq]; exact f3, fun e => ?_, fun e1 e2 => ?_, fun e1 e2 p3 hp3 => g.tup f rr hp3⟩
      · refine g.old f (by unfold D.fz; exact fr) (P := []) ?_
        unfold VR
        subst e
        exact ⟨p', ys, rfl, q2, rr⟩
      · refine g.old f (by unfold D.fz; exact fr) (P := []) ?_
        unfold VR
        subst e2
        exact ⟨p, xs, rfl, q1, by simpa using rr⟩
    · cases hz
  · cases hz
theorem op_bin {o : Operator} : OpR X (binaryOp o) (rBin X.K o) := by
  by_cases ho : o = .Add
  · subst ho; exact op_add_all
  intro pins s σ H x y v u Q I rx ry h
  obtain ⟨F, d1, d2, P1, P2, z, f, h1, h2, hz, g⟩ := h
  unfold binD at hz
  split at hz
  · exact absurd rfl ho
  · cases hz
    rw [vr_i h1] at rx; rw [vr_i h2] at ry
    exact op_sub pins s σ H _ _ v u Q I rx ry ⟨_, _, rfl, rfl, g.int f⟩
  · split at hz
    · rename_i hc
      cases hz
      rw [vr_i h1] at rx; rw [vr_i h2] at ry
      exact op_mulW pins s σ H _ _ v u Q I rx ry ⟨_, _, rfl, rfl, hc, g.int f⟩
    · cases hz
  · split at hz
    · rename_i hc
      cases hz
      rw [vr_i h1] at rx; rw [vr_i h2] at ry
      exact op_fdivW pins s σ H _ _ v u Q I rx ry ⟨_, _, rfl, rfl, hc, g.int f⟩
    · cases hz
  · split at hz
    · rename_i hc
      cases hz
      rw [vr_i h1] at rx; rw [vr_i h2] at ry
      exact op_mod pins s σ H _ _ v u Q I rx ry ⟨_, _, rfl, rfl, hc, g.int f⟩
    · cases hz
  · split at hz
    · rename_i hc
      cases hz
      rw [vr_i h1] at rx; rw [vr_i h2] at ry
      exact op_pow pins s σ H _ _ v u Q I rx ry ⟨_, _, rfl, rfl, hc, g.int f⟩
    · cases hz
  · cases hz
    rw [vr_i h1] at rx; rw [vr_i h2] at ry
    exact op_and pins s σ H _ _ v u Q I rx ry ⟨_, _, rfl, rfl, g.int f⟩
  · split at hz
    · rename_i hc
      cases hz
      rw [vr_i h1] at rx; rw [vr_i h2] at ry
      exact op_shr pins s σ H _ _ v u Q I rx ry ⟨_, _, rfl, rfl, hc, g.int f⟩
    · cases hz
  · cases hz

/-! ### comparisons -/
mutual
theorem VR.dp {K : PySem.W.Frag} {F : Addr → Prop} {H : Hp} : ∀ (d : D) (v : V) (P : List Addr), VR K F H d v P → Dp K H v d.py
  | .non, v, P, h => by rw [vr_n h]; exact .non
  | .bl b, v, P, h => by rw [vr_b h]; exact .bl b
  | .int i, v, P, h => by rw [vr_i h]; exact .int i
  | .str x, v, P, h => by rw [vr_s h]; exact .str x
  | .tup l, v, P, h => by
    unfold VR at h
    obtain ⟨a, xs, rfl, h1, h2⟩ := h
    exact .tup h1 (VRL.dp l xs P h2)
  | .lst l, v, P, h => by
    unfold VR at h
    obtain ⟨a, xs, rfl, h1, h2, h3, _⟩ := h
    exact .lst (SqL.of h2) (VRL.dp l xs [] h3)
  | .ro l, v, P, h => by
    unfold VR at h
    obtain ⟨a, xs, rfl, h1, h3, _⟩ := h
    exact .lst h1.sq (VRL.dp l xs [] h3)
  | .own l, v, P, h => by
    unfold VR at h
    obtain ⟨a, xs, P', rfl, h1, h3, _⟩ := h
    exact .lst (SqL.of h1) (VRL.dp l xs P' h3)
theorem VRL.dp {K : PySem.W.Frag} {F : Addr → Prop} {H : Hp} : ∀ (l : List D) (xs : List V) (P : List Addr), VRL K F H l xs P → DpAll K H xs (pyL l)
  | [], xs, P, h => by unfold VRL at h; rw [h.1]; exact .nil
  | d :: l, xs, P, h => by
    unfold VRL at h
    obtain ⟨x, xs', P1, P2, rfl, h1, h2, _⟩ := h
    exact .cons (VR.dp d x P1 h1) (VRL.dp l xs' P2 h2)
end
def rCmp (K : PySem.W.Frag) (o : CmpOp) : L2.R2 := fun x y H Q => ∃ F d1 d2 P1 P2 b, VR K F H d1 x P1 ∧ VR K F H d2 y P2 ∧ cmpD o d1 d2 = some b ∧ Q (.bl b) H
theorem eqD_ok {x y : D} {b : Bool} (h : eqD x y = some b) : SeqAt.shaped x.py = true ∧ SeqAt.shaped y.py = true ∧ PyData.eqv x.py y.py = b := by
  unfold eqD at h
  split at h
  · rename_i hc
    simp only [Bool.and_eq_true] at hc
    cases h
    exact ⟨hc.1, hc.2, rfl⟩
  · cases h
theorem decN {x : V} {K : PySem.W.Frag} {F : Addr → Prop} {H : Hp} {d : D} {P : List Addr} (h : VR K F H d x P) : decide (x = .non) = d.isNon := by
  cases d with
  | non => rw [vr_n h]; rfl
  | bl b => rw [vr_b h]; rfl
  | int b => rw [vr_i h]; rfl
  | str b => rw [vr_s h]; rfl
  | tup l => unfold VR at h; obtain ⟨a, xs, rfl, _⟩ := h; rfl
  | lst l => unfold VR at h; obtain ⟨a, xs, rfl, _⟩ := h; rfl
  | ro l => unfold VR at h; obtain ⟨a, xs, rfl, _⟩ := h; rfl
  | own l => unfold VR at h; obtain ⟨a, xs, P', rfl, _⟩ := h; rfl
theorem flat_V {K : PySem.W.Frag} {F : Addr → Prop} {H : Hp} {d : D} {x : V} {P : List Addr} (h : VR K F H d x P) (e : d.flat = true) : flatV x = true := by
  cases d with
  | non => rw [vr_n h]; rfl
  | bl b => rw [vr_b h]; rfl
  | int b => rw [vr_i h]; rfl
  | str b => rw [vr_s h]; rfl
  | _ => cases e
theorem eqF_V {K : PySem.W.Frag} {F : Addr → Prop} {H : Hp} {d d2 : D} {x y : V} {P P2 : List Addr} (h : VR K F H d x P) (e : d.flat = true) (h2 : VR K F H d2 y P2) (e2 : d2.flat = true) : eqV x y = eqF d d2 := by
  cases d <;> first | (cases e; done) | skip
  all_goals cases d2 <;> first | (cases e2; done) | skip
  all_goals first | rw [vr_n h] | rw [vr_b h] | rw [vr_i h] | rw [vr_s h]
  all_goals first | rw [vr_n h2] | rw [vr_b h2] | rw [vr_i h2] | rw [vr_s h2]
  all_goals rfl
theorem in_flat {K : PySem.W.Frag} {F : Addr → Prop} {H : Hp} {d : D} {x : V} {P : List Addr} (h : VR K F H d x P) (e : d.flat = true) : ∀ {l : List D} {xs : List V} {P2 : List Addr}, VRL K F H l xs P2 → l.all D.flat = true → xs.all flatV = true ∧ inV x xs = l.any fun y => eqF y d
  | [], xs, P2, h2, _ => by unfold VRL at h2; rw [h2.1]; exact ⟨rfl, rfl⟩
  | d2 :: l, xs, P2, h2, e2 => by
    unfold VRL at h2
    obtain ⟨y, xs', Q1, Q2, rfl, q1, q2, _⟩ := h2
    rw [List.all_cons, Bool.and_eq_true] at e2
    obtain ⟨r1, r2⟩ := in_flat h e q2 e2.2
    refine ⟨by rw [List.all_cons, flat_V q1 e2.1, r1]; rfl, ?_⟩
    show ((y :: xs').any fun y => eqV y x) = _
    rw [List.any_cons, List.any_cons, eqF_V q1 e2.1 h e]
    exact congrArg (fun z => eqF d2 d || z) r2
theorem inF_ok {K : PySem.W.Frag} {F : Addr → Prop} {H : Hp} {d : D} {x : V} {P P2 : List Addr} {l : List D} {xs : List V} {b : Bool} (h : VR K F H d x P) (h2 : VRL K F H l xs P2) (e : inF d l = some b) : flatV x = true ∧ xs.all flatV = true ∧ inV x xs = b := by
  unfold inF at e
  split at e
  · rename_i hc
    rw [Bool.and_eq_true] at hc
    cases e
    obtain ⟨r1, r2⟩ := in_flat h hc.1 h2 hc.2
    exact ⟨flat_V h hc.1, r1, r2⟩
  · cases e
theorem inN_ok {K : PySem.W.Frag} {F : Addr → Prop} {H : Hp} {d : D} {x : V} {P P2 : List Addr} {l : List D} {xs : List V} {b : Bool} (h : VR K F H d x P) (h2 : VRL K F H l xs P2) (e : inN d l = some b) :
    (flatV x = true ∧ xs.all flatV = true ∧ inV x xs = b) ∨ (SeqAt.shaped d.py = true ∧ SeqAt.shaped (.list (pyL l)) = true ∧ ((pyL l).any fun z => PyData.eqv z d.py) = b) := by
  unfold inN at e
  split at e
  · rename_i hc
    rw [Bool.and_eq_true] at hc
    cases e
    obtain ⟨r1, r2⟩ := in_flat h hc.1 h2 hc.2
    exact .inl ⟨flat_V h hc.1, r1, r2⟩
  · split at e
    · rename_i hc
      rw [Bool.and_eq_true] at hc
      cases e
      exact .inr ⟨hc.1, hc.2, rfl⟩
    · cases e
theorem op_in_all (hu : X.A.units + 65 < cLine) {neg : Bool} : OpR X (compareOp (if neg then .NotIn else .In)) (fun x y H Q => ∃ F d1 d2 P1 P2 b, VR X.K F H d1 x P1 ∧ VR X.K F H d2 y P2 ∧ inD d1 d2 = some b ∧ Q (.bl (if neg then !b else b)) H) := by
  intro pins s σ H x y v u Q I rx ry h
  obtain ⟨F, d1, d2, P1, P2, b, h1, h2, hz, q⟩ := h
  have lists : ∀ (p : Addr) (xs : List V) (l : List D) (P' : List Addr), y = .ref p → SqL X.K H p xs → VRL X.K F H l xs P' → inN d1 l = some b → wpAny (model X.prog X.w) X.A (compareOp (if neg then .NotIn else .In) v u) (EP X pins σ Q) X.xe s := by
    intro p xs l P' ey hs hl e
    rcases inN_ok h1 hl e with ⟨a1, a2, a3⟩ | ⟨a1, a2, a3⟩
    · cases neg with
      | false => exact op_in_seq pins s σ H x y v u Q I rx ry ⟨p, xs, ey, .inl hs, a1, a2, by simpa [a3] using q⟩
      | true => exact op_notIn_seq pins s σ H x y v u Q I rx ry ⟨p, xs, ey, .inl hs, a1, a2, by simpa [a3] using q⟩
    · subst ey
      cases neg with
      | false => exact op_inD hu pins s σ H x _ v u Q I rx ry ⟨d1.py, pyL l, VR.dp d1 x P1 h1, .lst hs (VRL.dp l xs P' hl), a1, a2, by rw [a3]; exact q⟩
      | true => exact op_notInD hu pins s σ H x _ v u Q I rx ry ⟨d1.py, pyL l, VR.dp d1 x P1 h1, .lst hs (VRL.dp l xs P' hl), a1, a2, by rw [a3]; exact q⟩
  unfold inD at hz
  split at hz
  · unfold VR at h2
    obtain ⟨p, xs, rfl, q1, q2⟩ := h2
    obtain ⟨a1, a2, a3⟩ := inF_ok h1 q2 hz
    cases neg with
    | false => exact op_in_seq pins s σ H x _ v u Q I rx ry ⟨p, xs, rfl, .inr q1, a1, a2, by simpa [a3] using q⟩
    | true => exact op_notIn_seq pins s σ H x _ v u Q I rx ry ⟨p, xs, rfl, .inr q1, a1, a2, by simpa [a3] using q⟩
  · unfold VR at h2; obtain ⟨p, xs, e, q0, q1, q2, _⟩ := h2; exact lists p xs _ _ e (SqL.of q1) q2 hz
  · unfold VR at h2; obtain ⟨p, xs, e, q1, q2, _⟩ := h2; exact lists p xs _ _ e q1.sq q2 hz
  · unfold VR at h2; obtain ⟨p, xs, P', e, q1, q2, _⟩ := h2; exact lists p xs _ _ e (SqL.of q1) q2 hz
  · cases hz
theorem op_cmp (hu : X.A.units + 65 < cLine) {o : CmpOp} : OpR X (compareOp o) (rCmp X.K o) := by
  intro pins s σ H x y v u Q I rx ry h
  obtain ⟨F, d1, d2, P1, P2, b, h1, h2, hz, q⟩ := h
  have ord : ∀ (g : Int → Int → Bool) (op : OpR X (compareOp o) (rI0 fun i j => .bl (g i j))), ordD g d1 d2 = some b → wpAny (model X.prog X.w) X.A (compareOp o v u) (EP X pins σ Q) X.xe s := by
    intro g op e
    unfold ordD at e
    split at e
    · cases e
      rw [vr_i h1] at rx; rw [vr_i h2] at ry
      exact op pins s σ H _ _ v u Q I rx ry ⟨_, _, rfl, rfl, q⟩
    · cases e
  cases o with
  | Eq =>
    obtain ⟨a1, a2, a3⟩ := eqD_ok (show eqD d1 d2 = some b from hz)
    exact op_eqD (by omega) pins s σ H x y v u Q I rx ry ⟨d1.py, d2.py, VR.dp d1 x P1 h1, VR.dp d2 y P2 h2, a1, a2, by rw [a3]; exact q⟩
  | NotEq =>
    have hz : (eqD d1 d2).map not = some b := hz
    cases he : eqD d1 d2 with
    | none => rw [he] at hz; cases hz
    | some c =>
      rw [he] at hz
      cases hz
      obtain ⟨a1, a2, a3⟩ := eqD_ok he
      exact op_neD (by omega) pins s σ H x y v u Q I rx ry ⟨d1.py, d2.py, VR.dp d1 x P1 h1, VR.dp d2 y P2 h2, a1, a2, by rw [a3]; exact q⟩
  | Lt => exact ord _ op_lt hz
  | LtE => exact ord _ op_le hz
  | Gt => exact ord _ op_gt hz
  | GtE => exact ord _ op_ge hz
  | Is =>
    have hz : isD d1.isNon d2 = some b := hz
    cases d2 with
    | non =>
      cases hz
      rw [vr_n h2] at ry
      exact op_isN pins s σ H _ _ v u Q I rx ry ⟨rfl, by rw [decN h1]; exact q⟩
    | _ => cases hz
  | IsNot =>
    have hz : isD (!d1.isNon) d2 = some b := hz
    cases d2 with
    | non =>
      cases hz
      rw [vr_n h2] at ry
      exact op_notN pins s σ H _ _ v u Q I rx ry ⟨rfl, by rw [decN h1]; exact q⟩
    | _ => cases hz
  | In => exact op_in_all hu (neg := false) pins s σ H x y v u Q I rx ry ⟨F, d1, d2, P1, P2, b, h1, h2, hz, q⟩
  | NotIn =>
    have hz : (inD d1 d2).map not = some b := hz
    cases he : inD d1 d2 with
    | none => rw [he] at hz; cases hz
    | some c =>
      rw [he] at hz
      cases hz
      exact op_in_all hu (neg := true) pins s σ H x y v u Q I rx ry ⟨F, d1, d2, P1, P2, c, h1, h2, he, q⟩

/-! ### subscripts -/
def rIdx (K : PySem.W.Frag) : L2.R2 := fun x y H Q => ∃ F d1 d2 P1 P2 z, Fl F H ∧ VR K F H d1 x P1 ∧ VR K F H d2 y P2 ∧ idxD d1 d2 = some z ∧ Get K F H z Q
theorem vrl_at {K : PySem.W.Frag} {F : Addr → Prop} {H : Hp} {l : List D} {xs : List V} {P : List Addr} {i : Int} {d : D} (h : VRL K F H l xs P) (e : atI l i = some d) : ∃ x Px, atI xs i = some x ∧ VR K F H d x Px := by
  unfold atI at e ⊢
  rw [VRL.length l xs P h]
  obtain ⟨j, e1, e2⟩ := some_bind e
  obtain ⟨x, Px, q1, q2, _⟩ := VRL.get h e2
  exact ⟨x, Px, by rw [e1]; exact q1, q2⟩
theorem ix_ok {K : PySem.W.Frag} {F : Addr → Prop} {H : Hp} {l : List D} {xs : List V} {P : List Addr} {i : Int} {z : D} {Q : VK} (f : Fl F H) (h : VRL K F H l xs P) (e : ((atI l i).bind fun d => if d.fz then some d else none) = some z) (g : Get K F H z Q) :
    ∃ x, atI xs i = some x ∧ Q x H := by
  obtain ⟨d, e1, e2⟩ := some_bind e
  split at e2
  · rename_i hf
    cases e2
    obtain ⟨x, Px, q1, q2⟩ := vrl_at h e1
    exact ⟨x, q1, g.old f hf q2⟩
  · cases e2
theorem ix_all : IxR X (rIdx X.K) := by
  intro value slice pins s σ H x y v u Q I rx ry h pl
  obtain ⟨F, d1, d2, P1, P2, z, f, h1, h2, hz, g⟩ := h
  unfold idxD at hz
  split at hz
  · split at hz
    · rename_i hl
      obtain ⟨c, e1, e2⟩ : ∃ c, atI _ _ = some c ∧ D.str ⟨#[c]⟩ = z := by
        simpa using hz
      subst e2
      rw [vr_s h1] at rx; rw [vr_i h2] at ry
      exact ix_str value slice pins s σ H _ _ v u Q I rx ry ⟨_, _, c, rfl, rfl, by rw [← lim_eq]; exact hl, e1, g.str f⟩ pl
    · cases hz
  · rw [vr_i h2] at ry
    unfold VR at h1
    obtain ⟨p, xs, rfl, q1, q2⟩ := h1
    obtain ⟨w, e1, e2⟩ := ix_ok f q2 hz g
    exact ix_tup value slice pins s σ H _ _ v u Q I rx ry ⟨p, xs, _, w, rfl, rfl, q1, e1, e2⟩ pl
  · rw [vr_i h2] at ry
    unfold VR at h1
    obtain ⟨p, xs, rfl, q0, q1, q2, _⟩ := h1
    obtain ⟨w, e1, e2⟩ := ix_ok f q2 hz g
    exact ix_list value slice pins s σ H _ _ v u Q I rx ry ⟨p, xs, _, w, rfl, rfl, SqL.of q1, e1, e2⟩ pl
  · rw [vr_i h2] at ry
    unfold VR at h1
    obtain ⟨p, xs, rfl, q1, q2, _⟩ := h1
    obtain ⟨w, e1, e2⟩ := ix_ok f q2 hz g
    exact ix_list value slice pins s σ H _ _ v u Q I rx ry ⟨p, xs, _, w, rfl, rfl, q1.sq, e1, e2⟩ pl
  · rw [vr_i h2] at ry
    unfold VR at h1
    obtain ⟨p, xs, P', rfl, q1, q2, _⟩ := h1
    obtain ⟨w, e1, e2⟩ := ix_ok f q2 hz g
    exact ix_list value slice pins s σ H _ _ v u Q I rx ry ⟨p, xs, _, w, rfl, rfl, SqL.of q1, e1, e2⟩ pl
  · cases hz

/-! ### one operand -/
def rUn (K : PySem.W.Frag) (op : D → Option D) : V → Hp → VK → Prop := fun x H Q => ∃ F d P z, Fl F H ∧ VR K F H d x P ∧ op d = some z ∧ Get K F H z Q
theorem un_negD : UnR X (unaryOp .USub) (rUn X.K negD) := by
  intro pins s σ H x v Q I rx h
  obtain ⟨F, d, P, z, f, h1, hz, g⟩ := h
  cases d <;> first | (cases hz; done) | skip
  cases hz
  rw [vr_i h1] at rx
  exact un_neg pins s σ H _ _ Q I rx ⟨_, rfl, g.int f⟩
theorem truD_ok {K : PySem.W.Frag} {F : Addr → Prop} {H : Hp} {d : D} {x : V} {P : List Addr} {b : Bool} (h : VR K F H d x P) (e : truD d = some b) : TruV K x H b := by
  have em : ∀ {l : List D} {xs : List V} {P : List Addr}, VRL K F H l xs P → (!xs.isEmpty) = !l.isEmpty := fun {l xs P} q => by
    have := VRL.length l xs P q
    cases l <;> cases xs <;> simp_all
  cases d with
  | non => cases e; rw [vr_n h]; rfl
  | bl b => cases e; rw [vr_b h]; rfl
  | int i => cases e; rw [vr_i h]; rfl
  | str z =>
    have e : (if z.length ≤ lim then some ((z.length : Int) != 0) else none) = some b := e
    split at e
    · rename_i hl
      cases e
      rw [vr_s h]
      exact ⟨by rw [← lim_eq]; exact hl, rfl⟩
    · cases e
  | tup l => cases e; unfold VR at h; obtain ⟨p, xs, rfl, q1, q2⟩ := h; exact .inr (.inl ⟨xs, q1, (em q2).symm⟩)
  | lst l => cases e; unfold VR at h; obtain ⟨p, xs, rfl, q0, q1, q2, _⟩ := h; exact .inl ⟨xs, SqL.of q1, (em q2).symm⟩
  | ro l => cases e; unfold VR at h; obtain ⟨p, xs, rfl, q1, q2, _⟩ := h; exact .inl ⟨xs, q1.sq, (em q2).symm⟩
  | own l => cases e; unfold VR at h; obtain ⟨p, xs, P', rfl, q1, q2, _⟩ := h; exact .inl ⟨xs, SqL.of q1, (em q2).symm⟩

/-! ### built-ins -/
def rB (K : PySem.W.Frag) (op : List D → Option D) : List V → Hp → VK → Prop := fun vs H Q => ∃ F ds P z, Fl F H ∧ VRL K F H ds vs P ∧ op ds = some z ∧ Get K F H z Q
theorem vrl1 {K : PySem.W.Frag} {F : Addr → Prop} {H : Hp} {d : D} {vs : List V} {P : List Addr} (h : VRL K F H [d] vs P) : ∃ v Q, vs = [v] ∧ VR K F H d v Q := by
  unfold VRL at h
  obtain ⟨x, xs', P1, P2, e, h1, h2, _⟩ := h
  unfold VRL at h2
  rw [h2.1] at e
  exact ⟨x, P1, e, h1⟩
theorem vrl2 {K : PySem.W.Frag} {F : Addr → Prop} {H : Hp} {d d2 : D} {vs : List V} {P : List Addr} (h : VRL K F H [d, d2] vs P) : ∃ v w Q Q2, vs = [v, w] ∧ VR K F H d v Q ∧ VR K F H d2 w Q2 := by
  unfold VRL at h
  obtain ⟨x, xs', P1, P2, e, h1, h2, _⟩ := h
  obtain ⟨w, Q, e2, h3⟩ := vrl1 h2
  exact ⟨x, w, P1, Q, by rw [e, e2], h1, h3⟩
theorem VRL.drop {K : PySem.W.Frag} {F : Addr → Prop} {H : Hp} : ∀ (n : Nat) {l : List D} {xs : List V}, VRL K F H l xs [] → VRL K F H (l.drop n) (xs.drop n) []
  | 0, l, xs, h => h
  | n + 1, [], xs, h => by unfold VRL at h; obtain ⟨rfl, _⟩ := h; unfold VRL; exact ⟨rfl, rfl⟩
  | n + 1, d :: l, xs, h => by
    unfold VRL at h
    obtain ⟨x, xs', P1, P2, rfl, h1, h2, e⟩ := h
    obtain ⟨_, rfl⟩ := List.append_eq_nil_iff.mp e.symm
    exact VRL.drop n h2
theorem VRL.take {K : PySem.W.Frag} {F : Addr → Prop} {H : Hp} : ∀ (n : Nat) {l : List D} {xs : List V}, VRL K F H l xs [] → VRL K F H (l.take n) (xs.take n) []
  | 0, l, xs, h => by simp only [List.take_zero]; unfold VRL; exact ⟨rfl, rfl⟩
  | n + 1, [], xs, h => by unfold VRL at h; obtain ⟨rfl, _⟩ := h; unfold VRL; exact ⟨rfl, rfl⟩
  | n + 1, d :: l, xs, h => by
    unfold VRL at h
    obtain ⟨x, xs', P1, P2, rfl, h1, h2, e⟩ := h
    obtain ⟨rfl, rfl⟩ := List.append_eq_nil_iff.mp e.symm
    simp only [List.take_succ_cons]
    unfold VRL
    exact ⟨x, xs'.take n, [], [], rfl, h1, VRL.take n h2, rfl⟩
theorem VRL.cut {K : PySem.W.Frag} {F : Addr → Prop} {H : Hp} {l : List D} {xs : List V} (lo hi : Option Int) (h : VRL K F H l xs []) : VRL K F H (cutD l lo hi) (cutV xs lo hi) [] := by
  unfold cutD cutV
  rw [VRL.length _ _ _ h]
  exact VRL.take _ (VRL.drop _ h)
def rSlD (K : PySem.W.Frag) : V → Option Int → Option Int → Hp → VK → Prop := fun x lo hi H Q => ∃ F d P z, Fl F H ∧ VR K F H d x P ∧ slD d lo hi = some z ∧ Get K F H z Q
theorem sl_all : SlR X (rSlD X.K) := by
  intro pins s σ H x v vl vu lo hi sl Q I rx hs pl pu h
  obtain ⟨F, d, P, z, f, hv, hz, g⟩ := h
  have lists : ∀ (l : List D) (a : Addr) (xs : List V) (P' : List Addr), x = .ref a → SqL X.K H a xs → VRL X.K F H l xs P' → fzL l = true → z = .own (cutD l lo hi) → ∃ T id, typeLookup (.type T) "__getitem__" = pure (some (.builtin id)) ∧ s.TypeIs v T ∧ wpAny (model X.prog X.w) X.A (getItem v (.ref sl)) (EP X pins σ Q) X.xe s := by
    intro l a xs P' e1 e2 e3 e4 e5
    subst e1 e5
    have := VRL.fz _ _ _ e4 e3
    subst this
    exact sl_list pins s σ H _ v vl vu lo hi sl Q I rx hs pl pu ⟨a, xs, rfl, e2, fun p hp => g.own f (VRL.cut lo hi e3) hp⟩
  cases d <;> first | (cases hz; done) | skip
  · rename_i l
    unfold slD at hz
    simp only at hz
    split at hz
    · rename_i hf
      cases hz
      unfold VR at hv
      obtain ⟨a, xs, rfl, h1, h2⟩ := hv
      have := VRL.fz _ _ _ hf h2
      subst this
      refine sl_tupA pins s σ H _ v vl vu lo hi sl Q I rx hs pl pu ⟨a, xs, rfl, h1, fun hw => ?_, fun _ p hp => g.tup f (VRL.cut lo hi h2) hp⟩
      have hl := VRL.length _ _ _ h2
      have e : cutD l lo hi = l := by
        unfold cutD
        rw [← hl, hw.1, hw.2, hl]
        simp
      rw [e] at g
      refine g.old f (by simp only [D.fz, hf]) (P := []) ?_
      unfold VR
      exact ⟨a, xs, rfl, h1, h2⟩
    · cases hz
  · rename_i l
    unfold slD at hz
    simp only at hz
    split at hz
    · rename_i hf
      cases hz
      unfold VR at hv
      obtain ⟨a, xs, rfl, _, h1, h2, _⟩ := hv
      exact lists l a xs _ rfl (.inl (.inl h1)) h2 hf rfl
    · cases hz
  · rename_i l
    unfold slD at hz
    simp only at hz
    split at hz
    · rename_i hf
      cases hz
      unfold VR at hv
      obtain ⟨a, xs, rfl, h1, h2, _⟩ := hv
      exact lists l a xs _ rfl h1.sq h2 hf rfl
    · cases hz
  · rename_i l
    unfold slD at hz
    simp only at hz
    split at hz
    · rename_i hf
      cases hz
      unfold VR at hv
      obtain ⟨a, xs, P', rfl, h1, h2, _⟩ := hv
      exact lists l a xs _ rfl (.inl (.inl h1)) h2 hf rfl
    · cases hz
theorem call_lenD : CallR X (.builtin "len") (rB X.K lenD) := by
  intro pins s σ H vs us Q I r h
  obtain ⟨F, ds, P, z, f, hv, hz, g⟩ := h
  unfold lenD at hz
  split at hz
  · obtain ⟨v, P', rfl, h1⟩ := vrl1 hv
    split at hz
    · rename_i hl
      cases hz
      rw [vr_s h1] at r
      exact call_len_str pins s σ H _ us Q I r ⟨_, rfl, by rw [← lim_eq]; exact hl, g.int f⟩
    · cases hz
  · rename_i d _
    obtain ⟨v, P', rfl, h1⟩ := vrl1 hv
    obtain ⟨l, e1, e2⟩ : ∃ l, d.items = some l ∧ D.int l.length = z := by simpa using hz
    subst e2
    obtain ⟨a, xs, P2, rfl, q1, q2⟩ := h1.seq e1
    refine call_len_seq pins s σ H _ us Q I r ⟨a, xs, rfl, q1, ?_⟩
    rw [VRL.length _ _ _ q2]
    exact g.int f
  · cases hz
theorem call_listD : CallR X (.type "list") (rB X.K listD) := by
  intro pins s σ H vs us Q I r h
  obtain ⟨F, ds, P, z, f, hv, hz, g⟩ := h
  unfold listD at hz
  split at hz
  · obtain ⟨v, P', rfl, h1⟩ := vrl1 hv
    obtain ⟨l, e1, e2⟩ := some_bind hz
    split at e2
    · rename_i hf
      cases e2
      obtain ⟨a, xs, P2, rfl, q1, q2⟩ := h1.seq e1
      have e3 := VRL.fz _ _ _ hf q2
      subst e3
      exact call_list_of pins s σ H _ us Q I r ⟨a, xs, rfl, q1, fun p hp => g.own f q2 hp⟩
    · cases e2
  · cases hz
theorem call_tupD : CallR X (.type "tuple") (rB X.K tupleD) := by
  intro pins s σ H vs us Q I r h
  obtain ⟨F, ds, P, z, f, hv, hz, g⟩ := h
  unfold tupleD at hz
  split at hz
  · obtain ⟨v, P', rfl, h1⟩ := vrl1 hv
    obtain ⟨l, e1, e2⟩ := some_bind hz
    split at e2
    · rename_i hf
      cases e2
      obtain ⟨a, xs, P2, rfl, q1, q2⟩ := h1.seq e1
      have e3 := VRL.fz _ _ _ hf q2
      subst e3
      refine call_tuple_of pins s σ H _ us Q I r ⟨a, xs, rfl, ?_⟩
      rcases q1 with q1 | q1
      · exact .inl ⟨q1, fun p hp => g.tup f q2 hp⟩
      · refine .inr ⟨q1, g.old f (by unfold D.fz; exact hf) (P := []) ?_⟩
        unfold VR
        exact ⟨a, xs, rfl, q1, q2⟩
    · cases e2
  · cases hz
theorem call_absD : CallR X (.builtin "abs") (rB X.K absD) := by
  intro pins s σ H vs us Q I r h
  obtain ⟨F, ds, P, z, f, hv, hz, g⟩ := h
  unfold absD at hz
  split at hz
  · obtain ⟨v, P', rfl, h1⟩ := vrl1 hv
    cases hz
    rw [vr_i h1] at r
    exact call_abs pins s σ H _ us Q I r ⟨_, rfl, g.int f⟩
  · cases hz
theorem call_intD : CallR X (.type "int") (rB X.K intD) := by
  intro pins s σ H vs us Q I r h
  obtain ⟨F, ds, P, z, f, hv, hz, g⟩ := h
  unfold intD at hz
  split at hz
  · obtain ⟨v, P', rfl, h1⟩ := vrl1 hv
    cases hz
    rw [vr_i h1] at r
    exact call_int1 pins s σ H _ us Q I r (.inl ⟨_, rfl, g.int f⟩)
  · obtain ⟨v, P', rfl, h1⟩ := vrl1 hv
    cases hz
    rw [vr_b h1] at r
    exact call_int1 pins s σ H _ us Q I r (.inr ⟨_, rfl, g.int f⟩)
  · cases hz
theorem lsts_ok {F : Addr → Prop} {d : D} {l : List D} {v : V} {P : List Addr} {K : PySem.W.Frag} {H : Hp} (e : d.lsts = some l) (h : VR K F H d v P) : ∃ a xs P', v = .ref a ∧ SqL K H a xs ∧ VRL K F H l xs P' := by
  cases d <;> first | (cases e; done) | skip
  · cases e
    unfold VR at h
    obtain ⟨a, xs, rfl, _, h1, h2, _⟩ := h
    exact ⟨a, xs, [], rfl, .inl (.inl h1), h2⟩
  · cases e
    unfold VR at h
    obtain ⟨a, xs, rfl, h1, h2, _⟩ := h
    exact ⟨a, xs, [], rfl, h1.sq, h2⟩
  · cases e
    unfold VR at h
    obtain ⟨a, xs, P', rfl, h1, h2, _⟩ := h
    exact ⟨a, xs, P', rfl, .inl (.inl h1), h2⟩
theorem allInt_ok {K : PySem.W.Frag} {F : Addr → Prop} {H : Hp} : ∀ {l : List D} {ns : List Int} {xs : List V} {P : List Addr}, allInt l = some ns → VRL K F H l xs P → xs = ns.map V.int
  | [], ns, xs, P, e, h => by cases e; unfold VRL at h; exact h.1
  | d :: l, ns, xs, P, e, h => by
    cases d <;> first | (cases e; done) | skip
    rename_i i
    cases hh : allInt l with
    | none => rw [show allInt (.int i :: l) = (allInt l).map (i :: ·) from rfl, hh] at e; cases e
    | some ms =>
      rw [show allInt (.int i :: l) = (allInt l).map (i :: ·) from rfl, hh] at e
      cases e
      unfold VRL at h
      obtain ⟨x, xs', P1, P2, rfl, h1, h2, _⟩ := h
      rw [vr_i h1, allInt_ok hh h2]
      rfl
theorem allBl_ok {K : PySem.W.Frag} {F : Addr → Prop} {H : Hp} : ∀ {l : List D} {ns : List Bool} {xs : List V} {P : List Addr}, allBl l = some ns → VRL K F H l xs P → xs = ns.map V.bl
  | [], ns, xs, P, e, h => by cases e; unfold VRL at h; exact h.1
  | d :: l, ns, xs, P, e, h => by
    cases d <;> first | (cases e; done) | skip
    rename_i i
    cases hh : allBl l with
    | none => rw [show allBl (.bl i :: l) = (allBl l).map (i :: ·) from rfl, hh] at e; cases e
    | some ms =>
      rw [show allBl (.bl i :: l) = (allBl l).map (i :: ·) from rfl, hh] at e
      cases e
      unfold VRL at h
      obtain ⟨x, xs', P1, P2, rfl, h1, h2, _⟩ := h
      rw [vr_b h1, allBl_ok hh h2]
      rfl
theorem map_ok {α β : Type} {o : Option α} {f : α → β} {b : β} (h : o.map f = some b) : ∃ a, o = some a ∧ f a = b := by
  cases o with
  | none => cases h
  | some a => exact ⟨a, rfl, by injection h⟩
theorem leastI_ok : ∀ {ns : List Int} {m : Int}, leastI ns = some m → m ∈ ns ∧ ∀ y ∈ ns, m ≤ y
  | [], m, e => by cases e
  | [a], m, e => by
    cases e
    exact ⟨List.mem_cons_self, fun y hy => Int.le_of_eq (by simpa [eq_comm] using hy)⟩
  | a :: b :: l, m, e => by
    obtain ⟨q, e1, e2⟩ := map_ok (show (leastI (b :: l)).map (fun m => if m < a then m else a) = some m from e)
    obtain ⟨h1, h2⟩ := leastI_ok e1
    subst e2
    split
    · exact ⟨List.mem_cons_of_mem _ h1, fun y hy => by
        rcases List.mem_cons.mp hy with z | z
        · omega
        · exact h2 y z⟩
    · exact ⟨List.mem_cons_self, fun y hy => by
        rcases List.mem_cons.mp hy with z | z
        · omega
        · have := h2 y z
          omega⟩
theorem mostI_ok : ∀ {ns : List Int} {m : Int}, mostI ns = some m → m ∈ ns ∧ ∀ y ∈ ns, y ≤ m
  | [], m, e => by cases e
  | [a], m, e => by
    cases e
    exact ⟨List.mem_cons_self, fun y hy => Int.le_of_eq (by simpa [eq_comm] using hy)⟩
  | a :: b :: l, m, e => by
    obtain ⟨q, e1, e2⟩ := map_ok (show (mostI (b :: l)).map (fun m => if a < m then m else a) = some m from e)
    obtain ⟨h1, h2⟩ := mostI_ok e1
    subst e2
    split
    · exact ⟨List.mem_cons_of_mem _ h1, fun y hy => by
        rcases List.mem_cons.mp hy with z | z
        · omega
        · exact h2 y z⟩
    · exact ⟨List.mem_cons_self, fun y hy => by
        rcases List.mem_cons.mp hy with z | z
        · omega
        · have := h2 y z
          omega⟩
theorem call_minD (hc : X.calm = true) : CallR X (.builtin "min") (rB X.K minD) := by
  intro pins s σ H vs us Q I r h
  obtain ⟨F, ds, P, z, f, hv, hz, g⟩ := h
  unfold minD at hz
  split at hz
  · obtain ⟨v, w, P1, P2, rfl, h1, h2⟩ := vrl2 hv
    cases hz
    rw [vr_i h1, vr_i h2] at r
    exact call_min2 hc pins s σ H _ us Q I r ⟨_, _, rfl, g.int f⟩
  · obtain ⟨v, P', rfl, h1⟩ := vrl1 hv
    obtain ⟨l, e1, e2⟩ := some_bind hz
    obtain ⟨ns, e3, e4⟩ := some_bind e2
    obtain ⟨m, e5, rfl⟩ := map_ok e4
    obtain ⟨a, xs, P3, rfl, q1, q2⟩ := lsts_ok e1 h1
    rw [allInt_ok e3 q2] at q1
    obtain ⟨m1, m2⟩ := leastI_ok e5
    refine cr_min hc pins s σ H _ us Q I r ⟨a, ns, rfl, q1, List.length_pos_of_mem m1, fun m' a1 a2 => ?_⟩
    have : m' = m := Int.le_antisymm (a2 m m1) (m2 m' a1)
    subst this
    exact g.int f
  · cases hz
theorem call_maxD (hc : X.calm = true) : CallR X (.builtin "max") (rB X.K maxD) := by
  intro pins s σ H vs us Q I r h
  obtain ⟨F, ds, P, z, f, hv, hz, g⟩ := h
  unfold maxD at hz
  split at hz
  · obtain ⟨v, w, P1, P2, rfl, h1, h2⟩ := vrl2 hv
    cases hz
    rw [vr_i h1, vr_i h2] at r
    exact call_max2 hc pins s σ H _ us Q I r ⟨_, _, rfl, g.int f⟩
  · obtain ⟨v, P', rfl, h1⟩ := vrl1 hv
    obtain ⟨l, e1, e2⟩ := some_bind hz
    obtain ⟨ns, e3, e4⟩ := some_bind e2
    obtain ⟨m, e5, rfl⟩ := map_ok e4
    obtain ⟨a, xs, P3, rfl, q1, q2⟩ := lsts_ok e1 h1
    rw [allInt_ok e3 q2] at q1
    obtain ⟨m1, m2⟩ := mostI_ok e5
    refine cr_max hc pins s σ H _ us Q I r ⟨a, ns, rfl, q1, List.length_pos_of_mem m1, fun m' a1 a2 => ?_⟩
    have : m' = m := Int.le_antisymm (m2 m' a1) (a2 m m1)
    subst this
    exact g.int f
  · cases hz
theorem call_sumD (hc : X.calm = true) : CallR X (.builtin "sum") (rB X.K sumD) := by
  intro pins s σ H vs us Q I r h
  obtain ⟨F, ds, P, z, f, hv, hz, g⟩ := h
  unfold sumD at hz
  split at hz
  · obtain ⟨v, P', rfl, h1⟩ := vrl1 hv
    obtain ⟨l, e1, e2⟩ := some_bind hz
    obtain ⟨ns, e3, rfl⟩ := map_ok e2
    obtain ⟨a, xs, P3, rfl, q1, q2⟩ := lsts_ok e1 h1
    rw [allInt_ok e3 q2] at q1
    exact cr_sum hc pins s σ H _ us Q I r ⟨a, ns, rfl, q1, g.int f⟩
  · cases hz
theorem call_anyD (hc : X.calm = true) : CallR X (.builtin "any") (rB X.K anyD) := by
  intro pins s σ H vs us Q I r h
  obtain ⟨F, ds, P, z, f, hv, hz, g⟩ := h
  unfold anyD at hz
  split at hz
  · obtain ⟨v, P', rfl, h1⟩ := vrl1 hv
    obtain ⟨l, e1, e2⟩ := some_bind hz
    obtain ⟨ns, e3, rfl⟩ := map_ok e2
    obtain ⟨a, xs, P3, rfl, q1, q2⟩ := lsts_ok e1 h1
    rw [allBl_ok e3 q2] at q1
    exact cr_any hc pins s σ H _ us Q I r ⟨a, ns, rfl, q1, g.bl f⟩
  · cases hz
theorem call_allD (hc : X.calm = true) : CallR X (.builtin "all") (rB X.K allD) := by
  intro pins s σ H vs us Q I r h
  obtain ⟨F, ds, P, z, f, hv, hz, g⟩ := h
  unfold allD at hz
  split at hz
  · obtain ⟨v, P', rfl, h1⟩ := vrl1 hv
    obtain ⟨l, e1, e2⟩ := some_bind hz
    obtain ⟨ns, e3, rfl⟩ := map_ok e2
    obtain ⟨a, xs, P3, rfl, q1, q2⟩ := lsts_ok e1 h1
    rw [allBl_ok e3 q2] at q1
    exact cr_all hc pins s σ H _ us Q I r ⟨a, ns, rfl, q1, g.bl f⟩
  · cases hz
theorem call_strD : CallR X (.type "str") (rB X.K strD) := by
  intro pins s σ H vs us Q I r h
  obtain ⟨F, ds, P, z, f, hv, hz, g⟩ := h
  unfold strD at hz
  split at hz
  · obtain ⟨v, P', rfl, h1⟩ := vrl1 hv
    split at hz
    · rename_i hl
      cases hz
      rw [vr_i h1] at r
      exact call_str_int pins s σ H _ us Q I r ⟨_, rfl, hl, g.str f⟩
    · cases hz
  · obtain ⟨v, P', rfl, h1⟩ := vrl1 hv
    cases hz
    rw [vr_s h1] at r
    exact SkE.call_str_str pins s σ H _ us Q I r ⟨_, rfl, g.str f⟩
  · cases hz
theorem tyD_ok {K : PySem.W.Frag} {F : Addr → Prop} {H : Hp} {d : D} {x : V} {P : List Addr} (h : VR K F H d x P) : TyX K H x (.type (tyD d)) := by
  cases d with
  | non => rw [vr_n h]; exact .base .non
  | bl b => rw [vr_b h]; exact .base (.bl b)
  | int b => rw [vr_i h]; exact .base (.int b)
  | str b => rw [vr_s h]; exact .base (.str b)
  | tup l =>
    unfold VR at h
    obtain ⟨a, xs, rfl, q, _⟩ := h
    rcases q with (q | ⟨o, q⟩) | ⟨o, its, n, q1, q2, _⟩
    · exact .base (.tup q)
    · exact .fTuple q
    · exact .kTuple q1 q2
  | lst l => unfold VR at h; obtain ⟨a, xs, rfl, q0, q, _⟩ := h; exact .base (.lst q)
  | ro l =>
    unfold VR at h
    obtain ⟨a, xs, rfl, q, _⟩ := h
    rcases q with ⟨o, q⟩ | ⟨o, its, n, q1, q2, _⟩
    · exact .base (.frz q)
    · exact .kList q1 q2
  | own l => unfold VR at h; obtain ⟨a, xs, P', rfl, q, _⟩ := h; exact .base (.lst q)
end
end Co
namespace Co
open PySem PySem.Spec PyProof.Rows L2
theorem idxF_ok {K : PySem.W.Frag} {F : Addr → Prop} {H : Hp} {d : D} {x : V} {P : List Addr} (h : VR K F H d x P) (e : d.flat = true) : ∀ {l : List D} {xs : List V} {P2 : List Addr} {n : Nat}, VRL K F H l xs P2 → l.all D.flat = true → idxF d l = some n →
    ∃ z, xs[n]? = some z ∧ eqV z x = true ∧ ∀ (m : Nat) (z' : V), m < n → xs[m]? = some z' → eqV z' x = false
  | [], xs, P2, n, h2, _, h3 => by cases h3
  | d2 :: l, xs, P2, n, h2, e2, h3 => by
    unfold VRL at h2
    obtain ⟨y, xs', Q1, Q2, rfl, q1, q2, _⟩ := h2
    rw [List.all_cons, Bool.and_eq_true] at e2
    have q := eqF_V q1 e2.1 h e
    unfold idxF at h3
    split at h3
    · rename_i hc
      cases h3
      exact ⟨y, rfl, by rw [q]; exact hc, fun m z' hm => by omega⟩
    · rename_i hc
      cases h4 : idxF d l with
      | none => rw [h4] at h3; cases h3
      | some n' =>
        rw [h4] at h3
        cases h3
        obtain ⟨z, z1, z2, z3⟩ := idxF_ok h e q2 e2.2 h4
        refine ⟨z, by simpa using z1, z2, fun m z' hm hz => ?_⟩
        cases m with
        | zero =>
          simp at hz
          subst hz
          rw [q]
          simpa using hc
        | succ m => exact z3 m z' (by have : m + 1 < n' + 1 := hm; omega) (by simpa using hz)
end Co

set_option maxRecDepth 100000
set_option maxHeartbeats 1000000
/-! Core5: expressions -/
namespace Co
open PySem PySem.Spec PyProof.Rows L2

def isLC : Expr → Bool
  | .ListComp .. => true
  | _ => false
def isTupE : Expr → Bool
  | .Tuple .. => true
  | _ => false
/-- an expression without the odd forms -/
structure Plain (e : Expr) : Prop where
  st : ∀ es env, starEach (e :: es) env = (false, eval e env) :: starEach es env
  ix : PlainIx e
  bm : ∀ op, behindInMarks op e = false
  fs : ∀ env x, foldedSetIterable e env x = pure x
  sw : isLC e = false → ∀ t l env, swapsWith e t l env = pure false
  ns : isTupE e = false → ∀ tg env, swappedStores [tg] e env = pure none

section
variable {X : Cx} {Φ : Nat → List Sl → Option (D × List Sl)} {wf : Nat}
structure SE (X : Cx) (Φ : Nat → List Sl → Option (D × List Sl)) (wf : Nat) (e : Expr) (c : C) : Prop where
  pe : PE X e (tE X.K Φ wf c)
  pl : Plain e
structure SA (X : Cx) (Φ : Nat → List Sl → Option (D × List Sl)) (wf : Nat) (es : List Expr) (c : C) : Prop where
  pa : PA X es (tA X.K Φ wf c)
  st : ∀ env, starEach es env = es.map fun e => (false, eval e env)
abbrev ST (X : Cx) (Φ : Nat → List Sl → Option (D × List Sl)) (wf : Nat) (e : Expr) (c : C) : Prop := PT X e (tT X.K Φ wf c)

/-- a value handed on -/
theorem close {K : PySem.W.Frag} {F F2 : Addr → Prop} {H H2 : Hp} {O O2 P0 : List Addr} {ρ ρ2 : Env} {σ : L2.St} {z : D} {Q : VK} (st : Stp F H O F2 H2 (O2 ++ P0)) (sr2 : SR K F2 H2 ρ2 σ O2) (wd2 : Wd F2 H2 (O2 ++ P0)) (kp : Kp ρ ρ2)
    (k : ∀ v F' H' O' P, Stp F H O F' H' (O' ++ P) → SR K F' H' ρ2 σ O' → RR K F' H' σ (.d z) v P → Wd F' H' (O' ++ P) → Kp ρ ρ2 → Q v H') : Get K F2 H2 z Q := fun v H' P s3 vr w3 => by
  obtain ⟨a, b, c⟩ := fin_new wd2.left sr2 s3 w3
  exact k v F2 H' O2 P ((st.sub fun x hx => List.mem_append_left _ hx).trans c) a vr b kp
theorem sub0 {F F2 : Addr → Prop} {H H2 : Hp} {O O2 P0 : List Addr} (st : Stp F H O F2 H2 (O2 ++ P0)) : Stp F H O F2 H2 O2 := st.sub fun x hx => List.mem_append_left _ hx
theorem nil_l {F F2 : Addr → Prop} {H H2 : Hp} {O O2 : List Addr} (st : Stp F H O F2 H2 O2) : Stp F H O F2 H2 (O2 ++ []) := by simpa using st
theorem nil_w {F : Addr → Prop} {H : Hp} {O : List Addr} (w : Wd F H O) : Wd F H (O ++ []) := by simpa using w

/-! ### names, constants -/
theorem se_var {x : Str} {i : Nat} {pos : Pos} (hN : X.N[i]? = some x) (hv : Vis X.env.scope x) (hd : (x == ("__debug__" : Str)) = false) (hc : (x == ("__classdict__" : Str)) = false) : PE X (.Name x pos) (tE X.K Φ wf (.var i)) := by
  refine PE.weak (pe_var hN hv hd hc) fun σ H Q h => ?_
  obtain ⟨F, ρ, O, r, ρ', sr, wd, e, k⟩ := h
  have go : ∀ (s : Sl) (d : D), ρ[i]? = some s → s.cont = some d → (r = .pl i ∨ (r = .d d ∧ d.fz = true)) → ρ' = ρ → tVar i σ H Q := by
    intro s d e1 e2 e3 e4
    subst e4
    obtain ⟨ov, P, O', q1, q2, _, _⟩ := SR.take sr e1
    have hv : ∃ v, ov = some v ∧ VR X.K F H d v P := by
      cases s with
      | no => cases e2
      | v d1 => cases e2; exact q2
      | bo d1 => cases e2; exact q2
      | lk d1 => cases e2; exact q2
    obtain ⟨v, rfl, hv⟩ := hv
    refine ⟨v, q1, k v F H O [] (nil_l Stp.refl) sr ?_ (nil_w wd) Kp.refl⟩
    rcases e3 with rfl | ⟨rfl, hf⟩
    · exact ⟨q1, rfl⟩
    · have := VR.fz d v P hf hv
      subst this
      exact hv
  simp only [evE] at e
  split at e
  · rename_i d e1
    cases e
    exact go _ d e1 rfl (by by_cases hf : d.fz = true <;> simp [hf]) rfl
  · rename_i d e1
    cases e
    exact go _ d e1 rfl (by by_cases hf : d.fz = true <;> simp [hf]) rfl
  · rename_i d e1
    cases e
    exact go _ d e1 rfl (.inl rfl) rfl
  · cases e
/-! a list frozen -/
mutual
theorem frz_ok {K : PySem.W.Frag} {F : Addr → Prop} {H : Hp} {F' : Addr → Prop} (hm : ∀ a, F a → F' a) : ∀ (d : D) (v : V) (P : List Addr), (∀ a ∈ P, F' a) → VR K F H d v P → VR K F' H d.frz v []
  | .non, v, P, _, h => by rw [vr_n h]; simp [D.frz, VR]
  | .bl b, v, P, _, h => by rw [vr_b h]; simp [D.frz, VR]
  | .int i, v, P, _, h => by rw [vr_i h]; simp [D.frz, VR]
  | .str x, v, P, _, h => by rw [vr_s h]; simp [D.frz, VR]
  | .tup l, v, P, hp, h => by
    unfold VR at h
    obtain ⟨a, xs, rfl, h1, h2⟩ := h
    unfold D.frz VR
    exact ⟨a, xs, rfl, h1, frzL_ok hm l xs P hp h2⟩
  | .lst l, v, P, hp, h => by
    unfold VR at h
    obtain ⟨a, xs, rfl, h1, h2, h3, h4⟩ := h
    unfold D.frz VR
    exact ⟨a, xs, rfl, hm a h1, h2, monoL hm l xs [] h3, rfl⟩
  | .ro l, v, P, hp, h => by
    unfold VR at h
    obtain ⟨a, xs, rfl, h1, h3, h4⟩ := h
    unfold D.frz VR
    exact ⟨a, xs, rfl, h1, monoL hm l xs [] h3, rfl⟩
  | .own l, v, P, hp, h => by
    unfold VR at h
    obtain ⟨a, xs, P', rfl, h1, h2, h3⟩ := h
    subst h3
    unfold D.frz VR
    exact ⟨a, xs, rfl, hp a List.mem_cons_self, h1, frzL_ok hm l xs P' (fun b hb => hp b (List.mem_cons_of_mem _ hb)) h2, rfl⟩
theorem frzL_ok {K : PySem.W.Frag} {F : Addr → Prop} {H : Hp} {F' : Addr → Prop} (hm : ∀ a, F a → F' a) : ∀ (l : List D) (xs : List V) (P : List Addr), (∀ a ∈ P, F' a) → VRL K F H l xs P → VRL K F' H (frzL l) xs []
  | [], xs, P, _, h => by
    unfold VRL at h
    unfold frzL VRL
    exact ⟨h.1, rfl⟩
  | d :: l, xs, P, hp, h => by
    unfold VRL at h
    obtain ⟨x, xs', P1, P2, rfl, h1, h2, rfl⟩ := h
    unfold frzL VRL
    exact ⟨x, xs', [], [], rfl, frz_ok hm d x P1 (fun a ha => hp a (List.mem_append_left _ ha)) h1, frzL_ok hm l xs' P2 (fun a ha => hp a (List.mem_append_right _ ha)) h2, rfl⟩
theorem mono_ok {K : PySem.W.Frag} {F : Addr → Prop} {H : Hp} {F' : Addr → Prop} (hm : ∀ a, F a → F' a) : ∀ (d : D) (v : V) (P : List Addr), VR K F H d v P → VR K F' H d v P
  | .non, v, P, h => by unfold VR at h ⊢; exact h
  | .bl b, v, P, h => by unfold VR at h ⊢; exact h
  | .int i, v, P, h => by unfold VR at h ⊢; exact h
  | .str x, v, P, h => by unfold VR at h ⊢; exact h
  | .tup l, v, P, h => by
    unfold VR at h ⊢
    obtain ⟨a, xs, e, h1, h2⟩ := h
    exact ⟨a, xs, e, h1, monoL hm l xs P h2⟩
  | .lst l, v, P, h => by
    unfold VR at h ⊢
    obtain ⟨a, xs, e, h1, h2, h3, h4⟩ := h
    exact ⟨a, xs, e, hm a h1, h2, monoL hm l xs [] h3, h4⟩
  | .ro l, v, P, h => by
    unfold VR at h ⊢
    obtain ⟨a, xs, e, h1, h3, h4⟩ := h
    exact ⟨a, xs, e, h1, monoL hm l xs [] h3, h4⟩
  | .own l, v, P, h => by
    unfold VR at h ⊢
    obtain ⟨a, xs, P', e, h1, h2, h3⟩ := h
    exact ⟨a, xs, P', e, h1, monoL hm l xs P' h2, h3⟩
theorem monoL {K : PySem.W.Frag} {F : Addr → Prop} {H : Hp} {F' : Addr → Prop} (hm : ∀ a, F a → F' a) : ∀ (l : List D) (xs : List V) (P : List Addr), VRL K F H l xs P → VRL K F' H l xs P
  | [], xs, P, h => by unfold VRL at h ⊢; exact h
  | d :: l, xs, P, h => by
    unfold VRL at h ⊢
    obtain ⟨x, xs', P1, P2, e, h1, h2, h3⟩ := h
    exact ⟨x, xs', P1, P2, e, mono_ok hm d x P1 h1, monoL hm l xs' P2 h2, h3⟩
end
/-- a slot exchanged: what stood there is handed on or forgotten -/
theorem slot_swap {K : PySem.W.Frag} {F : Addr → Prop} {H : Hp} {O : List Addr} {ρ : Env} {σ : L2.St} {i : Nat} {s s' : Sl} (G : List Addr → Addr → Prop) (sr : SR K F H ρ σ O) (wd : Wd F H O) (e : ρ[i]? = some s) (hm : ∀ P a, F a → G P a) (hG : ∀ P a, G P a → F a ∨ a ∈ P)
    (k : ∀ ov P, σ[i]? = some ov → S1 K F H s ov P → S1 K (G P) H s' ov []) :
    ∃ ov P O', Stp F H O (G P) H O' ∧ SR K (G P) H (ρ.set i s') σ O' ∧ Wd (G P) H O' ∧ σ[i]? = some ov ∧ S1 K F H s ov P ∧ O.Perm (O' ++ P) := by
  obtain ⟨ov, P, O', q1, q2, q3, q4⟩ := SR.take sr e
  have w' := wd.perm q4
  have k2 := k ov P q1 q2
  have st : Stp F H P (G P) H [] := ⟨fun _ _ h _ => h, hm P, fun _ z => (nomatch z), fun a z => (hG P a z).imp id .inl⟩
  have sr2 : SR K (G P) H (ρ.set i .no) σ O' := SR.stp w'.right st w'.apart' q3
  obtain ⟨O2, r1, r2⟩ := SR.put sr2 (get_set_same e) k2
  rw [set_set, set_same q1] at r1
  have r3 : O2.Perm O' := by simpa using r2
  refine ⟨ov, P, O2, ⟨fun _ _ h _ => h, hm P, fun a ha => .inl (q4.symm.subset (List.mem_append_left _ (r3.subset ha))), fun a z => (hG P a z).imp id fun y => .inl (q4.symm.subset (List.mem_append_right _ y))⟩, r1, ?_, q1, q2, q4.trans (r3.symm.append_right P)⟩
  refine ⟨r3.nodup_iff.mpr w'.left.nd, fun a ha z => ?_, fun a ha => w'.ls a (List.mem_append_left _ (r3.subset ha)), fun a z => ?_⟩
  · rcases hG P a z with y | y
    · exact w'.nf a (List.mem_append_left _ (r3.subset ha)) y
    · exact w'.apart' a (r3.subset ha) y
  · rcases hG P a z with y | y
    · exact w'.ft a y
    · exact w'.ls a (List.mem_append_right _ y)
theorem se_fz {x : Str} {i : Nat} {pos : Pos} (hN : X.N[i]? = some x) (hv : Vis X.env.scope x) (hd : (x == ("__debug__" : Str)) = false) (hc : (x == ("__classdict__" : Str)) = false) : PE X (.Name x pos) (tE X.K Φ wf (.fz i)) := by
  refine PE.weak (pe_var hN hv hd hc) fun σ H Q h => ?_
  obtain ⟨F, ρ, O, r, ρ', sr, wd, e, k⟩ := h
  have go : ∀ (d : D) (s s' : Sl), ρ[i]? = some s → r = .d d.frz → ρ' = ρ.set i s' → ((s = .v d ∧ s' = .v d.frz) ∨ (s = .bo d ∧ s' = .bo d.frz)) → tVar i σ H Q := by
    intro d s s' e1 e2 e3 e4
    subst e2 e3
    have hs : ∀ {F : Addr → Prop} {ov : Option V} {P : List Addr}, S1 X.K F H s ov P ↔ ∃ v, ov = some v ∧ VR X.K F H d v P := by
      intro F ov P
      rcases e4 with ⟨rfl, _⟩ | ⟨rfl, _⟩ <;> exact Iff.rfl
    have hs' : ∀ {F : Addr → Prop} {ov : Option V} {P : List Addr}, S1 X.K F H s' ov P ↔ ∃ v, ov = some v ∧ VR X.K F H d.frz v P := by
      intro F ov P
      rcases e4 with ⟨_, rfl⟩ | ⟨_, rfl⟩ <;> exact Iff.rfl
    obtain ⟨ov, P, O', a, b, c, q1, q2, _⟩ := slot_swap (s' := s') (fun P a => F a ∨ a ∈ P) sr wd e1 (fun P a h => .inl h) (fun P a h => h) fun ov P q1 q2 => by
      obtain ⟨v, rfl, hv⟩ := hs.mp q2
      exact hs'.mpr ⟨v, rfl, frz_ok (fun a h => .inl h) d v P (fun a ha => .inr ha) hv⟩
    obtain ⟨v, rfl, hv⟩ := hs.mp q2
    refine ⟨v, q1, k v _ H O' [] (nil_l a) b (frz_ok (fun a h => .inl h) d v P (fun a ha => .inr ha) hv) (nil_w c) (Kp.set e1 ?_ ?_)⟩
    · intro d' h'; rcases e4 with ⟨rfl, rfl⟩ | ⟨rfl, rfl⟩
      · cases h'
      · exact ⟨_, rfl⟩
    · intro d' h'; rcases e4 with ⟨rfl, rfl⟩ | ⟨rfl, rfl⟩ <;> cases h'
  simp only [evE] at e
  split at e
  · rename_i d e1
    cases e
    exact go d _ _ e1 rfl rfl (.inl ⟨rfl, rfl⟩)
  · rename_i d e1
    cases e
    exact go d _ _ e1 rfl rfl (.inr ⟨rfl, rfl⟩)
  · cases e
theorem se_mv {x : Str} {i : Nat} {pos : Pos} (hN : X.N[i]? = some x) (hv : Vis X.env.scope x) (hd : (x == ("__debug__" : Str)) = false) (hc : (x == ("__classdict__" : Str)) = false) : PE X (.Name x pos) (tE X.K Φ wf (.mv i)) := by
  refine PE.weak (pe_var hN hv hd hc) fun σ H Q h => ?_
  obtain ⟨F, ρ, O, r, ρ', sr, wd, e, k⟩ := h
  simp only [evE] at e
  split at e
  · rename_i d e1
    cases e
    obtain ⟨ov, P, O', q1, ⟨v, rfl, q2⟩, q3, q4⟩ := SR.take sr e1
    exact ⟨v, q1, k v F H O' P ⟨fun _ _ h _ => h, fun _ h => h, fun a ha => .inl (q4.symm.subset ha), fun _ h => .inl h⟩ q3 q2 (wd.perm q4) (Kp.set e1 (fun _ h => by cases h) (fun _ h => by cases h))⟩
  · cases e
theorem plain_Name {x : Str} {pos : Pos} : Plain (.Name x pos) := ⟨fun _ _ => rfl, fun _ _ => rfl, fun _ => rfl, fun _ _ => rfl, fun _ _ _ _ => rfl, fun _ tg _ => by cases tg <;> rfl⟩
theorem plain_Const {x j pos} : Plain (.Constant x j pos) := ⟨fun _ _ => rfl, fun _ _ => rfl, fun _ => rfl, fun _ _ => rfl, fun _ _ _ _ => rfl, fun _ tg _ => by cases tg <;> rfl⟩
theorem const_ok {c : C} {z : D} {e : Expr} {v : V} (hp : PE X e (tC v)) (he : ∀ ρ, evE Φ wf c ρ = some (.d z, ρ)) (hv : ∀ F H, VR X.K F H z v []) : PE X e (tE X.K Φ wf c) := by
  refine PE.weak hp fun σ H Q h => ?_
  obtain ⟨F, ρ, O, r, ρ', sr, wd, e, k⟩ := h
  rw [he] at e
  cases e
  exact k v F H O [] (nil_l Stp.refl) sr (hv F H) (nil_w wd) Kp.refl
theorem se_int {i : Int} {j pos} : SE X Φ wf (.Constant (.int i) j pos) (.int i) := ⟨const_ok (z := .int i) pe_int (fun _ => by simp only [evE]) (fun _ _ => by unfold VR; exact ⟨rfl, rfl⟩), plain_Const⟩
theorem se_bl {i : Bool} {j pos} : SE X Φ wf (.Constant (.bool i) j pos) (.bl i) := ⟨const_ok (z := .bl i) pe_bl (fun _ => by simp only [evE]) (fun _ _ => by unfold VR; exact ⟨rfl, rfl⟩), plain_Const⟩
theorem se_non {j pos} : SE X Φ wf (.Constant .none j pos) .non := ⟨const_ok (z := .non) pe_non (fun _ => by simp only [evE]) (fun _ _ => by unfold VR; exact ⟨rfl, rfl⟩), plain_Const⟩
theorem se_str {i : Str} {j pos} : SE X Φ wf (.Constant (.str i) j pos) (.str i) := ⟨const_ok (z := .str i) pe_str (fun _ => by simp only [evE]) (fun _ _ => by unfold VR; exact ⟨rfl, rfl⟩), plain_Const⟩

theorem bl_cases {α : Type} {ra : R} {f : Bool → Option α} {z : α} (h : (match ra with | .d (.bl b) => f b | _ => none) = some z) : ∃ b, ra = .d (.bl b) ∧ f b = some z := by
  cases ra with
  | pl i => cases h
  | d d => cases d <;> first | (cases h; done) | exact ⟨_, rfl, h⟩
theorem bl_cases2 {α : Type} {ra : R} {x y : Option α} {z : α} (h : (match ra with | .d (.bl true) => x | .d (.bl false) => y | _ => none) = some z) : (ra = .d (.bl true) ∧ x = some z) ∨ (ra = .d (.bl false) ∧ y = some z) := by
  cases ra with
  | pl i => cases h
  | d d =>
    cases d <;> first | (cases h; done) | skip
    rename_i b
    cases b
    · exact .inr ⟨rfl, h⟩
    · exact .inl ⟨rfl, h⟩
/-! ### operators -/
theorem plain_BinOp {a o b pos} : Plain (.BinOp a o b pos) := ⟨fun _ _ => rfl, fun _ _ => rfl, fun _ => rfl, fun _ _ => rfl, fun _ _ _ _ => rfl, fun _ tg _ => by cases tg <;> rfl⟩
theorem plain_UnaryOp {a o pos} : Plain (.UnaryOp o a pos) := ⟨fun _ _ => rfl, fun _ _ => rfl, fun _ => rfl, fun _ _ => rfl, fun _ _ _ _ => rfl, fun _ tg _ => by cases tg <;> rfl⟩
theorem plain_Compare {a o b pos} : Plain (.Compare a o b pos) := ⟨fun _ _ => rfl, fun _ _ => rfl, fun _ => rfl, fun _ _ => rfl, fun _ _ _ _ => rfl, fun _ tg _ => by cases tg <;> rfl⟩
theorem plain_BoolOp {o b pos} : Plain (.BoolOp o b pos) := ⟨fun _ _ => rfl, fun _ _ => rfl, fun _ => rfl, fun _ _ => rfl, fun _ _ _ _ => rfl, fun _ tg _ => by cases tg <;> rfl⟩
theorem plain_IfExp {a o b pos} : Plain (.IfExp a o b pos) := ⟨fun _ _ => rfl, fun _ _ => rfl, fun _ => rfl, fun _ _ => rfl, fun _ _ _ _ => rfl, fun _ tg _ => by cases tg <;> rfl⟩
theorem plain_Call {a o b pos} : Plain (.Call a o b pos) := ⟨fun _ _ => rfl, fun _ _ => rfl, fun _ => rfl, fun _ _ => rfl, fun _ _ _ _ => rfl, fun _ tg _ => by cases tg <;> rfl⟩
theorem plain_Subscript {a o pos} : Plain (.Subscript a o pos) := ⟨fun _ _ => rfl, fun _ _ => rfl, fun _ => rfl, fun _ _ => rfl, fun _ _ _ _ => rfl, fun _ tg _ => by cases tg <;> rfl⟩
theorem plain_Tuple {a o pos} : Plain (.Tuple a o pos) := ⟨fun _ _ => rfl, fun _ _ => rfl, fun _ => rfl, fun _ _ => rfl, fun _ _ _ _ => rfl, fun h => by cases h⟩
theorem plain_List {a pos} : Plain (.List a pos) := ⟨fun _ _ => rfl, fun _ _ => rfl, fun _ => rfl, fun _ _ => rfl, fun _ _ _ _ => rfl, fun _ tg _ => by cases tg <;> rfl⟩
theorem plain_LC {a b c pos} : Plain (.ListComp a b c pos) := ⟨fun _ _ => rfl, fun _ _ => rfl, fun _ => rfl, fun _ _ => rfl, fun h => by (cases h), fun _ tg _ => by cases tg <;> rfl⟩
variable {a b c : Expr} {ca cb cc : C} {pos : Pos}
theorem se_bin {o : Operator} (ha : SE X Φ wf a ca) (hb : SE X Φ wf b cb) : SE X Φ wf (.BinOp a o b pos) (.bin o ca cb) := by
  refine ⟨PE.weak (pe_op op_bin ha.pe hb.pe) fun σ H Q h => ?_, plain_BinOp⟩
  obtain ⟨F, ρ, O, r, ρ', sr, wd, e, k⟩ := h
  simp only [evE] at e
  obtain ⟨⟨ra, ρ1⟩, e1, e⟩ := some_bind e
  obtain ⟨⟨rb, ρ2⟩, e2, e⟩ := some_bind e
  obtain ⟨x, e3, e⟩ := some_bind e
  obtain ⟨y, e4, e⟩ := some_bind e
  obtain ⟨z, e5, e⟩ := some_bind e
  cases e
  exact two sr wd e1 e2 fun vx vy F2 H2 O2 Pa Pb st sr2 h1 h2 wd2 kp => by
    obtain ⟨P1, q1⟩ := rd_ok sr2 h1 e3
    obtain ⟨P2, q2⟩ := rd_ok sr2 h2 e4
    exact ⟨F2, x, y, P1, P2, z, wd2.ft, q1, q2, e5, close st sr2 wd2 kp k⟩
theorem se_neg (ha : SE X Φ wf a ca) : SE X Φ wf (.UnaryOp .USub a pos) (.neg ca) := by
  refine ⟨PE.weak (pe_un un_negD ha.pe) fun σ H Q h => ?_, plain_UnaryOp⟩
  obtain ⟨F, ρ, O, r, ρ', sr, wd, e, k⟩ := h
  simp only [evE] at e
  obtain ⟨⟨ra, ρ1⟩, e1, e⟩ := some_bind e
  obtain ⟨x, e3, e⟩ := some_bind e
  obtain ⟨z, e5, e⟩ := some_bind e
  cases e
  exact ⟨F, ρ, O, ra, ρ1, sr, wd, e1, fun vx F2 H2 O2 P st sr2 h1 wd2 kp => by
    obtain ⟨P1, q1⟩ := rd_ok sr2 h1 e3
    exact ⟨F2, x, P1, z, wd2.ft, q1, e5, close st sr2 wd2 kp k⟩⟩
theorem se_not (ha : SE X Φ wf a ca) : SE X Φ wf (.UnaryOp .Not a pos) (.not ca) := by
  refine ⟨PE.weak (pe_not ha.pe) fun σ H Q h => ?_, plain_UnaryOp⟩
  obtain ⟨F, ρ, O, r, ρ', sr, wd, e, k⟩ := h
  simp only [evE] at e
  obtain ⟨⟨ra, ρ1⟩, e1, e⟩ := some_bind e
  obtain ⟨b, rfl, e⟩ := bl_cases e
  cases e
  exact ⟨F, ρ, O, _, _, sr, wd, e1, fun vx F2 H2 O2 P st sr2 h1 wd2 kp => ⟨_, vr_b (show VR X.K F2 H2 (.bl _) vx P from h1), (close st sr2 wd2 kp k).bl wd2.ft⟩⟩
theorem se_cmp {o : CmpOp} (hu : X.A.units + 65 < cLine) (ha : SE X Φ wf a ca) (hb : SE X Φ wf b cb) : SE X Φ wf (.Compare a [o] [b] pos) (.cmp o ca cb) := by
  refine ⟨PE.weak (pe_cmpR (op_cmp hu) ha.pe hb.pe (hb.pl.bm o)) fun σ H Q h => ?_, plain_Compare⟩
  obtain ⟨F, ρ, O, r, ρ', sr, wd, e, k⟩ := h
  simp only [evE] at e
  obtain ⟨⟨ra, ρ1⟩, e1, e⟩ := some_bind e
  obtain ⟨⟨rb, ρ2⟩, e2, e⟩ := some_bind e
  obtain ⟨x, e3, e⟩ := some_bind e
  obtain ⟨y, e4, e⟩ := some_bind e
  obtain ⟨z, e5, e⟩ := some_bind e
  cases e
  exact two sr wd e1 e2 fun vx vy F2 H2 O2 Pa Pb st sr2 h1 h2 wd2 kp => by
    obtain ⟨P1, q1⟩ := rd_ok sr2 h1 e3
    obtain ⟨P2, q2⟩ := rd_ok sr2 h2 e4
    exact ⟨F2, x, y, P1, P2, z, q1, q2, e5, (close st sr2 wd2 kp k).bl wd2.ft⟩
theorem st_cmp {o : CmpOp} (hu : X.A.units + 65 < cLine) (ha : SE X Φ wf a ca) (hb : SE X Φ wf b cb) : ST X Φ wf (.Compare a [o] [b] pos) (.cmp o ca cb) := by
  refine PT.weak (pt_cmpR (op_cmp hu) ha.pe hb.pe (hb.pl.bm o)) fun σ H Q h => ?_
  obtain ⟨F, ρ, O, r, ρ', sr, wd, e, k⟩ := h
  simp only [evT] at e
  obtain ⟨⟨ra, ρ1⟩, e1, e⟩ := some_bind e
  obtain ⟨⟨rb, ρ2⟩, e2, e⟩ := some_bind e
  obtain ⟨x, e3, e⟩ := some_bind e
  obtain ⟨y, e4, e⟩ := some_bind e
  obtain ⟨z, e5, e⟩ := some_bind e
  cases e
  exact two sr wd e1 e2 fun vx vy F2 H2 O2 Pa Pb st sr2 h1 h2 wd2 kp => by
    obtain ⟨P1, q1⟩ := rd_ok sr2 h1 e3
    obtain ⟨P2, q2⟩ := rd_ok sr2 h2 e4
    exact ⟨F2, x, y, P1, P2, _, q1, q2, e5, _, rfl, k F2 H2 O2 (sub0 st) sr2 wd2.left kp⟩
/-- a chain of two comparisons -/
theorem chain_red {K : PySem.W.Frag} {o o2 : CmpOp} {F : Addr → Prop} {H : Hp} {O : List Addr} {ρ : Env} {σ : L2.St} {z : Bool} {ρ' : Env} {Rz : Bool → Hp → Prop} {Q : VK}
    (sr : SR K F H ρ σ O) (wd : Wd F H O) (hE : ∀ b H', Rz b H' → Q (.bl b) H')
    (e : ((evE Φ wf ca ρ).bind fun (ra, ρ1) => (evE Φ wf cb ρ1).bind fun (rb, ρ2) =>
      (rd ρ2 ra).bind fun x => (rd ρ2 rb).bind fun y => (cmpD o x y).bind fun z =>
        if z then (evE Φ wf cc ρ2).bind fun (rc, ρ3) => (rd ρ3 rb).bind fun y' => (rd ρ3 rc).bind fun w => (cmpD o2 y' w).bind fun z2 => some (z2, ρ3)
        else some (false, ρ2)) = some (z, ρ'))
    (k : ∀ F' H' O', Stp F H O F' H' O' → SR K F' H' ρ' σ O' → Wd F' H' O' → Kp ρ ρ' → Rz z H') : tChain (rCmp K o) (rCmp K o2) (tE K Φ wf ca) (tE K Φ wf cb) (tE K Φ wf cc) σ H Q := by
  obtain ⟨⟨ra, ρ1⟩, e1, e⟩ := some_bind e
  obtain ⟨⟨rb, ρ2⟩, e2, e⟩ := some_bind e
  obtain ⟨x, e3, e⟩ := some_bind e
  obtain ⟨y, e4, e⟩ := some_bind e
  obtain ⟨z1, e5, e⟩ := some_bind e
  refine two sr wd e1 e2 fun vx vy F2 H2 O2 Pa Pb st sr2 h1 h2 wd2 kp => ?_
  obtain ⟨P1, q1⟩ := rd_ok sr2 h1 e3
  obtain ⟨P2, q2⟩ := rd_ok sr2 h2 e4
  refine ⟨F2, x, y, P1, P2, z1, q1, q2, e5, z1, rfl, ?_⟩
  cases z1 with
  | false =>
    have e : some (false, ρ2) = some (z, ρ') := e
    cases e
    exact hE _ _ (k F2 H2 O2 (sub0 st) sr2 wd2.left kp)
  | true =>
    obtain ⟨⟨rc, ρ3⟩, e6, e⟩ := some_bind (show (evE Φ wf cc ρ2).bind _ = some (z, ρ') from e)
    obtain ⟨y', e7, e⟩ := some_bind e
    obtain ⟨w, e8, e⟩ := some_bind e
    obtain ⟨z2, e9, e⟩ := some_bind e
    cases e
    have wb : Wd F2 H2 (O2 ++ Pb) := wd2.sub ((List.sublist_append_right Pa Pb).append_left O2)
    exact ⟨F2, ρ2, O2, rc, _, sr2, wd2.left, e6, fun vc F3 H3 O3 Pc st3 sr3 h3 wd3 kp3 => by
      obtain ⟨P3, q3⟩ := rd_ok sr3 (RR.stp wb.left st3 wb.apart h2) e7
      obtain ⟨P4, q4⟩ := rd_ok sr3 h3 e8
      exact ⟨F3, y', w, P3, P4, _, q3, q4, e9, hE _ _ (k F3 H3 O3 ((sub0 st).trans (sub0 st3)) sr3 wd3.left (kp.trans kp3))⟩⟩
theorem se_chn {o o2 : CmpOp} (hu : X.A.units + 65 < cLine) (ha : SE X Φ wf a ca) (hb : SE X Φ wf b cb) (hc : SE X Φ wf c cc) : SE X Φ wf (.Compare a [o, o2] [b, c] pos) (.chn o o2 ca cb cc) := by
  refine ⟨PE.weak (pe_chain (op_cmp hu) (op_cmp hu) ha.pe hb.pe hc.pe (hc.pl.bm o2)) fun σ H Q h => ?_, plain_Compare⟩
  obtain ⟨F, ρ, O, r, ρ', sr, wd, e, k⟩ := h
  simp only [evE] at e
  obtain ⟨⟨z, ρ4⟩, e1, e2⟩ := some_bind e
  cases e2
  exact chain_red (Rz := fun b H' => Q (.bl b) H') sr wd (fun _ _ q => q) e1 fun F' H' O' st sr' wd' kp => (close (nil_l st) sr' (nil_w wd') kp k).bl wd'.ft
theorem st_chn {o o2 : CmpOp} (hu : X.A.units + 65 < cLine) (ha : SE X Φ wf a ca) (hb : SE X Φ wf b cb) (hc : SE X Φ wf c cc) : ST X Φ wf (.Compare a [o, o2] [b, c] pos) (.chn o o2 ca cb cc) := by
  refine PT.weak (pt_chain (op_cmp hu) (op_cmp hu) ha.pe hb.pe hc.pe (hc.pl.bm o2)) fun σ H Q h => ?_
  obtain ⟨F, ρ, O, z, ρ', sr, wd, e, k⟩ := h
  simp only [evT] at e
  exact chain_red (Rz := fun b H' => Q b H') sr wd (fun b _ q => ⟨b, rfl, q⟩) e k
theorem se_and1 {rest : List Expr} {op : BoolOp} (ha : SE X Φ wf a ca) : SE X Φ wf (.BoolOp op [a] pos) ca := ⟨pe_one ha.pe, plain_BoolOp⟩
theorem se_and {rest : List Expr} (ha : SE X Φ wf a ca) (hb : SE X Φ wf (.BoolOp .And (b :: rest) pos) cb) : SE X Φ wf (.BoolOp .And (a :: b :: rest) pos) (.and ca cb) := by
  refine ⟨PE.weak (pe_and ha.pe hb.pe) fun σ H Q h => ?_, plain_BoolOp⟩
  obtain ⟨F, ρ, O, r, ρ', sr, wd, e, k⟩ := h
  simp only [evE] at e
  obtain ⟨⟨ra, ρ1⟩, e1, e⟩ := some_bind e
  refine ⟨F, ρ, O, ra, ρ1, sr, wd, e1, fun vx F2 H2 O2 P st sr2 h1 wd2 kp => ?_⟩
  rcases bl_cases2 e with ⟨rfl, e⟩ | ⟨rfl, e⟩
  · have h1 : VR X.K F2 H2 (.bl true) vx P := h1
    refine ⟨true, vr_b h1, F2, ρ1, O2, r, ρ', sr2, wd2.left, e, fun v F3 H3 O3 P3 st3 sr3 r3 wd3 kp3 => k v F3 H3 O3 P3 ((sub0 st).trans st3) sr3 r3 wd3 (kp.trans kp3)⟩
  · cases e
    exact ⟨false, vr_b (show VR X.K F2 H2 (.bl false) vx P from h1), (close st sr2 wd2 kp k).bl wd2.ft⟩
theorem se_or {rest : List Expr} (ha : SE X Φ wf a ca) (hb : SE X Φ wf (.BoolOp .Or (b :: rest) pos) cb) : SE X Φ wf (.BoolOp .Or (a :: b :: rest) pos) (.or ca cb) := by
  refine ⟨PE.weak (pe_or ha.pe hb.pe) fun σ H Q h => ?_, plain_BoolOp⟩
  obtain ⟨F, ρ, O, r, ρ', sr, wd, e, k⟩ := h
  simp only [evE] at e
  obtain ⟨⟨ra, ρ1⟩, e1, e⟩ := some_bind e
  refine ⟨F, ρ, O, ra, ρ1, sr, wd, e1, fun vx F2 H2 O2 P st sr2 h1 wd2 kp => ?_⟩
  rcases bl_cases2 e with ⟨rfl, e⟩ | ⟨rfl, e⟩
  · cases e
    exact ⟨true, vr_b (show VR X.K F2 H2 (.bl true) vx P from h1), (close st sr2 wd2 kp k).bl wd2.ft⟩
  · have h1 : VR X.K F2 H2 (.bl false) vx P := h1
    refine ⟨false, vr_b h1, F2, ρ1, O2, r, ρ', sr2, wd2.left, e, fun v F3 H3 O3 P3 st3 sr3 r3 wd3 kp3 => k v F3 H3 O3 P3 ((sub0 st).trans st3) sr3 r3 wd3 (kp.trans kp3)⟩
theorem se_ite {t : Expr} {ct : C} (hc : ST X Φ wf t ct) (ha : SE X Φ wf a ca) (hb : SE X Φ wf b cb) : SE X Φ wf (.IfExp t a b pos) (.ite ct ca cb) := by
  refine ⟨PE.weak (pe_ifExp hc ha.pe hb.pe) fun σ H Q h => ?_, plain_IfExp⟩
  obtain ⟨F, ρ, O, r, ρ', sr, wd, e, k⟩ := h
  simp only [evE] at e
  obtain ⟨⟨t, ρ1⟩, e1, e⟩ := some_bind e
  refine ⟨F, ρ, O, t, ρ1, sr, wd, e1, fun F2 H2 O2 st sr2 wd2 kp => ?_⟩
  have k2 : ∀ v F' H' O' P, Stp F2 H2 O2 F' H' (O' ++ P) → SR X.K F' H' ρ' σ O' → RR X.K F' H' σ r v P → Wd F' H' (O' ++ P) → Kp ρ1 ρ' → Q v H' := fun v F3 H3 O3 P3 st3 sr3 r3 wd3 kp3 => k v F3 H3 O3 P3 (st.trans st3) sr3 r3 wd3 (kp.trans kp3)
  cases t with
  | true => exact ⟨F2, ρ1, O2, r, ρ', sr2, wd2, e, k2⟩
  | false => exact ⟨F2, ρ1, O2, r, ρ', sr2, wd2, e, k2⟩

/-! ### tests -/
theorem st_not (ha : ST X Φ wf a ca) : ST X Φ wf (.UnaryOp .Not a pos) (.not ca) := by
  refine PT.weak (pt_not ha) fun σ H Q h => ?_
  obtain ⟨F, ρ, O, z, ρ', sr, wd, e, k⟩ := h
  simp only [evT] at e
  obtain ⟨⟨t, ρ1⟩, e1, e⟩ := some_bind e
  cases e
  exact ⟨F, ρ, O, t, _, sr, wd, e1, k⟩
def SW (X : Cx) (Φ : Nat → List Sl → Option (D × List Sl)) (wf : Nat) (e : Expr) (c : C) : Prop := PW X e (tT X.K Φ wf c)
theorem sw_and1 (ha : ST X Φ wf a ca) : SW X Φ wf (.BoolOp .And [a] pos) ca := pw_and1 ha
theorem sw_or1 (ha : ST X Φ wf a ca) : SW X Φ wf (.BoolOp .Or [a] pos) ca := pw_or1 ha
theorem sw_and {rest : List Expr} (ha : ST X Φ wf a ca) (hb : SW X Φ wf (.BoolOp .And (b :: rest) pos) cb) : SW X Φ wf (.BoolOp .And (a :: b :: rest) pos) (.and ca cb) := by
  refine PW.weak (pw_and ha hb) fun σ H Q h => ?_
  obtain ⟨F, ρ, O, z, ρ', sr, wd, e, k⟩ := h
  simp only [evT] at e
  obtain ⟨⟨t, ρ1⟩, e1, e⟩ := some_bind e
  refine ⟨F, ρ, O, t, ρ1, sr, wd, e1, fun F2 H2 O2 st sr2 wd2 kp => ?_⟩
  cases t with
  | true => exact ⟨F2, ρ1, O2, z, ρ', sr2, wd2, e, fun F3 H3 O3 st3 sr3 wd3 kp3 => k F3 H3 O3 (st.trans st3) sr3 wd3 (kp.trans kp3)⟩
  | false =>
    have e : some (false, ρ1) = some (z, ρ') := e
    cases e
    exact k F2 H2 O2 st sr2 wd2 kp
theorem sw_or {rest : List Expr} (ha : ST X Φ wf a ca) (hb : SW X Φ wf (.BoolOp .Or (b :: rest) pos) cb) : SW X Φ wf (.BoolOp .Or (a :: b :: rest) pos) (.or ca cb) := by
  refine PW.weak (pw_or ha hb) fun σ H Q h => ?_
  obtain ⟨F, ρ, O, z, ρ', sr, wd, e, k⟩ := h
  simp only [evT] at e
  obtain ⟨⟨t, ρ1⟩, e1, e⟩ := some_bind e
  refine ⟨F, ρ, O, t, ρ1, sr, wd, e1, fun F2 H2 O2 st sr2 wd2 kp => ?_⟩
  cases t with
  | false => exact ⟨F2, ρ1, O2, z, ρ', sr2, wd2, e, fun F3 H3 O3 st3 sr3 wd3 kp3 => k F3 H3 O3 (st.trans st3) sr3 wd3 (kp.trans kp3)⟩
  | true =>
    have e : some (true, ρ1) = some (z, ρ') := e
    cases e
    exact k F2 H2 O2 st sr2 wd2 kp
/-- an expression whose test is its value's truth -/
theorem st_tst (ha : SE X Φ wf a ca) (he : ∀ whole, isTrue a X.env whole = (do let v ← whole; standAt a.pos; holding [v] (truthy v))) : ST X Φ wf a (.tst ca) := by
  refine PT.weak (pt_truth ha.pe he) fun σ H Q h => ?_
  obtain ⟨F, ρ, O, z, ρ', sr, wd, e, k⟩ := h
  simp only [evT] at e
  obtain ⟨⟨ra, ρ1⟩, e1, e⟩ := some_bind e
  obtain ⟨x, e2, e⟩ := some_bind e
  obtain ⟨b, e3, e⟩ := some_bind e
  cases e
  exact ⟨F, ρ, O, ra, _, sr, wd, e1, fun vx F2 H2 O2 P st sr2 h1 wd2 kp => by
    obtain ⟨P1, q1⟩ := rd_ok sr2 h1 e2
    exact ⟨_, truD_ok q1 e3, k F2 H2 O2 (sub0 st) sr2 wd2.left kp⟩⟩

/-! ### lists of expressions -/
theorem sa_nil : SA X Φ wf [] .nil := by
  refine ⟨PA.weak pa_nil fun σ H Q h => ?_, fun _ => rfl⟩
  obtain ⟨F, ρ, O, rs, ρ', sr, wd, e, k⟩ := h
  simp only [evA] at e
  cases e
  exact k [] F H O [] (nil_l Stp.refl) sr ⟨rfl, rfl⟩ (nil_w wd) Kp.refl
theorem sa_cons {es : List Expr} {cs : C} (ha : SE X Φ wf a ca) (hs : SA X Φ wf es cs) : SA X Φ wf (a :: es) (.cons ca cs) := by
  refine ⟨PA.weak (pa_cons ha.pe hs.pa (ha.pl.st es X.env)) fun σ H Q h => ?_, fun env => by rw [ha.pl.st es env, hs.st env]; rfl⟩
  obtain ⟨F, ρ, O, rs, ρ', sr, wd, e, k⟩ := h
  simp only [evA] at e
  obtain ⟨⟨ra, ρ1⟩, e1, e⟩ := some_bind e
  obtain ⟨⟨rt, ρ2⟩, e2, e⟩ := some_bind e
  cases e
  exact ⟨F, ρ, O, ra, ρ1, sr, wd, e1, fun vx F1 H1 O1 P1 st1 sr1 h1 wd1 kp1 => ⟨F1, ρ1, O1, rt, _, sr1, wd1.left, e2, fun vs F2 H2 O2 P2 st2 sr2 h2 wd2 kp2 =>
    k (vx :: vs) F2 H2 O2 (P1 ++ P2) (st1.two st2) sr2 ⟨vx, vs, P1, P2, rfl, RR.stp wd1.left st2 wd1.apart h1, h2, rfl⟩ (wd1.two st2 wd2) (kp1.trans kp2)⟩⟩
theorem se_tup {es : List Expr} {cs : C} {x1} (hs : SA X Φ wf es cs) : SE X Φ wf (.Tuple es x1 pos) (.tup cs) := by
  refine ⟨PE.weak (pe_tup hs.pa) fun σ H Q h => ?_, plain_Tuple⟩
  obtain ⟨F, ρ, O, r, ρ', sr, wd, e, k⟩ := h
  simp only [evE] at e
  obtain ⟨⟨rs, ρ1⟩, e1, e⟩ := some_bind e
  obtain ⟨ds, e2, e⟩ := some_bind e
  split at e
  · rename_i hl
    cases e
    refine ⟨F, ρ, O, rs, _, sr, wd, e1, fun vs F2 H2 O2 P st sr2 h1 wd2 kp => ?_⟩
    have hv := vals_ok h1 e2
    refine ⟨by rw [VRL.length _ _ _ hv, ← lim_eq]; exact hl, fun p hp => ?_⟩
    obtain ⟨n1, n2, n3⟩ := new_tup wd2.right hv hp
    have s0 : Stp F2 H2 [] F2 (upd H2 p (.tup vs)) [] := ⟨fun a u e _ => by rw [upd_ne (ne_of_none e hp)]; exact e, fun _ h => h, fun a ha => (nomatch ha), fun _ h => .inl h⟩
    have n0 : Wd F2 (upd H2 p (.tup vs)) [] := wd_nil n3.ft
    obtain ⟨b1, b2, b3⟩ := fin_new wd2.left sr2 s0 n0
    have b4 : Wd F2 (upd H2 p (.tup vs)) (O2 ++ P) := (Wd.join (O := []) (P := O2 ++ P) wd2 s0 n0)
    exact k _ F2 _ O2 P (st.trans (⟨fun a u e _ => s0.fr a u e (by simp), fun _ h => h, fun a ha => .inl ha, fun _ h => .inl h⟩ : Stp F2 H2 (O2 ++ P) F2 _ (O2 ++ P))) b1 n2 b4 kp
  · cases e
theorem se_lst {es : List Expr} {cs : C} (hs : SA X Φ wf es cs) : SE X Φ wf (.List es pos) (.lst cs) := by
  refine ⟨PE.weak (pe_lst hs.pa) fun σ H Q h => ?_, plain_List⟩
  obtain ⟨F, ρ, O, r, ρ', sr, wd, e, k⟩ := h
  simp only [evE] at e
  obtain ⟨⟨rs, ρ1⟩, e1, e⟩ := some_bind e
  obtain ⟨ds, e2, e⟩ := some_bind e
  split at e
  · rename_i hl
    cases e
    refine ⟨F, ρ, O, rs, _, sr, wd, e1, fun vs F2 H2 O2 P st sr2 h1 wd2 kp => ?_⟩
    have hv := vals_ok h1 e2
    refine ⟨by rw [VRL.length _ _ _ hv, ← lim_eq]; exact hl, fun p hp => ?_⟩
    obtain ⟨n1, n2, n3⟩ := new_lst wd2.right hv hp
    have s0 : Stp F2 H2 [] F2 (upd H2 p (.lst vs)) [p] := stp_new hp
    have n0 : Wd F2 (upd H2 p (.lst vs)) [p] := n3.sub (by simp)
    have b1 : SR X.K F2 (upd H2 p (.lst vs)) _ σ O2 := SR.stp (O := []) (O' := [p]) (wd_nil wd2.ft) s0 (fun _ _ z => (nomatch z)) sr2
    have b4 : Wd F2 (upd H2 p (.lst vs)) ([p] ++ (O2 ++ P)) := (Wd.join (O := []) (P := O2 ++ P) wd2 s0 n0)
    have pe : ([p] ++ (O2 ++ P)).Perm (O2 ++ (p :: P)) := by
      show (p :: (O2 ++ P)).Perm _
      exact List.perm_middle.symm
    have s1 : Stp F2 H2 (O2 ++ P) F2 (upd H2 p (.lst vs)) (O2 ++ (p :: P)) := (s0.more (P := O2 ++ P)).sub fun x hx => pe.symm.subset hx
    exact k _ F2 _ O2 (p :: P) (st.trans s1) b1 n2 (b4.perm pe) kp
  · cases e
theorem se_idx (ha : SE X Φ wf a ca) (hb : SE X Φ wf b cb) : SE X Φ wf (.Subscript a b pos) (.idx ca cb) := by
  refine ⟨PE.weak (pe_ix ix_all ha.pe hb.pe hb.pl.ix) fun σ H Q h => ?_, plain_Subscript⟩
  obtain ⟨F, ρ, O, r, ρ', sr, wd, e, k⟩ := h
  simp only [evE] at e
  obtain ⟨⟨ra, ρ1⟩, e1, e⟩ := some_bind e
  obtain ⟨⟨rb, ρ2⟩, e2, e⟩ := some_bind e
  obtain ⟨x, e3, e⟩ := some_bind e
  obtain ⟨y, e4, e⟩ := some_bind e
  obtain ⟨z, e5, e⟩ := some_bind e
  cases e
  exact two sr wd e1 e2 fun vx vy F2 H2 O2 Pa Pb st sr2 h1 h2 wd2 kp => by
    obtain ⟨P1, q1⟩ := rd_ok sr2 h1 e3
    obtain ⟨P2, q2⟩ := rd_ok sr2 h2 e4
    exact ⟨F2, x, y, P1, P2, z, wd2.ft, q1, q2, e5, close st sr2 wd2 kp k⟩
theorem so_none : PO X none (tO X.K Φ wf .nil) := ⟨fun pins s σ H Q I h => po_none.run pins s σ H Q I (by
  obtain ⟨F, ρ, O, o, ρ', sr, wd, e, k⟩ := h
  simp only [evO] at e
  cases e
  exact k F H O Stp.refl sr wd Kp.refl)⟩
theorem so_some (ha : SE X Φ wf a ca) : PO X (some a) (tO X.K Φ wf (.one ca)) := ⟨fun pins s σ H Q I h => (po_some ha.pe).run pins s σ H Q I (by
  obtain ⟨F, ρ, O, o, ρ', sr, wd, e, k⟩ := h
  simp only [evO] at e
  obtain ⟨⟨r, ρ1⟩, e1, e⟩ := some_bind e
  refine ⟨F, ρ, O, r, ρ1, sr, wd, e1, fun v F2 H2 O2 P st sr2 rr wd2 kp => ?_⟩
  cases r with
  | pl i => cases e
  | d d =>
    cases d <;> first | (cases e; done) | skip
    cases e
    rename_i i
    have rr : VR X.K F2 H2 (.int i) v P := rr
    exact ⟨_, vr_i rr, k F2 H2 O2 (sub0 st) sr2 wd2.left kp⟩)⟩
theorem se_slc {lo hi : Option Expr} {clo chi : C} {p2 : Pos} (ha : SE X Φ wf a ca) (hl : PO X lo (tO X.K Φ wf clo)) (hh : PO X hi (tO X.K Φ wf chi)) : SE X Φ wf (.Subscript a (.Slice lo hi none p2) pos) (.slc ca clo chi) := by
  refine ⟨PE.weak (pe_slice sl_all ha.pe hl hh) fun σ H Q h => ?_, plain_Subscript⟩
  obtain ⟨F, ρ, O, r, ρ', sr, wd, e, k⟩ := h
  simp only [evE] at e
  obtain ⟨⟨ra, ρ1⟩, e1, e⟩ := some_bind e
  obtain ⟨⟨l, ρ2⟩, e2, e⟩ := some_bind e
  obtain ⟨⟨u, ρ3⟩, e3, e⟩ := some_bind e
  obtain ⟨x, e4, e⟩ := some_bind e
  obtain ⟨z, e5, e⟩ := some_bind e
  cases e
  refine ⟨F, ρ, O, ra, ρ1, sr, wd, e1, fun vx F1 H1 O1 P1 st1 sr1 rr1 wd1 kp1 => ⟨F1, ρ1, O1, l, ρ2, sr1, wd1.left, e2, fun F2 H2 O2 st2 sr2 wd2 kp2 => ⟨F2, ρ2, O2, u, _, sr2, wd2, e3, fun F3 H3 O3 st3 sr3 wd3 kp3 => ?_⟩⟩⟩
  have st12 : Stp F H O F2 H2 (O2 ++ P1) := st1.trans st2.more
  have wd12 : Wd F2 H2 (O2 ++ P1) := wd1.join st2 wd2
  have st13 : Stp F H O F3 H3 (O3 ++ P1) := st12.trans st3.more
  have wd13 : Wd F3 H3 (O3 ++ P1) := wd12.join st3 wd3
  have rr3 := RR.stp wd2 st3 wd12.apart (RR.stp wd1.left st2 wd1.apart rr1)
  obtain ⟨P', q⟩ := rd_ok sr3 rr3 e4
  have st13' : Stp F H O F3 H3 (O3 ++ (P1 ++ [])) := by rw [List.append_nil]; exact st13
  have wd13' : Wd F3 H3 (O3 ++ (P1 ++ [])) := by rw [List.append_nil]; exact wd13
  exact ⟨F3, x, P', z, wd3.ft, q, e5, close st13' sr3 wd13' (kp1.trans (kp2.trans kp3)) k⟩
/-- a built-in called -/
theorem se_blt {f : Expr} {es : List Expr} {kw} {n : Blt} {cs : C} (hp : ∀ t, PA X es t → PE X (.Call f es kw pos) (tCB (rB X.K (bltD n)) t)) (hs : SA X Φ wf es cs) : SE X Φ wf (.Call f es kw pos) (.blt n cs) := by
  refine ⟨PE.weak (hp _ hs.pa) fun σ H Q h => ?_, plain_Call⟩
  obtain ⟨F, ρ, O, r, ρ', sr, wd, e, k⟩ := h
  simp only [evE] at e
  obtain ⟨⟨rs, ρ1⟩, e1, e⟩ := some_bind e
  obtain ⟨ds, e2, e⟩ := some_bind e
  obtain ⟨z, e3, e⟩ := some_bind e
  cases e
  exact ⟨F, ρ, O, rs, _, sr, wd, e1, fun vs F2 H2 O2 P st sr2 h1 wd2 kp => by
    obtain ⟨P1, q1⟩ := rds_ok sr2 h1 e2
    exact ⟨F2, ds, P1, z, wd2.ft, q1, e3, close st sr2 wd2 kp k⟩⟩
/-- isinstance(e, T) -/
theorem se_isi {t : String} {p p2 : Pos} {x : Str} (hg : Gl X "isinstance") (hm : X.mg "isinstance" = none) (hg2 : Gl X x) (hm2 : X.mg x = none) (hv2 : bootBuiltins x = some (.type t)) (hn : x ≠ "__name__") (hd : (x == ("__debug__" : Str)) = false)
    (ha : SE X Φ wf a ca) : SE X Φ wf (.Call (.Name "isinstance" p) [a, .Name x p2] [] pos) (.isi ca t) := by
  have pn : PE X (.Name x p2) (tC (.ty t)) := pe_bltn hg2 hm2 hv2 rfl hn hd
  refine ⟨PE.weak (pe_callB call_isi hg hm (by decide +kernel) (pa_cons ha.pe (pa_cons pn pa_nil) (ha.pl.st _ _)) (he := ha.pl.st _ _)) fun σ H Q h => ?_, plain_Call⟩
  obtain ⟨F, ρ, O, r, ρ', sr, wd, e, k⟩ := h
  simp only [evE] at e
  obtain ⟨⟨ra, ρ1⟩, e1, e⟩ := some_bind e
  obtain ⟨d, e2, e⟩ := some_bind e
  obtain ⟨b, e3, e⟩ := some_bind e
  cases e
  exact ⟨F, ρ, O, ra, _, sr, wd, e1, fun vx F2 H2 O2 P st sr2 h1 wd2 kp => by
    obtain ⟨P1, q1⟩ := rd_ok sr2 h1 e2
    exact ⟨vx, .ty t, .type (tyD d), .type t, b, rfl, .ty t, tyD_ok q1, kit_ty e3, (close st sr2 wd2 kp k).bl wd2.ft⟩⟩
theorem rng_new {F2 : Addr → Prop} {H2 : Hp} {O2 P O : List Addr} {F : Addr → Prop} {H : Hp} {σ : L2.St} {ρ ρ1 : Env} {Q : VK} {lo hi : Int} (sr2 : SR X.K F2 H2 ρ1 σ O2) (st : Stp F H O F2 H2 (O2 ++ P)) (wd2 : Wd F2 H2 (O2 ++ P)) (kp : Kp ρ ρ1)
    (k : ∀ v F' H' O' P, Stp F H O F' H' (O' ++ P) → SR X.K F' H' ρ1 σ O' → RR X.K F' H' σ (.d (.own (rngD lo hi))) v P → Wd F' H' (O' ++ P) → Kp ρ ρ1 → Q v H') : ∀ q, H2 q = none → Q (.ref q) (upd H2 q (.lst (rgV lo hi))) := fun p hp => by
  have hv : VRL X.K F2 H2 (rngD lo hi) (rgV lo hi) [] := by
    unfold rngD rgV
    generalize List.range (hi - lo).toNat = ks
    induction ks with
    | nil => unfold VRL; exact ⟨rfl, rfl⟩
    | cons a ks ih =>
      rw [List.map_cons, List.map_cons]
      unfold VRL
      exact ⟨_, _, [], [], rfl, by unfold VR; exact ⟨rfl, rfl⟩, ih, rfl⟩
  have st' := sub0 st
  have wd' := nil_w wd2.left
  obtain ⟨n1, n2, n3⟩ := new_lst wd'.right hv hp
  have s0 : Stp F2 H2 [] F2 (upd H2 p (.lst (rgV lo hi))) [p] := stp_new hp
  have n0 : Wd F2 (upd H2 p (.lst (rgV lo hi))) [p] := n3.sub (by simp)
  have b1 : SR X.K F2 (upd H2 p (.lst (rgV lo hi))) _ σ O2 := SR.stp (O := []) (O' := [p]) (wd_nil wd'.ft) s0 (fun _ _ z => (nomatch z)) sr2
  have b4 : Wd F2 (upd H2 p (.lst (rgV lo hi))) ([p] ++ (O2 ++ [])) := (Wd.join (O := []) (P := O2 ++ []) wd' s0 n0)
  have pe : ([p] ++ (O2 ++ [])).Perm (O2 ++ [p]) := by
    rw [List.append_nil]
    show (p :: O2).Perm _
    exact (List.perm_append_singleton p O2).symm
  have s1 : Stp F2 H2 (O2 ++ []) F2 (upd H2 p (.lst (rgV lo hi))) (O2 ++ [p]) := (s0.more (P := O2 ++ [])).sub fun x hx => pe.symm.subset hx
  rw [List.append_nil] at s1
  exact k _ F2 _ O2 [p] (st'.trans s1) b1 n2 (b4.perm pe) kp
theorem se_lrng1 {p1 p2 q2 : Pos} (hc : X.calm = true) (hg : Gl X "list") (hm : X.mg "list" = none) (hg2 : Gl X "range") (hm2 : X.mg "range" = none) (ha : SE X Φ wf a ca) : SE X Φ wf (.Call (.Name "list" p1) [.Call (.Name "range" p2) [a] [] q2] [] pos) (.lrng1 ca) := by
  refine ⟨PE.weak (pe_listRg hc hg hm (prg_1 hg2 hm2 ha.pe (ha.pl.st _ _)) rfl) fun σ H Q h => ?_, plain_Call⟩
  obtain ⟨F, ρ, O, r, ρ', sr, wd, e, k⟩ := h
  simp only [evE] at e
  obtain ⟨⟨ra, ρ1⟩, e1, e⟩ := some_bind e
  obtain ⟨ds, e2, e⟩ := some_bind e
  obtain ⟨l, e3, e⟩ := some_bind e
  split at e
  · rename_i hl
    cases e
    refine ⟨F, ρ, O, ra, _, sr, wd, e1, fun va F2 H2 O2 P st sr2 h1 wd2 kp => ?_⟩
    cases ra with
    | pl i => cases e2
    | d d =>
      cases e2
      obtain ⟨n, rfl⟩ : ∃ n, d = .int n := by
        cases d <;> first | (cases e3; done) | exact ⟨_, rfl⟩
      unfold rngOf at e3
      simp only at e3
      split at e3
      · rename_i hb
        cases e3
        have h1 : VR X.K F2 H2 (.int n) va P := h1
        refine ⟨n, vr_i h1, ⟨by omega, by omega, by omega, by omega, ?_⟩, rng_new sr2 st wd2 kp k⟩
        have : (rngD 0 n).length = (n - 0).toNat := by unfold rngD; simp
        rw [this] at hl
        exact hl
      · cases e3
  · cases e
theorem se_lrng2 {p1 p2 q2 : Pos} (hc : X.calm = true) (hg : Gl X "list") (hm : X.mg "list" = none) (hg2 : Gl X "range") (hm2 : X.mg "range" = none) (ha : SE X Φ wf a ca) (hb : SE X Φ wf b cb) : SE X Φ wf (.Call (.Name "list" p1) [.Call (.Name "range" p2) [a, b] [] q2] [] pos) (.lrng2 ca cb) := by
  have hs : SA X Φ wf [b] (.cons cb .nil) := sa_cons hb sa_nil
  refine ⟨PE.weak (pe_listRg hc hg hm (prg_2 hg2 hm2 ha.pe hb.pe (ha.pl.st _ _) (hb.pl.st _ _) (by rw [hs.st]; rfl)) rfl) fun σ H Q h => ?_, plain_Call⟩
  obtain ⟨F, ρ, O, r, ρ', sr, wd, e, k⟩ := h
  simp only [evE] at e
  obtain ⟨⟨ra, ρ1⟩, e1, e⟩ := some_bind e
  obtain ⟨⟨rb, ρ2⟩, e1b, e⟩ := some_bind e
  obtain ⟨ds, e2, e⟩ := some_bind e
  obtain ⟨l, e3, e⟩ := some_bind e
  split at e
  · rename_i hl
    cases e
    refine ⟨F, ρ, O, ra, _, sr, wd, e1, fun va F1 H1 O1 P1 st1 sr1 h1 wd1 kp1 => ⟨F1, ρ1, O1, rb, _, sr1, wd1.left, e1b, fun vb F2 H2 O2 P2 st2 sr2 h2 wd2 kp2 => ?_⟩⟩
    cases ra with
    | pl i => cases e2
    | d d =>
    cases rb with
    | pl i => cases e2
    | d d2 =>
      cases e2
      obtain ⟨n, m, rfl, rfl⟩ : ∃ n m, d = .int n ∧ d2 = .int m := by
        cases d <;> cases d2 <;> first | (cases e3; done) | exact ⟨_, _, rfl, rfl⟩
      unfold rngOf at e3
      simp only at e3
      split at e3
      · rename_i hb
        cases e3
        have h1 : VR X.K F1 H1 (.int n) va P1 := h1
        have h2 : VR X.K F2 H2 (.int m) vb P2 := h2
        refine ⟨n, m, vr_i h1, vr_i h2, ⟨by omega, by omega, by omega, by omega, ?_⟩, rng_new sr2 (st1.two st2) (wd1.two st2 wd2) (kp1.trans kp2) k⟩
        have : (rngD n m).length = (m - n).toNat := by unfold rngD; simp
        rw [this] at hl
        exact hl
      · cases e3
  · cases e
theorem se_ixm {p2 : Pos} (hl : (p2.endLine == pos.line) = true) (hb0 : attributeBase a "index" X.env (eval a X.env) = eval a X.env) (hfew : ((backTo pos (starEach [b] X.env)).all (fun x => !x.1) && (backToKw pos (keywordEach [] X.env)).all (fun x => x.1.isSome)
      && decide (([b] : List Expr).length + ([] : List Keyword).length + (if ([] : List Keyword).isEmpty then 0 else 1) < 30)) = true) (ha : SE X Φ wf a ca) (hb : SE X Φ wf b cb) : SE X Φ wf (.Call (.Attribute a "index" p2) [b] [] pos) (.ixm ca cb) := by
  refine ⟨PE.weak (pe_bm PySem.F.plainAttrs_list PySem.F.slot_list_index PySem.F.type_list_index mt_index ha.pe (pa_cons hb.pe pa_nil (hb.pl.st _ _)) hb0 hfew hl (hb.pl.st _ _) rfl) fun σ H Q h => ?_, plain_Call⟩
  obtain ⟨F, ρ, O, r, ρ', sr, wd, e, k⟩ := h
  simp only [evE] at e
  obtain ⟨⟨ra, ρ1⟩, e1, e⟩ := some_bind e
  obtain ⟨l0, e0, e⟩ := some_bind e
  obtain ⟨x0, e00, e01⟩ := some_bind e0
  obtain ⟨⟨rb, ρ2⟩, e2, e⟩ := some_bind e
  obtain ⟨x, e3, e⟩ := some_bind e
  obtain ⟨y, e4, e⟩ := some_bind e
  obtain ⟨z, e5, e⟩ := some_bind e
  cases e
  refine ⟨F, ρ, O, ra, ρ1, sr, wd, e1, fun vx F1 H1 O1 P1 st1 sr1 r1 wd1 kp1 => ?_⟩
  obtain ⟨P3, q0⟩ := rd_ok sr1 r1 e00
  obtain ⟨p0, xs0, _, rfl, sq0, _⟩ := lsts_ok e01 q0
  refine ⟨.inl ⟨rfl, _, sq0⟩, F1, ρ1, O1, rb, _, sr1, wd1.left, e2, fun vy F2 H2 O2 P2 st2 sr2 r2 wd2 kp2 => ?_⟩
  have r1' := RR.stp wd1.left st2 wd1.apart r1
  obtain ⟨P4, q1⟩ := rd_ok sr2 r1' e3
  obtain ⟨P5, q2⟩ := rd_ok sr2 r2 e4
  unfold indexD at e5
  obtain ⟨l, e6, e5⟩ := some_bind e5
  split at e5
  · rename_i hc
    rw [Bool.and_eq_true] at hc
    cases e7 : idxF y l with
    | none => rw [e7] at e5; cases e5
    | some n =>
      rw [e7] at e5
      cases e5
      obtain ⟨p, xs, P6, hp, sq, vl⟩ := lsts_ok e6 q1
      cases hp
      obtain ⟨z, z1, z2, z3⟩ := idxF_ok q2 hc.1 vl hc.2 e7
      obtain ⟨f1, _⟩ := in_flat q2 hc.1 vl hc.2
      exact ⟨p0, xs, vy, n, z, rfl, rfl, sq, flat_V q2 hc.1, f1, z1, z2, z3, (close (st1.two st2) sr2 (wd1.two st2 wd2) (kp1.trans kp2) k).int (wd1.two st2 wd2).ft⟩
  · cases e5
end
end Co

set_option maxRecDepth 100000
set_option maxHeartbeats 1000000
/-! Core6: changed lists, targets, calls -/
namespace Co
open PySem PySem.Spec PyProof.Rows L2

section
variable {K : PySem.W.Frag} {F : Addr → Prop} {H : Hp} {O P : List Addr} {ρ : Env} {σ : L2.St}
theorem own_slot {i : Nat} {l : List D} (e : ownAt ρ i = some l) : ρ[i]? = some (.v (.own l)) ∨ ρ[i]? = some (.bo (.own l)) := by
  unfold ownAt at e
  split at e
  · rename_i h; cases e; exact .inl h
  · rename_i h; cases e; exact .inr h
  · cases e
/-- a slot's list changed in place -/
def Mutd (K : PySem.W.Frag) (F : Addr → Prop) (H : Hp) (O P : List Addr) (ρ : Env) (σ : L2.St) (i : Nat) (l : List D) : Prop :=
    ∃ p xs P', σ[i]? = some (some (.ref p)) ∧ H p = some (.lst xs) ∧ VRL K F H l xs P' ∧ ∀ l2 xs2 P2 ρ', VRL K F H l2 xs2 P2 → (∀ R : List Addr, (R ++ (P' ++ P)).Nodup → (R ++ P2).Nodup) → (∀ a ∈ P2, a ∈ P' ++ P) → setL ρ i l2 = some ρ' →
      ∃ O2, Stp F H (O ++ P) F (upd H p (.lst xs2)) O2 ∧ SR K F (upd H p (.lst xs2)) ρ' σ O2 ∧ Wd F (upd H p (.lst xs2)) O2 ∧ Kp ρ ρ'
theorem mut_key {i : Nat} {l : List D} (sr : SR K F H ρ σ O) (wd : Wd F H (O ++ P)) (fl : D → Sl) (hS : ∀ {F : Addr → Prop} {H : Hp} {d : D} {ov : Option V} {P : List Addr}, S1 K F H (fl d) ov P ↔ ∃ v, ov = some v ∧ VR K F H d v P) (e1 : ρ[i]? = some (fl (.own l))) (hset : ∀ l2 ρ', setL ρ i l2 = some ρ' → ρ' = ρ.set i (fl (.own l2)))
      (hb : ∀ d d1, fl d = .bo d1 → ∀ d2, ∃ d3, fl d2 = .bo d3) (hl : ∀ d d1, fl d ≠ .lk d1) : Mutd K F H O P ρ σ i l := by
    obtain ⟨ov, Pi, O', q1, q2, q3, q4⟩ := SR.take sr e1
    obtain ⟨v, rfl, hv⟩ := hS.mp q2
    unfold VR at hv
    obtain ⟨p, xs, P', rfl, h1, h2, h3⟩ := hv
    subst h3
    refine ⟨p, xs, P', q1, h1, h2, fun l2 xs2 P2 ρ' hv2 hnd hsub hs => ?_⟩
    have er := hset l2 ρ' hs
    subst er
    have w0 : Wd F H ((O' ++ (p :: P')) ++ P) := wd.perm (q4.append_right P)
    have pm : ((O' ++ (p :: P')) ++ P).Perm (O' ++ ([p] ++ (P' ++ P))) := by
      rw [List.append_assoc]
      rfl
    have w1 : Wd F H (O' ++ ([p] ++ (P' ++ P))) := w0.perm pm
    have wp : Wd F H [p] := w1.right.left
    have hp0 : p ∉ O' := fun z => w1.apart' p z (by simp)
    have hpP : p ∉ P' ++ P := fun z => w1.right.apart' p (by simp) z
    have st : Stp F H [p] F (upd H p (.lst xs2)) [p] := by
      refine ⟨fun a o ha hn => ?_, fun _ h => h, fun a ha => .inl ha, fun _ h => .inl h⟩
      rw [upd_ne (by simpa using hn)]
      exact ha
    have nd : (O' ++ ([p] ++ P2)).Nodup := by
      have := hnd (O' ++ [p]) (by rw [List.append_assoc]; exact w1.nd)
      rw [List.append_assoc] at this
      exact this
    have sr2 : SR K F (upd H p (.lst xs2)) (ρ.set i .no) σ O' := SR.stp wp st (fun a ha => by simp; rintro rfl; exact hp0 ha) q3
    have hp2 : p ∉ P2 := fun z => hpP (hsub p z)
    have hv3 : VRL K F (upd H p (.lst xs2)) l2 xs2 P2 := VRL.stp wp st l2 xs2 P2 (fun a ha => by simp; rintro rfl; exact hp2 ha) hv2
    have s1 : S1 K F (upd H p (.lst xs2)) (fl (.own l2)) (some (.ref p)) (p :: P2) := hS.mpr ⟨.ref p, rfl, by unfold VR; exact ⟨p, xs2, P2, rfl, upd_same, hv3, rfl⟩⟩
    obtain ⟨O2, r1, r2⟩ := SR.put sr2 (get_set_same e1) s1
    rw [set_set, set_same q1] at r1
    have inO : ∀ a ∈ O2, a ∈ O' ++ ([p] ++ (P' ++ P)) := fun a ha => by
      have := r2.subset ha
      simp only [List.mem_append, List.mem_cons, List.not_mem_nil, or_false] at this ⊢
      rcases this with z | z | z
      · exact .inl z
      · exact .inr (.inl z)
      · exact .inr (.inr (List.mem_append.mp (hsub a z)))
    refine ⟨O2, ⟨fun a o ha hn => ?_, fun _ h => h, fun a ha => .inl ?_, fun _ h => .inl h⟩, r1, ⟨r2.nodup_iff.mpr nd, fun a ha => w1.nf a (inO a ha), fun a ha => ?_, fun a ha => ?_⟩, Kp.set e1 (fun d hd => hb _ d hd _) (fun d hd => absurd hd (hl _ d))⟩
    · rw [upd_ne]
      · exact ha
      · rintro rfl
        exact hn ((q4.append_right P).symm.subset (by simp))
    · exact (q4.append_right P).symm.subset (pm.symm.subset (inO a ha))
    · by_cases hap : a = p
      · subst hap; exact ⟨xs2, upd_same⟩
      · rw [upd_ne hap]; exact w1.ls a (inO a ha)
    · by_cases hap : a = p
      · subst hap; exact ⟨xs2, upd_same⟩
      · rw [upd_ne hap]; exact wd.ft a ha
theorem mutate {i : Nat} {l : List D} (sr : SR K F H ρ σ O) (wd : Wd F H (O ++ P)) (e : ownAt ρ i = some l) : Mutd K F H O P ρ σ i l := by
  rcases own_slot e with e1 | e1
  · refine mut_key sr wd Sl.v Iff.rfl e1 (fun l2 ρ' h => ?_) (fun d d1 h => by cases h) (fun d d1 h => by cases h)
    unfold setL at h
    rw [e1] at h
    cases h
    rfl
  · refine mut_key sr wd Sl.bo Iff.rfl e1 (fun l2 ρ' h => ?_) (fun d d1 h d2 => ⟨_, rfl⟩) (fun d d1 h => by cases h)
    unfold setL at h
    rw [e1] at h
    cases h
    rfl
end

section
variable {X : Cx} {Φ : Nat → List Sl → Option (D × List Sl)} {wf : Nat} {a b c : Expr} {ca cb cc : C} {pos : Pos}
/-! ### targets -/
theorem vrl_snoc {K : PySem.W.Frag} {F : Addr → Prop} {H : Hp} {l : List D} {xs : List V} {P Q : List Addr} {d : D} {v : V} (h : VRL K F H l xs P) (hv : VR K F H d v Q) : VRL K F H (l ++ [d]) (xs ++ [v]) (P ++ Q) := VRL.app h (VRL.one hv)
theorem name_red {K : PySem.W.Frag} {i : Nat} {v : V} {σ : L2.St} {H : Hp} {Q : L2.St → Hp → Prop} (h : tG K Φ wf (.tnm i) v σ H Q) : gName i v σ H Q := by
  obtain ⟨F, ρ, O, P, d, ρ', sr, hv, wd, e, k⟩ := h
  simp only [evG] at e
  have go : ∀ s, ρ[i]? = some s → ρ' = ρ.set i (.v d) → (∀ d, s ≠ .bo d) → (∀ d, s ≠ .lk d) → gName i v σ H Q := by
    intro s e1 e2 hb hl
    subst e2
    obtain ⟨ov, Pi, O', q1, q2, q3, q4⟩ := SR.take sr e1
    obtain ⟨O2, r1, r2⟩ := SR.put (s := .v d) (ov := some v) q3 (get_set_same e1) ⟨v, rfl, hv⟩
    rw [set_set] at r1
    have inn : ∀ a ∈ O2, a ∈ O ++ P := fun a ha => by
      rcases List.mem_append.mp (r2.subset ha) with z | z
      · exact List.mem_append_left _ (q4.symm.subset (List.mem_append_left _ z))
      · exact List.mem_append_right _ z
    have w1 : Wd F H ((O' ++ Pi) ++ P) := wd.perm (q4.append_right P)
    have w2 : Wd F H (O' ++ P) := w1.sub ((List.sublist_append_left O' Pi).append_right P)
    refine k _ F H O2 ⟨fun _ _ h _ => h, fun _ h => h, fun a ha => .inl (inn a ha), fun _ h => .inl h⟩ r1 (w2.perm r2.symm) (Kp.set e1 (fun d hd => absurd hd (hb d)) (fun d hd => absurd hd (hl d))) (fun j hj => ?_) ⟨List.length_set .., fun j hj => ?_⟩
    · rw [List.getElem?_set_ne]
      rintro rfl
      rcases hj with ⟨d', z⟩ | ⟨d', z⟩
      · rw [e1] at z; exact hb d' (Option.some.inj z)
      · rw [e1] at z; exact hl d' (Option.some.inj z)
    · rw [List.getElem?_set_ne]
      rintro rfl
      exact hj (by simp [tgts])
  unfold store at e
  split at e
  · rename_i e1; cases e; exact go _ e1 rfl (fun _ h => by cases h) (fun _ h => by cases h)
  · rename_i e1; cases e; exact go _ e1 rfl (fun _ h => by cases h) (fun _ h => by cases h)
  · cases e
theorem sg_name {x : Str} {i : Nat} (hN : X.N.Nodup) (hi : X.N[i]? = some x) (hx : Loc X.env.scope x) (hf : X.fn x = true ∨ X.env.scope.names.lookup x = some .local) : PG X (.Name x pos) (tG X.K Φ wf (.tnm i)) := by
  exact PG.weak (pg_name hN hi hx hf) fun v σ H Q h => name_red h
theorem sgs_nil : PGs X [] (tGs X.K Φ wf .nil) := by
  refine PGs.weak pgs_nil fun vs σ H Q h => ?_
  obtain ⟨F, ρ, O, P, ds, ρ', sr, hv, wd, e, k⟩ := h
  simp only [evGs] at e
  split at e
  · cases e
    unfold VRL at hv
    obtain ⟨rfl, rfl⟩ := hv
    exact ⟨rfl, k σ F H O (by simpa using Stp.refl) sr (by simpa using wd) Kp.refl Ks.refl Ag.refl⟩
  · cases e
theorem sgs_cons {es : List Expr} {ts : C} (ha : PG X a (tG X.K Φ wf ca)) (hs : PGs X es (tGs X.K Φ wf ts)) (he : (assignEach (a :: es) X.env).map (·.2) = assign a X.env :: (assignEach es X.env).map (·.2)) : PGs X (a :: es) (tGs X.K Φ wf (.cons ca ts)) := by
  refine PGs.weak (pgs_cons ha hs he) fun vs σ H Q h => ?_
  obtain ⟨F, ρ, O, P, ds, ρ', sr, hv, wd, e, k⟩ := h
  simp only [evGs] at e
  split at e
  · rename_i d l'
    obtain ⟨ρ1, e1, e2⟩ := some_bind e
    unfold VRL at hv
    obtain ⟨x, xs', P1, P2, rfl, h1, h2, rfl⟩ := hv
    have w0 : Wd F H ((O ++ P1) ++ P2) := by rw [List.append_assoc]; exact wd
    refine ⟨x, xs', rfl, F, ρ, O, P1, d, ρ1, sr, h1, w0.left, e1, fun σ1 F1 H1 O1 st1 sr1 wd1 kp1 ks1 ag1 => ?_⟩
    have w1 : Wd F1 H1 (O1 ++ P2) := w0.join st1 wd1
    refine ⟨F1, ρ1, O1, P2, l', ρ', sr1, VRL.stp w0.left st1 l' xs' P2 w0.apart h2, w1, e2, fun σ2 F2 H2 O2 st2 sr2 wd2 kp2 ks2 ag2 => ?_⟩
    refine k σ2 F2 H2 O2 ?_ sr2 wd2 (kp1.trans kp2) (ks1.trans kp1 ks2) ⟨ag2.len.trans ag1.len, fun j hj => ?_⟩
    rotate_left
    · have hj' : j ∉ tgts ca ∧ j ∉ tgts ts := by simpa [tgts] using hj
      exact (ag2.at_ j hj'.2).trans (ag1.at_ j hj'.1)
    have s1 := st1.more (P := P2)
    rw [List.append_assoc] at s1
    exact s1.trans st2
  · cases e
theorem sg_tup {es : List Expr} {ts : C} {kk : Nat} (hc : X.calm = true) (hs : PGs X es (tGs X.K Φ wf ts)) (hn : (assignEach es X.env).length = es.length) (hst : (assignEach es X.env).findIdx? (·.1) = none) (hl : ∀ ds ρ ρ', evGs Φ wf ts ds ρ = some ρ' → ds.length = es.length) :
    PG X (.Tuple es kk pos) (tG X.K Φ wf (.ttup ts)) := by
  refine PG.weak (pg_tup hc hs hn hst) fun v σ H Q h => ?_
  obtain ⟨F, ρ, O, P, d, ρ', sr, hv, wd, e, k⟩ := h
  simp only [evG] at e
  split at e
  · rename_i l
    unfold VR at hv
    obtain ⟨p, xs, rfl, h1, h2⟩ := hv
    exact ⟨p, xs, rfl, h1, by rw [VRL.length _ _ _ h2]; exact hl _ _ _ e, F, ρ, O, P, l, ρ', sr, h2, wd, e, k⟩
  · cases e
theorem sg_sub {x : Str} {i : Nat} {p2 : Pos} (hN : X.N[i]? = some x) (hv : Vis X.env.scope x) (hd : (x == ("__debug__" : Str)) = false) (hcd : (x == ("__classdict__" : Str)) = false) (hk : SE X Φ wf b cb)
    (has : ∀ v, assign (.Subscript (.Name x p2) b pos) X.env v = (do
      let ov ← holding [v] (eval (.Name x p2) X.env)
      let iv ← holding [v, ov] (eval b X.env)
      standAt pos
      holding [v, ov, iv] (setItem ov iv v)
      release [v, ov, iv] [])) : PG X (.Subscript (.Name x p2) b pos) (tG X.K Φ wf (.tsub i cb)) := by
  refine PG.weak (pg_sub (pe_var hN hv hd hcd) hk.pe set_list has) fun v σ H Q h => ?_
  obtain ⟨F, ρ, O, P, d, ρ', sr, hv, wd, e, k⟩ := h
  simp only [evG] at e
  obtain ⟨l0, e0, e⟩ := some_bind e
  obtain ⟨⟨rk, ρ1⟩, e1, e⟩ := some_bind e
  obtain ⟨j, rfl, e⟩ : ∃ j, rk = .d (.int j) ∧ ((ownAt ρ1 i).bind fun l => (ixN l.length j).bind fun n => setL ρ1 i (l.set n d)) = some ρ' := by
    cases rk with
    | pl i => cases e
    | d d => cases d <;> first | (cases e; done) | exact ⟨_, rfl, e⟩
  obtain ⟨l, e2, e⟩ := some_bind e
  obtain ⟨n, e3, e⟩ := some_bind e
  -- the slot's value
  have hn : n < l.length := (ixN_seq e3).2.1
  obtain ⟨p, _, _, hp, _⟩ := mutate sr wd e0
  refine ⟨.ref p, hp, F, ρ, O, _, ρ1, sr, wd.left, e1, fun vk F1 H1 O1 P1 st1 sr1 r1 wd1 kp1 => ?_⟩
  have ek : vk = .int j := vr_i (show VR X.K F1 H1 (.int j) vk P1 from r1)
  subst ek
  have hv1 : VR X.K F1 H1 d v P := VR.stp wd.left st1 d v P wd.apart hv
  have w1 : Wd F1 H1 (O1 ++ P) := wd.join (sub0 st1) wd1.left
  obtain ⟨p', xs, P', q1, q2, q3, q4⟩ := mutate sr1 w1 e2
  rw [hp] at q1
  cases q1
  obtain ⟨P2, r2, r0, r3⟩ := VRL.set q3 hv1 hn
  obtain ⟨O2, s1, s2, s3, s4⟩ := q4 _ _ P2 ρ' r2 r3 r0 e
  refine ⟨p, xs, j, n, rfl, rfl, q2, by rw [VRL.length _ _ _ q3]; exact e3, ?_⟩
  have st2 := (sub0 st1).more (P := P)
  exact k σ F1 _ O2 (st2.trans s1) s2 s3 (kp1.trans s4) Ks.refl Ag.refl
/-! ### methods that change a list -/
theorem plainB {es : List Expr} {env : PySem.Env} {p : Pos} (h : starEach es env = es.map fun e => (false, eval e env)) : (backTo p (starEach es env)).any (·.1) = false := by
  rw [h]
  unfold backTo
  simp
theorem fewB {e : Expr} {es : List Expr} {env : PySem.Env} {p : Pos} (h : starEach (e :: es) env = (e :: es).map fun e => (false, eval e env)) (hl : es.length < 20) :
    ((backTo p (starEach (e :: es) env)).all (fun x => !x.1) && (backToKw p (keywordEach [] env)).all (fun x => x.1.isSome)
      && decide ((e :: es).length + ([] : List Keyword).length + (if ([] : List Keyword).isEmpty then 0 else 1) < 30)) = true := by
  rw [h]
  have h1 : (backTo p ((e :: es).map fun e => (false, eval e env))).all (fun x => !x.1) = true := by
    unfold backTo
    simp
  have h2 : (backToKw p (keywordEach [] env)).all (fun x => x.1.isSome) = true := rfl
  rw [h1, h2]
  simp
  omega
theorem mut_step {K : PySem.W.Frag} {n : Mut} {i : Nat} {cs : C} {r : V → List V → Hp → VK → Prop} {σ : L2.St} {H : Hp} {Q : VK} (h : tE K Φ wf (.mut n i cs) σ H Q)
    (step : ∀ F H ρ O P rs vs ds l d l' p xs P', SR K F H ρ σ O → RRL K F H σ rs vs P → mutArgs n ρ rs = some ds → mutD n l ds = some (d, l') → Fl F H → H p = some (.lst xs) → VRL K F H l xs P' →
      ∃ xs2 P2 z, VRL K F H l' xs2 P2 ∧ (∀ R : List Addr, (R ++ (P' ++ P)).Nodup → (R ++ P2).Nodup) ∧ (∀ a ∈ P2, a ∈ P' ++ P) ∧ VR K F H d z [] ∧ ∀ Q, Q z (upd H p (.lst xs2)) → r (.ref p) vs H Q) :
    tBM K "list" r (tVar i) (tA K Φ wf cs) σ H Q := by
  obtain ⟨F, ρ, O, r0, ρ', sr, wd, e, k⟩ := h
  simp only [evE] at e
  obtain ⟨l0, e0, e⟩ := some_bind e
  obtain ⟨⟨rs, ρ1⟩, e1, e⟩ := some_bind e
  obtain ⟨ds, e2, e⟩ := some_bind e
  obtain ⟨l, e3, e⟩ := some_bind e
  obtain ⟨⟨d, l'⟩, e4, e⟩ := some_bind e
  obtain ⟨ρ2, e5, e⟩ := some_bind e
  cases e
  obtain ⟨p, xs0, _, hp, hp2, _⟩ := mutate sr (nil_w wd) e0
  refine ⟨.ref p, hp, .inl ⟨rfl, _, .inl (.inl hp2)⟩, F, ρ, O, rs, ρ1, sr, wd, e1, fun vs F1 H1 O1 P1 st1 sr1 rr wd1 kp1 => ?_⟩
  obtain ⟨p', xs, P', q1, q2, q3, q4⟩ := mutate sr1 wd1 e3
  rw [hp] at q1
  cases q1
  obtain ⟨xs2, P2, z, z1, z2, z3, z4, z5⟩ := step F1 H1 ρ1 O1 P1 rs vs ds l d l' p xs P' sr1 rr e2 e4 wd1.ft q2 q3
  obtain ⟨O2, s1, s2, s3, s4⟩ := q4 _ _ P2 _ z1 z2 z3 e5
  exact z5 Q (k z F1 _ O2 [] (nil_l (st1.trans s1)) s2 (VR.stp wd1 s1 d z [] (fun a ha => (nomatch ha)) z4) (nil_w s3) (kp1.trans s4))
theorem vrl1e {K : PySem.W.Frag} {F : Addr → Prop} {H : Hp} {d : D} {vs : List V} {P : List Addr} (h : VRL K F H [d] vs P) : ∃ v, vs = [v] ∧ VR K F H d v P := by
  unfold VRL at h
  obtain ⟨x, xs', P1, P2, e, h1, h2, h3⟩ := h
  unfold VRL at h2
  rw [h2.2, List.append_nil] at h3
  rw [h2.1] at e
  exact ⟨x, e, h3 ▸ h1⟩
theorem nonV {K : PySem.W.Frag} {F : Addr → Prop} {H : Hp} : VR K F H .non .non [] := by unfold VR; exact ⟨rfl, rfl⟩
theorem se_append {x : Str} {i : Nat} {p1 p2 : Pos} {es : List Expr} {cs : C} (hN : X.N[i]? = some x) (hv : Vis X.env.scope x) (hd : (x == ("__debug__" : Str)) = false) (hcd : (x == ("__classdict__" : Str)) = false) (hl : (p2.endLine == pos.line) = true) (hes : es.length < 20)
    (hs : SA X Φ wf (a :: es) cs) (hs1 : ∀ env, starEach es env = es.map fun e => (false, eval e env)) : SE X Φ wf (.Call (.Attribute (.Name x p1) "append" p2) (a :: es) [] pos) (.mut .append i cs) := by
  refine ⟨PE.weak (pe_bm PySem.F.plainAttrs_list PySem.F.slot_list_append PySem.F.type_list_append mt_append (pe_var hN hv hd hcd) hs.pa rfl (fewB (hs.st X.env) hes) hl (by rw [hs.st, hs1]; rfl) (plainB (hs1 X.env))) fun σ H Q h => ?_, plain_Call⟩
  refine mut_step h fun F H ρ O P rs vs ds l d l' p xs P' sr rr e1 e2 f q2 q3 => ?_
  have hv := vals_ok rr (show vals rs = some ds from e1)
  have e2 : appD l ds = some (d, l') := e2
  unfold appD at e2
  split at e2
  · split at e2
    · rename_i hlen
      cases e2
      obtain ⟨v, rfl, h1⟩ := vrl1e hv
      refine ⟨xs ++ [v], P' ++ P, .non, vrl_snoc q3 h1, fun R hR => hR, fun a ha => ha, nonV, fun Q q => ⟨p, xs, v, rfl, rfl, q2, ?_, q⟩⟩
      rw [VRL.length _ _ _ q3, ← lim_eq]
      exact hlen
    · cases e2
  · cases e2
theorem se_extend {x : Str} {i : Nat} {p1 p2 : Pos} {es : List Expr} {cs : C} (hN : X.N[i]? = some x) (hv : Vis X.env.scope x) (hd : (x == ("__debug__" : Str)) = false) (hcd : (x == ("__classdict__" : Str)) = false) (hl : (p2.endLine == pos.line) = true) (hes : es.length < 20)
    (hs : SA X Φ wf (a :: es) cs) (hs1 : ∀ env, starEach es env = es.map fun e => (false, eval e env)) : SE X Φ wf (.Call (.Attribute (.Name x p1) "extend" p2) (a :: es) [] pos) (.mut .extend i cs) := by
  refine ⟨PE.weak (pe_bm PySem.F.plainAttrs_list PySem.F.slot_list_extend PySem.F.type_list_extend mt_extend (pe_var hN hv hd hcd) hs.pa rfl (fewB (hs.st X.env) hes) hl (by rw [hs.st, hs1]; rfl) (plainB (hs1 X.env))) fun σ H Q h => ?_, plain_Call⟩
  refine mut_step h fun F H ρ O P rs vs ds l d l' p xs P' sr rr e1 e2 f q2 q3 => ?_
  obtain ⟨P0, hv⟩ := rds_ok sr rr (show rds ρ rs = some ds from e1)
  have e2 : extD l ds = some (d, l') := e2
  unfold extD at e2
  split at e2
  · obtain ⟨r, e3, e4⟩ := some_bind e2
    split at e4
    · rename_i hc
      rw [Bool.and_eq_true, decide_eq_true_eq] at hc
      cases e4
      obtain ⟨v, Q1, rfl, h1⟩ := vrl1 hv
      obtain ⟨b, zs, Q2, rfl, r1, r2⟩ := h1.lstAt e3
      have e5 := VRL.fz _ _ _ hc.1 r2
      subst e5
      refine ⟨xs ++ zs, P' ++ [], .non, VRL.app q3 r2, fun R hR => ?_, fun a ha => ?_, nonV, fun Q q => ⟨p, b, xs, zs, rfl, rfl, q2, r1, ?_, q⟩⟩
      · rw [List.append_nil]
        exact (List.Sublist.append_left (List.sublist_append_left P' P) R).nodup hR
      · rw [List.append_nil] at ha
        exact List.mem_append_left _ ha
      · rw [VRL.length _ _ _ q3, VRL.length _ _ _ r2, ← lim_eq]
        exact hc.2
    · cases e4
  · cases e2
theorem VRL.erase {K : PySem.W.Frag} {F : Addr → Prop} {H : Hp} : ∀ {l : List D} {xs : List V} {P : List Addr}, VRL K F H l xs P → ∀ n, ∃ P2, VRL K F H (l.eraseIdx n) (xs.eraseIdx n) P2 ∧ P2.Sublist P
  | [], xs, P, h, n => by
    unfold VRL at h
    obtain ⟨rfl, rfl⟩ := h
    exact ⟨[], by simp only [List.eraseIdx_nil]; unfold VRL; exact ⟨rfl, rfl⟩, List.Sublist.refl _⟩
  | d :: l, xs, P, h, n => by
    unfold VRL at h
    obtain ⟨x, xs', P1, P2, rfl, h1, h2, rfl⟩ := h
    cases n with
    | zero => exact ⟨P2, h2, List.sublist_append_right P1 P2⟩
    | succ n =>
      obtain ⟨P3, q1, q2⟩ := VRL.erase h2 n
      refine ⟨P1 ++ P3, ?_, q2.append_left P1⟩
      simp only [List.eraseIdx_cons_succ]
      unfold VRL
      exact ⟨x, _, P1, P3, rfl, h1, q1, rfl⟩
theorem se_pop {x : Str} {i : Nat} {p1 p2 : Pos} {es : List Expr} {cs : C} (hN : X.N[i]? = some x) (hv : Vis X.env.scope x) (hd : (x == ("__debug__" : Str)) = false) (hcd : (x == ("__classdict__" : Str)) = false) (hl : (p2.endLine == pos.line) = true) (hes : es.length < 20)
    (hs : SA X Φ wf (a :: es) cs) (hs1 : ∀ env, starEach es env = es.map fun e => (false, eval e env)) : SE X Φ wf (.Call (.Attribute (.Name x p1) "pop" p2) (a :: es) [] pos) (.mut .pop i cs) := by
  refine ⟨PE.weak (pe_bm PySem.F.plainAttrs_list PySem.F.slot_list_pop PySem.F.type_list_pop mt_popAt (pe_var hN hv hd hcd) hs.pa rfl (fewB (hs.st X.env) hes) hl (by rw [hs.st, hs1]; rfl) (plainB (hs1 X.env))) fun σ H Q h => ?_, plain_Call⟩
  refine mut_step h fun F H ρ O P rs vs ds l d l' p xs P' sr rr e1 e2 f q2 q3 => ?_
  have hv := vals_ok rr (show vals rs = some ds from e1)
  have e2 : popD l ds = some (d, l') := e2
  obtain ⟨i, rfl⟩ : ∃ i, ds = [.int i] := by
    unfold popD at e2
    split at e2
    · exact ⟨_, rfl⟩
    · cases e2
  unfold popD at e2
  simp only at e2
  · split at e2
    · rename_i hb
      obtain ⟨n, e3, e2⟩ := some_bind e2
      obtain ⟨d1, e4, e2⟩ := some_bind e2
      split at e2
      · rename_i hf
        cases e2
        obtain ⟨v, rfl, h1⟩ := vrl1e hv
        have hi : v = .int i := vr_i h1
        subst hi
        obtain ⟨z, Px, z1, z2, z3⟩ := VRL.get q3 e4
        have := VR.fz _ _ _ hf z2
        subst this
        obtain ⟨P2, y1, y2⟩ := VRL.erase q3 n
        refine ⟨xs.eraseIdx n, P2, z, y1, fun R hR => (List.Sublist.append_left (y2.trans (List.sublist_append_left P' P)) R).nodup hR, fun a ha => List.mem_append_left _ (y2.subset ha), z2, fun Q q => ⟨p, xs, i, n, z, rfl, rfl, q2, hb.1, hb.2, ?_, z1, q⟩⟩
        rw [VRL.length _ _ _ q3] 
        exact (ixN_seq e3).1
      · cases e2
    · cases e2
end
end Co

set_option maxRecDepth 100000
set_option maxHeartbeats 1000000
/-! Core7: calls -/
namespace Co
open PySem PySem.Spec PyProof.Rows L2

/-- the arguments' slots and what the callee leaves -/
inductive Ko : List Sl → List Sl → Prop where
  | nil : Ko [] []
  | v {d : D} {as os : List Sl} : Ko as os → Ko (.v d :: as) (.no :: os)
  | no {as os : List Sl} : Ko as os → Ko (.no :: as) (.no :: os)
  | bo {d d' : D} {as os : List Sl} : Ko as os → Ko (.bo d :: as) (.bo d' :: os)
  | lk {d : D} {as os : List Sl} : Ko as os → Ko (.lk d :: as) (.lk d :: os)
def clear (ρ : Env) : List Nat → Env
  | [] => ρ
  | i :: is => clear (ρ.set i .no) is

section
variable {K : PySem.W.Frag} {F : Addr → Prop} {H : Hp} {σ : L2.St}
theorem argOf_set {ρ : Env} {i : Nat} {s : Sl} {r : R} (h : ∀ j, r = .pl j → j ≠ i) : argOf (ρ.set i s) r = argOf ρ r := by
  cases r with
  | d d => rfl
  | pl j =>
    have : j ≠ i := h j rfl
    show lentS _ = lentS _
    rw [List.getElem?_set_ne (Ne.symm this)]
theorem argsOf_set {ρ : Env} {i : Nat} {s : Sl} : ∀ {rs : List R}, i ∉ places rs → argsOf (ρ.set i s) rs = argsOf ρ rs
  | [], _ => rfl
  | .d d :: rs, h => by
    show ((argOf (ρ.set i s) (.d d)).bind fun s' => (argsOf (ρ.set i s) rs).map (s' :: ·)) = _
    rw [argsOf_set (rs := rs) h]
    rfl
  | .pl j :: rs, h => by
    have h' : i ≠ j ∧ i ∉ places rs := by simpa [places] using h
    show ((argOf (ρ.set i s) (.pl j)).bind fun s' => (argsOf (ρ.set i s) rs).map (s' :: ·)) = _
    rw [argsOf_set (rs := rs) h'.2, argOf_set (fun k hk => by cases hk; exact Ne.symm h'.1)]
    rfl
theorem clear_set {ρ : Env} {i : Nat} {s : Sl} : ∀ {is : List Nat}, i ∉ is → ∀ {ρ : Env}, clear (ρ.set i s) is = (clear ρ is).set i s
  | [], _, _ => rfl
  | j :: is, h, ρ => by
    have h' : i ≠ j ∧ i ∉ is := by simpa using h
    show clear ((ρ.set i s).set j .no) is = (clear (ρ.set j .no) is).set i s
    rw [List.set_comm _ _ h'.1]
    exact clear_set (ρ := ρ) h'.2
theorem clear_get {i : Nat} : ∀ {is : List Nat}, i ∉ is → ∀ {ρ : Env}, (clear ρ is)[i]? = ρ[i]?
  | [], _, _ => rfl
  | j :: is, h, ρ => by
    have h' : i ≠ j ∧ i ∉ is := by simpa using h
    show (clear (ρ.set j .no) is)[i]? = _
    rw [clear_get h'.2, List.getElem?_set_ne (Ne.symm h'.1)]
/-- the arguments' slots, taken out of the caller's -/
theorem lend : ∀ {rs : List R} {ρ : Env} {vs : List V} {P : List Addr} {as : List Sl} {O : List Addr}, SR K F H ρ σ O → RRL K F H σ rs vs P → argsOf ρ rs = some as → (places rs).Nodup →
    ∃ Or Oa, SR K F H (clear ρ (places rs)) σ Or ∧ SR K F H as (vs.map some) Oa ∧ (O ++ P).Perm (Or ++ Oa)
  | [], ρ, vs, P, as, O, sr, rr, e, nd => by
    obtain ⟨rfl, rfl⟩ := rr
    cases e
    exact ⟨O, [], sr, ⟨rfl, rfl⟩, .refl _⟩
  | .d d :: rs, ρ, vs, P, as, O, sr, rr, e, nd => by
    obtain ⟨x, xs', P1, P2, rfl, h1, h2, rfl⟩ := rr
    obtain ⟨as', e1, rfl⟩ : ∃ as', argsOf ρ rs = some as' ∧ Sl.v d :: as' = as := by
      have e : ((some (Sl.v d)).bind fun s => (argsOf ρ rs).map (s :: ·)) = some as := e
      simpa using e
    obtain ⟨Or, Oa, q1, q2, q3⟩ := lend sr h2 e1 nd
    refine ⟨Or, P1 ++ Oa, q1, ⟨some x, xs'.map some, P1, Oa, rfl, ⟨x, rfl, h1⟩, q2, rfl⟩, ?_⟩
    have a1 : (O ++ (P1 ++ P2)).Perm (P1 ++ (O ++ P2)) := by
      rw [← List.append_assoc, ← List.append_assoc]
      exact List.perm_append_comm.append_right P2
    have a2 : (P1 ++ (Or ++ Oa)).Perm (Or ++ (P1 ++ Oa)) := by
      rw [← List.append_assoc, ← List.append_assoc]
      exact List.perm_append_comm.append_right Oa
    exact a1.trans ((q3.append_left P1).trans a2)
  | .pl i :: rs, ρ, vs, P, as, O, sr, rr, e, nd => by
    obtain ⟨x, xs', P1, P2, rfl, ⟨h1, e9⟩, h2, e8⟩ := rr
    subst e9
    have e8 : P = P2 := e8
    subst e8
    have nd' : i ∉ places rs ∧ (places rs).Nodup := by simpa [places] using nd
    have e : ((argOf ρ (.pl i)).bind fun s => (argsOf ρ rs).map (s :: ·)) = some as := e
    obtain ⟨s', e0, e⟩ := some_bind e
    obtain ⟨as', e1, rfl⟩ : ∃ as', argsOf ρ rs = some as' ∧ s' :: as' = as := by simpa using e
    obtain ⟨s, es, hs⟩ : ∃ s, ρ[i]? = some s ∧ ∀ {P : List Addr} {ov : Option V}, S1 K F H s ov P → S1 K F H s' ov P := by
      have e0 : lentS ρ[i]? = some s' := e0
      unfold lentS at e0
      split at e0
      · rename_i h; cases e0; exact ⟨_, h, fun q => q⟩
      · rename_i h; cases e0; exact ⟨_, h, fun q => q⟩
      · rename_i h; cases e0; exact ⟨_, h, fun q => q⟩
      · cases e0
    obtain ⟨ov, Pi, O', t1, t2, t3, t4⟩ := SR.take sr es
    rw [h1] at t1
    cases t1
    obtain ⟨Or, Oa, q1, q2, q3⟩ := lend (ρ := ρ.set i .no) t3 h2 (by rw [argsOf_set nd'.1]; exact e1) nd'.2
    refine ⟨Or, Pi ++ Oa, q1, ⟨some x, xs'.map some, Pi, Oa, rfl, hs t2, q2, rfl⟩, ?_⟩
    have a1 : (O ++ P).Perm (Pi ++ (O' ++ P)) := by
      have : (O ++ P).Perm ((O' ++ Pi) ++ P) := t4.append_right P
      refine this.trans ?_
      rw [← List.append_assoc]
      exact List.perm_append_comm.append_right P
    have a2 : (Pi ++ (Or ++ Oa)).Perm (Or ++ (Pi ++ Oa)) := by
      rw [← List.append_assoc, ← List.append_assoc]
      exact List.perm_append_comm.append_right Oa
    exact a1.trans ((q3.append_left Pi).trans a2)
/-- .. and put back -/
theorem giveback : ∀ {rs : List R} {ρ : Env} {vs : List V} {as os : List Sl} {Or Oo : List Addr} {F0 : Addr → Prop} {H0 : Hp} {P : List Addr}, SR K F H (clear ρ (places rs)) σ Or → SR K F H os (vs.map some) Oo → argsOf ρ rs = some as → Ko as os → RRL K F0 H0 σ rs vs P → (places rs).Nodup →
    ∃ O2, SR K F H (back ρ rs os) σ O2 ∧ O2.Perm (Or ++ Oo) ∧ Kp ρ (back ρ rs os)
  | [], ρ, vs, as, os, Or, Oo, F0, H0, P, sr, so, e, ko, rr, nd => by
    obtain ⟨rfl, _⟩ := rr
    cases e
    cases ko
    obtain ⟨_, rfl⟩ := so
    exact ⟨Or, sr, by simp, Kp.refl⟩
  | .d d :: rs, ρ, vs, as, os, Or, Oo, F0, H0, P, sr, so, e, ko, rr, nd => by
    obtain ⟨x, xs', P1, P2, rfl, _, h2, _⟩ := rr
    obtain ⟨as', e1, rfl⟩ : ∃ as', argsOf ρ rs = some as' ∧ Sl.v d :: as' = as := by
      have e : ((some (Sl.v d)).bind fun s => (argsOf ρ rs).map (s :: ·)) = some as := e
      simpa using e
    cases ko with
    | v ko =>
      obtain ⟨ov, σ', O1, O2, he, z1, z2, z3⟩ := so
      have : O1 = [] := z1
      subst this z3
      cases he
      obtain ⟨O3, q1, q2, q3⟩ := giveback (rs := rs) sr z2 e1 ko h2 nd
      exact ⟨O3, q1, q2, q3⟩
  | .pl i :: rs, ρ, vs, as, os, Or, Oo, F0, H0, P, sr, so, e, ko, rr, nd => by
    obtain ⟨x, xs', P1, P2, rfl, ⟨h1, _⟩, h2, _⟩ := rr
    have nd' : i ∉ places rs ∧ (places rs).Nodup := by simpa [places] using nd
    have e : ((argOf ρ (.pl i)).bind fun s => (argsOf ρ rs).map (s :: ·)) = some as := e
    obtain ⟨s', e0, e⟩ := some_bind e
    obtain ⟨as', e1, rfl⟩ : ∃ as', argsOf ρ rs = some as' ∧ s' :: as' = as := by simpa using e
    -- the slot as it is to be
    have main : ∀ (s n : Sl) (os' : List Sl), ρ[i]? = some s → os = n :: os' → Ko as' os' → (∀ {P : List Addr} {ov : Option V}, S1 K F H n ov P → S1 K F H (backOne s n) ov P) → (∀ d, s = .bo d → ∃ d', backOne s n = .bo d') → (∀ d, s = .lk d → backOne s n = .lk d) →
        ∃ O2, SR K F H (back ρ (.pl i :: rs) os) σ O2 ∧ O2.Perm (Or ++ Oo) ∧ Kp ρ (back ρ (.pl i :: rs) os) := by
      intro s n os' es eo ko' hS hb hl
      subst eo
      obtain ⟨ov, σ', O1, O2, he, z1, z2, z3⟩ := so
      subst z3
      cases he
      have eb : back ρ (.pl i :: rs) (n :: os') = back (ρ.set i (backOne s n)) rs os' := by
        show back (match ρ[i]? with | some o => ρ.set i (backOne o n) | none => ρ) rs os' = _
        rw [es]
      rw [eb]
      have sr1 : SR K F H ((clear ρ (places rs)).set i .no) σ Or := by
        have : SR K F H (clear (ρ.set i .no) (places rs)) σ Or := sr
        rw [clear_set (ρ := ρ) nd'.1] at this
        exact this
      have ec : ((clear ρ (places rs)).set i .no)[i]? = some .no := get_set_same (y := s) (by rw [clear_get nd'.1]; exact es)
      obtain ⟨O3, y1, y2⟩ := SR.put sr1 ec (hS z1)
      rw [set_set, set_same h1, ← clear_set (ρ := ρ) nd'.1] at y1
      obtain ⟨O4, q1, q2, q3⟩ := giveback (ρ := ρ.set i (backOne s n)) y1 z2 (by rw [argsOf_set nd'.1]; exact e1) ko' h2 nd'.2
      refine ⟨O4, q1, q2.trans ?_, (Kp.set es hb hl).trans q3⟩
      rw [← List.append_assoc]
      exact y2.append_right O2
    have e0 : lentS ρ[i]? = some s' := e0
    unfold lentS at e0
    split at e0
    · rename_i d es
      cases e0
      cases ko with
      | bo ko => exact main _ _ _ es rfl ko (fun q => q) (fun d h => by cases h) (fun d h => by cases h)
    · rename_i d es
      cases e0
      cases ko with
      | bo ko => exact main _ _ _ es rfl ko (fun q => q) (fun d h => ⟨_, rfl⟩) (fun d h => by cases h)
    · rename_i d es
      cases e0
      cases ko with
      | lk ko => exact main _ _ _ es rfl ko (fun q => q) (fun d h => by cases h) (fun d h => h)
    · cases e0
end

/-- a def's promise: what the evaluator says of it -/
def spF (K : PySem.W.Frag) (g : List Sl → Option (D × List Sl)) : Sp := fun vs H Q _ => ∃ F as O d os, SR K F H as (vs.map some) O ∧ Wd F H O ∧ g as = some (d, os) ∧
  ∀ v F' H' O' P, Stp F H O F' H' (O' ++ P) → SR K F' H' os (vs.map some) O' → VR K F' H' d v P → Wd F' H' (O' ++ P) → Ko as os → Q v H'

section
variable {X : Cx} {Φ : Nat → List Sl → Option (D × List Sl)} {wf : Nat} {a b c : Expr} {ca cb cc : C} {pos : Pos}
/-- a def at its place -/
structure DefAt (X : Cx) (g : List Sl → Option (D × List Sl)) (k : Nat) (x : Str) : Prop where
  ex : ∃ f fd ps, X.mg x = some (.ref f) ∧ FnOk X.prog X.w X.K X.mg X.base CX0 k f fd ps (spF X.K g) ∧ PySem.W.keepIn X.K (.ref f) = true ∧ Binds X.K fd ps []
theorem call_red {K : PySem.W.Frag} {f : Nat} {cs : C} {σ : L2.St} {H : Hp} {Q : VK} (h : tE K Φ wf (.call f cs) σ H Q) : tCall (spF K (Φ f)) [] E0 (tA K Φ wf cs) σ H Q := by
  obtain ⟨F, ρ, O, r, ρ', sr, wd, e, k⟩ := h
  simp only [evE] at e
  obtain ⟨⟨rs, ρ1⟩, e1, e⟩ := some_bind e
  split at e
  · rename_i nd
    obtain ⟨as, e2, e⟩ := some_bind e
    obtain ⟨⟨d, os⟩, e3, e⟩ := some_bind e
    cases e
    refine ⟨F, ρ, O, rs, ρ1, sr, wd, e1, fun vs F1 H1 O1 P1 st1 sr1 rr wd1 kp1 => ?_⟩
    obtain ⟨Or, Oa, q1, q2, q3⟩ := lend sr1 rr e2 nd
    have w1 : Wd F1 H1 (Or ++ Oa) := wd1.perm q3
    refine ⟨F1, as, Oa, d, os, by rw [List.append_nil]; exact q2, w1.right, e3, fun v F2 H2 O2 P st2 so vr wd2 ko => ?_⟩
    rw [List.append_nil] at so
    have sr2 : SR K F2 H2 (clear ρ1 (places rs)) σ Or := SR.stp w1.right st2 w1.apart' q1
    obtain ⟨O3, r1, r2, r3⟩ := giveback sr2 so e2 ko rr nd
    have w2 : Wd F2 H2 ((O2 ++ P) ++ Or) := Wd.join (w1.perm List.perm_append_comm) st2 wd2
    have pm : ((O2 ++ P) ++ Or).Perm (O3 ++ P) := by
      refine List.perm_append_comm.trans ?_
      rw [← List.append_assoc]
      exact r2.symm.append_right P
    have s2 := st2.more (P := Or)
    have s3 : Stp F1 H1 (O1 ++ P1) F2 H2 (O3 ++ P) := (s2.sub fun x hx => pm.symm.subset hx).sup fun x hx => (q3.trans List.perm_append_comm).symm.subset hx
    exact k v F2 H2 O3 P (st1.trans s3) r1 vr (w2.perm pm) (kp1.trans r3)
  · cases e
theorem se_call {x : Str} {p : Pos} {f : Nat} {kk : Nat} {es : List Expr} {cs : C} (G : DefAt X (Φ f) kk x) (hr : Room kk X.A) (hg : Gl X x) (hd : (x == ("__debug__" : Str)) = false) (hs : SA X Φ wf (a :: es) cs) (hs1 : ∀ env, starEach es env = es.map fun e => (false, eval e env)) :
    SE X Φ wf (.Call (.Name x p) (a :: es) [] pos) (.call f cs) := by
  obtain ⟨fa, fd, ps, e1, e2, e3, e4⟩ := G.ex
  exact ⟨PE.weak (pe_call e2 hr hg e1 e3 e4 .nil pass0 hs.pa hd (by rw [hs.st, hs1]; rfl) (plainB (hs1 X.env))) fun σ H Q h => call_red h, plain_Call⟩
theorem se_call0 {x : Str} {p : Pos} {f : Nat} {kk : Nat} (G : DefAt X (Φ f) kk x) (hr : Room kk X.A) (hg : Gl X x) (hd : (x == ("__debug__" : Str)) = false) : SE X Φ wf (.Call (.Name x p) [] [] pos) (.call f .nil) := by
  obtain ⟨fa, fd, ps, e1, e2, e3, e4⟩ := G.ex
  refine ⟨PE.weak (pe_call0 e2 hr hg e1 e3 e4 .nil pass0 hd) fun σ H Q h => ?_, plain_Call⟩
  have q := call_red h
  obtain ⟨F, ρ, O, rs, ρ', sr, wd, e, k⟩ := q
  simp only [evA] at e
  cases e
  exact k [] F H O [] (nil_l Stp.refl) sr ⟨rfl, rfl⟩ (nil_w wd) Kp.refl
end
end Co

set_option maxRecDepth 100000
set_option maxHeartbeats 1000000
/-! Core8: what is walked, comprehensions -/
namespace Co
open PySem PySem.Spec PyProof.Rows L2

/-- an iterator gives the data ds, as long as the slots stand -/
def IterOk (K : PySem.W.Frag) (J : It) (F : Addr → Prop) (H : Hp) (O : List Addr) (ρ : Env) (σ : L2.St) (ds : List D) : Prop :=
  ∃ (G : Hp → Prop) (Y : Nat → Hp → V → Hp → Prop), Walk J ds.length G Y ∧
    ∀ F2 H2 O2 ρ2 σ2, Stp F H O F2 H2 O2 → Wd F2 H2 O2 → SR K F2 H2 ρ2 σ2 O2 → Kp ρ ρ2 → Ks ρ σ σ2 →
      G H2 ∧ ∀ i x H3, i < ds.length → Y i H2 x H3 → Stp F2 H2 [] F2 H3 [] ∧ ∃ d, ds[i]? = some d ∧ VR K F2 H3 d x []
section
variable (K : PySem.W.Frag) (Φ : Nat → List Sl → Option (D × List Sl)) (wf : Nat)
def tI (c : C) : TI := fun σ H R => ∃ F ρ O ds lk ρ1, SR K F H ρ σ O ∧ Wd F H O ∧ evI Φ wf c ρ = some (ds, lk, ρ1) ∧
  ∀ J F' H' O', Stp F H O F' H' O' → SR K F' H' (lock ρ1 lk) σ O' → Wd F' H' O' → Kp ρ ρ1 → (∀ i, lk = some i → ∃ l, ownAt ρ1 i = some l) → IterOk K J F' H' O' (lock ρ1 lk) σ ds → R J H'
end
section
variable {K : PySem.W.Frag} {F : Addr → Prop} {H : Hp} {O : List Addr} {ρ : Env} {σ : L2.St}
theorem lock_sr {lk : Option Nat} {i : Nat} (sr : SR K F H ρ σ O) : SR K F H (lock ρ lk) σ O ∨ True := .inr trivial
/-- a slot's flavour changed, its content as it is -/
theorem reslot : ∀ {ρ : Env} {σ : List (Option V)} {O : List Addr} {i : Nat} {s s' : Sl}, SR K F H ρ σ O → ρ[i]? = some s → (∀ {ov P}, S1 K F H s ov P → S1 K F H s' ov P) → SR K F H (ρ.set i s') σ O
  | [], _, _, _, _, _, _, e, _ => by simp at e
  | sl :: ρ, σ, O, 0, s, s', h, e, hs => by
    obtain ⟨ov, σ', O1, O2, e1, h1, h2, e2⟩ := h
    simp at e
    subst e
    exact ⟨ov, σ', O1, O2, e1, hs h1, h2, e2⟩
  | sl :: ρ, σ, O, i + 1, s, s', h, e, hs => by
    obtain ⟨ov, σ', O1, O2, e1, h1, h2, e2⟩ := h
    exact ⟨ov, σ', O1, O2, e1, h1, reslot (i := i) h2 (by simpa using e) hs, e2⟩
theorem lock_ok {i : Nat} {l : List D} (sr : SR K F H ρ σ O) (e : ownAt ρ i = some l) : SR K F H (lock ρ (some i)) σ O ∧ (lock ρ (some i))[i]? = some (.lk (.own l)) := by
  rcases own_slot e with e1 | e1
  · have : lock ρ (some i) = ρ.set i (.lk (.own l)) := by simp only [lock, e1]
    rw [this]
    exact ⟨reslot sr e1 (fun h => h), get_set_same e1⟩
  · have : lock ρ (some i) = ρ.set i (.lk (.own l)) := by simp only [lock, e1]
    rw [this]
    exact ⟨reslot sr e1 (fun h => h), get_set_same e1⟩
/-- a locked slot's list, at any later state -/
theorem locked {i : Nat} {l : List D} {F2 : Addr → Prop} {H2 : Hp} {O2 : List Addr} {ρ2 : Env} {σ2 : L2.St} {a : Addr} (sr2 : SR K F2 H2 ρ2 σ2 O2) (e : ρ2[i]? = some (.lk (.own l))) (hv : σ2[i]? = some (some (.ref a))) (hf : fzL l = true) :
    ∃ xs, SqL K H2 a xs ∧ VRL K F2 H2 l xs [] := by
  obtain ⟨ov, P, O', q1, q2, _, _⟩ := SR.take sr2 e
  rw [hv] at q1
  cases q1
  obtain ⟨v, e1, h⟩ := q2
  cases e1
  unfold VR at h
  obtain ⟨p, xs, P', e2, h1, h2, _⟩ := h
  cases e2
  have := VRL.fz l xs P' hf h2
  subst this
  exact ⟨xs, SqL.of h1, h2⟩
/-- .. the same of any list or tuple that stands -/
def Reads (K : PySem.W.Frag) (F : Addr → Prop) (H : Hp) (O : List Addr) (ρ : Env) (σ : L2.St) (l : List D) (A : Hp → List V → Prop) : Prop :=
  ∀ F2 H2 O2 ρ2 σ2, Stp F H O F2 H2 O2 → Wd F2 H2 O2 → SR K F2 H2 ρ2 σ2 O2 → Kp ρ ρ2 → Ks ρ σ σ2 → ∃ xs, A H2 xs ∧ VRL K F2 H2 l xs []
def isT : R → Bool
  | .d (.tup _) => true
  | _ => false
def SqX (K : PySem.W.Frag) (b : Bool) (H : Hp) (a : Addr) (xs : List V) : Prop := if b = true then SqT K H a xs else SqL K H a xs
theorem wd0 {F : Addr → Prop} {H : Hp} {O : List Addr} (w : Wd F H O) : Wd F H [] := wd_nil w.ft
def SrcPost (K : PySem.W.Frag) (F : Addr → Prop) (H : Hp) (O : List Addr) (ρ : Env) (σ : L2.St) (v : V) (ds : List D) (lk : Option Nat) (b : Bool) : Prop :=
    fzL ds = true ∧ SR K F H (lock ρ lk) σ O ∧ (∀ i, lk = some i → ∃ l, ownAt ρ i = some l) ∧ ∃ a, v = .ref a ∧ (∃ xs, SqX K b H a xs) ∧ Reads K F H O (lock ρ lk) σ ds (fun H xs => SqX K b H a xs)
theorem src_ok {r : R} {v : V} {P : List Addr} {ds : List D} {lk : Option Nat} (sr : SR K F H ρ σ O) (wd : Wd F H (O ++ P)) (h : RR K F H σ r v P) (e : srcOf ρ r = some (ds, lk)) :
    SrcPost K F H O ρ σ v ds lk (isT r) := by
  cases r with
  | d d =>
    obtain ⟨l, e1, e2⟩ := some_bind (show (d.items.bind fun l => if fzL l then some (l, none) else none) = some (ds, lk) from e)
    split at e2
    · rename_i hf
      cases e2
      refine ⟨hf, sr, (fun i hi => (by cases hi)), ?_⟩
      have h : VR K F H d v P := h
      have frozen : ∀ {a : Addr} {A : Hp → List V → Prop} (xs : List V), VRL K F H ds xs [] → A H xs → (∀ F2 H2 O2, Stp F H O F2 H2 O2 → A H2 xs) → Reads K F H O (lock ρ none) σ ds A := by
        intro a A xs hv hA hs F2 H2 O2 ρ2 σ2 st _ _ _ _
        exact ⟨xs, hs F2 H2 O2 st, VRL.stp wd.left st ds xs [] (fun _ z => (nomatch z)) hv⟩
      cases d with
      | tup l0 =>
        cases e1
        unfold VR at h
        obtain ⟨a, xs, rfl, h1, h2⟩ := h
        have := VRL.fz _ xs P hf h2
        subst this
        exact ⟨a, rfl, ⟨xs, h1⟩, frozen (a := a) (A := fun H xs => SqT K H a xs) xs h2 h1 fun F2 H2 O2 st => SqT.stp wd.left st h1⟩
      | lst l0 =>
        cases e1
        unfold VR at h
        obtain ⟨a, xs, rfl, h1, h2, h3, _⟩ := h
        exact ⟨a, rfl, ⟨xs, SqL.of h2⟩, frozen (a := a) (A := fun H xs => SqL K H a xs) xs h3 (SqL.of h2) fun F2 H2 O2 st => SqL.of (st.fr a _ h2 fun z => wd.left.nf a z h1)⟩
      | ro l0 =>
        cases e1
        unfold VR at h
        obtain ⟨a, xs, rfl, h1, h3, _⟩ := h
        exact ⟨a, rfl, ⟨xs, h1.sq⟩, frozen (a := a) (A := fun H xs => SqL K H a xs) xs h3 h1.sq fun F2 H2 O2 st => (RoL.stp wd.left st h1).sq⟩
      | own l0 =>
        cases e1
        unfold VR at h
        obtain ⟨a, xs, P', rfl, h1, h2, h3⟩ := h
        have := VRL.fz _ xs P' hf h2
        subst this h3
        exact ⟨a, rfl, ⟨xs, SqL.of h1⟩, frozen (a := a) (A := fun H xs => SqL K H a xs) xs h2 (SqL.of h1) fun F2 H2 O2 st => SqL.of (st.fr a _ h1 (wd.apart a (by simp)))⟩
      | _ => cases e1
    · cases e2
  | pl i =>
    obtain ⟨h1, _⟩ := h
    have main : ∀ (l : List D) (lk' : Option Nat), ds = l → lk = lk' → fzL l = true → (lock ρ lk')[i]? = some (.lk (.own l)) → SR K F H (lock ρ lk') σ O → (∀ j, lk' = some j → ∃ l, ownAt ρ j = some l) → SrcPost K F H O ρ σ v ds lk (isT (.pl i)) := by
      intro l lk' e1 e2 hf e3 sr2 h4
      subst e1 e2
      refine ⟨hf, sr2, h4, ?_⟩
      obtain ⟨ov, P1, O', q1, q2, _, _⟩ := SR.take sr2 e3
      rw [h1] at q1
      cases q1
      obtain ⟨w, e5, q2⟩ := q2
      cases e5
      unfold VR at q2
      obtain ⟨a, xs, P', rfl, z1, z2, _⟩ := q2
      refine ⟨a, rfl, ⟨xs, SqL.of z1⟩, fun F2 H2 O2 ρ2 σ2 st w2 sr3 kp ks => ?_⟩
      exact locked sr3 (kp.lk i _ e3) ((ks i (.inr ⟨_, e3⟩)).trans h1) hf
    have e : (match ρ[i]? with
      | some (.v (.own l)) => if fzL l then some (l, some i) else none
      | some (.bo (.own l)) => if fzL l then some (l, some i) else none
      | some (.lk (.own l)) => if fzL l then some (l, none) else none
      | _ => none) = some (ds, lk) := e
    split at e
    · rename_i l e1
      split at e
      · rename_i hf
        cases e
        have eo : ownAt ρ i = some ds := by unfold ownAt; rw [e1]
        obtain ⟨s1, s2⟩ := lock_ok sr eo
        exact main ds (some i) rfl rfl hf s2 s1 fun j hj => by cases hj; exact ⟨_, eo⟩
      · cases e
    · rename_i l e1
      split at e
      · rename_i hf
        cases e
        have eo : ownAt ρ i = some ds := by unfold ownAt; rw [e1]
        obtain ⟨s1, s2⟩ := lock_ok sr eo
        exact main ds (some i) rfl rfl hf s2 s1 fun j hj => by cases hj; exact ⟨_, eo⟩
      · cases e
    · rename_i l e1
      split at e
      · rename_i hf
        cases e
        exact main ds none rfl rfl hf e1 sr fun j hj => by cases hj
      · cases e
    · cases e
theorem walkX {b : Bool} {a : Addr} {n : Nat} : Walk (if b = true then Itt K a else Itl K a) n (fun H => ∃ xs, SqX K b H a xs ∧ xs.length = n) (fun i H x H' => H' = H ∧ ∀ xs, SqX K b H a xs → xs[i]? = some x) := by
  cases b with
  | true => exact ⟨fun i H hi ⟨xs, h, e⟩ => ⟨xs, xs[i]'(by omega), h, by simp⟩, fun H ⟨xs, h, e⟩ => ⟨xs, h, Nat.le_of_eq e⟩, fun i H x H' hi g y => y⟩
  | false => exact ⟨fun i H hi ⟨xs, h, e⟩ => ⟨xs, xs[i]'(by omega), h, by simp⟩, fun H ⟨xs, h, e⟩ => ⟨xs, h, Nat.le_of_eq e⟩, fun i H x H' hi g y => y⟩
theorem iter_of {b : Bool} {a : Addr} {ds : List D} {ρl : Env} (h : Reads K F H O ρl σ ds (fun H xs => SqX K b H a xs)) : IterOk K (if b = true then Itt K a else Itl K a) F H O ρl σ ds := by
  refine ⟨_, _, walkX (b := b) (a := a) (n := ds.length), fun F2 H2 O2 ρ2 σ2 st w sr kp ks => ?_⟩
  obtain ⟨xs, h1, h2⟩ := h F2 H2 O2 ρ2 σ2 st w sr kp ks
  refine ⟨⟨xs, h1, VRL.length _ _ _ h2⟩, fun i x H3 hi y => ?_⟩
  obtain ⟨rfl, y⟩ := y
  refine ⟨Stp.refl, ds[i], by simp [hi], ?_⟩
  obtain ⟨v, Pv, e1, e2, e3⟩ := VRL.get h2 (show ds[i]? = some ds[i] by simp [hi])
  have e4 := y xs h1
  rw [e1] at e4
  cases e4
  have : Pv = [] := by
    have := e3.length_le
    simpa using this
  subst this
  exact e2
/-- .. numbered -/
theorem enum_len : ∀ (l : List D) (k : Nat), (enumL k l).length = l.length
  | [], _ => rfl
  | d :: l, k => by show (enumL (k + 1) l).length + 1 = l.length + 1; rw [enum_len l (k + 1)]
theorem enum_get : ∀ {l : List D} {k i : Nat} {d : D}, l[i]? = some d → (enumL k l)[i]? = some (.tup [.int ((k + i : Nat) : Int), d])
  | [], _, _, _, e => by simp at e
  | x :: l, k, 0, d, e => by simp at e; subst e; rfl
  | x :: l, k, i + 1, d, e => by
    show (enumL (k + 1) l)[i]? = _
    rw [enum_get (k := k + 1) (i := i) (by simpa using e)]
    have : k + 1 + i = k + (i + 1) := by omega
    rw [this]
theorem walkE {a : Addr} {n : Nat} : Walk (Ite K a) n (fun H => ∃ xs, SqL K H a xs ∧ xs.length = n) (fun i H v H' => ∃ T x, v = .ref T ∧ H T = none ∧ H' = upd H T (.tup [.int (i : Nat), x]) ∧ ∀ xs, SqL K H a xs → xs[i]? = some x) :=
  ⟨fun i H hi ⟨xs, h, e⟩ => ⟨xs, xs[i]'(by omega), h, by simp⟩, fun H ⟨xs, h, e⟩ => ⟨xs, h, Nat.le_of_eq e⟩, fun i H x H' hi g y => y⟩
theorem iter_enum {a : Addr} {ds : List D} {ρl : Env} (h : Reads K F H O ρl σ ds (fun H xs => SqX K false H a xs)) : IterOk K (Ite K a) F H O ρl σ (enumL 0 ds) := by
  refine ⟨_, _, by rw [enum_len]; exact walkE (a := a) (n := ds.length), fun F2 H2 O2 ρ2 σ2 st w sr kp ks => ?_⟩
  obtain ⟨xs, h1, h2⟩ := h F2 H2 O2 ρ2 σ2 st w sr kp ks
  refine ⟨⟨xs, h1, VRL.length _ _ _ h2⟩, fun i x H3 hi y => ?_⟩
  rw [enum_len] at hi
  obtain ⟨T, v, rfl, hT, rfl, y⟩ := y
  have s0 : Stp F2 H2 [] F2 (upd H2 T (.tup [.int (i : Nat), v])) [] := ⟨fun a u e _ => by rw [upd_ne (ne_of_none e hT)]; exact e, fun _ h => h, fun a ha => (nomatch ha), fun _ h => .inl h⟩
  refine ⟨s0, _, enum_get (d := ds[i]) (by simp [hi]), ?_⟩
  obtain ⟨v', Pv, e1, e2, e3⟩ := VRL.get h2 (show ds[i]? = some ds[i] by simp [hi])
  have e4 := y xs h1
  rw [e1] at e4
  cases e4
  have : Pv = [] := by
    have := e3.length_le
    simpa using this
  subst this
  have e5 := VR.stp (wd0 w) s0 _ _ [] (fun _ z => (nomatch z)) e2
  unfold VR
  refine ⟨T, _, rfl, SqT.of upd_same, ?_⟩
  unfold VRL
  refine ⟨.int i, [_], [], [], rfl, ?_, VRL.one e5, rfl⟩
  unfold VR
  exact ⟨by simp, rfl⟩
end
section
variable {X : Cx} {Φ : Nat → List Sl → Option (D × List Sl)} {wf : Nat} {a b c tg : Expr} {ca cb cc : C} {pos : Pos}
theorem PI.weak {e : Expr} {t u : TI} (h : PI X tg e t) (w : ∀ σ H Q, u σ H Q → t σ H Q) : PI X tg e u := ⟨fun pins s σ H R I q => h.run pins s σ H R I (w σ H R q)⟩
theorem PI.or {e : Expr} {t u : TI} (h : PI X tg e t) (h2 : PI X tg e u) : PI X tg e (fun σ H R => t σ H R ∨ u σ H R) := ⟨fun pins s σ H R I q => by
  rcases q with q | q
  · exact h.run pins s σ H R I q
  · exact h2.run pins s σ H R I q⟩
theorem si_seq (ha : SE X Φ wf a ca) : PI X tg a (tI X.K Φ wf (.sseq ca)) := by
  refine PI.weak (PI.or (pi_list ha.pe) (pi_tup ha.pe)) fun σ H R h => ?_
  obtain ⟨F, ρ, O, ds, lk, ρ1, sr, wd, e, k⟩ := h
  simp only [evI] at e
  obtain ⟨⟨r, ρ2⟩, e1, e⟩ := some_bind e
  obtain ⟨⟨l, lk'⟩, e2, e⟩ := some_bind e
  cases e
  have main : ∀ b, isT r = b → tE X.K Φ wf ca σ H fun x H1 => ∃ a, x = .ref a ∧ (∃ xs, SqX X.K b H1 a xs) ∧ R (if b = true then Itt X.K a else Itl X.K a) H1 := by
    intro b hb
    refine ⟨F, ρ, O, r, _, sr, wd, e1, fun v F2 H2 O2 P st sr2 rr wd2 kp => ?_⟩
    obtain ⟨hf, s1, s2, p, rfl, s3, s4⟩ := src_ok sr2 wd2 rr e2
    rw [hb] at s3 s4
    exact ⟨p, rfl, s3, k _ F2 H2 O2 (sub0 st) s1 wd2.left kp s2 (iter_of s4)⟩
  cases hb : isT r with
  | true => exact .inr (main true hb)
  | false => exact .inl (main false hb)
theorem rng_len (x y : Int) : (rngD x y).length = (y - x).toNat := by unfold rngD; simp
theorem rng_get {x y : Int} {i : Nat} (h : i < (y - x).toNat) : (rngD x y)[i]? = some (.int (x + i)) := by
  unfold rngD
  rw [List.getElem?_map, List.getElem?_range h]
  rfl
theorem iter_rng {K : PySem.W.Frag} {F : Addr → Prop} {H : Hp} {O : List Addr} {ρ : Env} {σ : L2.St} {x y : Int} : IterOk K (Itr x (y - x).toNat) F H O ρ σ (rngD x y) := by
  refine ⟨_, _, by rw [rng_len]; exact walk_range, fun F2 H2 O2 ρ2 σ2 st w sr kp ks => ⟨trivial, fun i v H3 hi q => ?_⟩⟩
  rw [rng_len] at hi
  obtain ⟨rfl, rfl⟩ := q
  exact ⟨Stp.refl, _, rng_get hi, by unfold VR; exact ⟨rfl, rfl⟩⟩
end
end Co

set_option maxRecDepth 100000
set_option maxHeartbeats 2000000
/-! Core8E: enumerate of a tuple -/
namespace PySem
open Sem (wp)
theorem meets_enum1 {v : Value} {o : Obj} {H : Heap → Prop} (B : Begins v o H) :
    Meets (Builtin.«enumerate.__new__» ⟨[.type "enumerate", v], []⟩) (fun _ R s => H s.heap ∧
      R (.ok (.ret (.ref (s.heap.push o).objs.size))) { s with heap := (s.heap.push o).push { cls := .type "enumerate", data := .fields #[.none, .bool false, .ref s.heap.objs.size, rawInt 0, .none, .none] } }) :=
  .of_wp fun prog w A R s h => by
    obtain ⟨hp, g, d, tk, os⟩ := s; obtain ⟨h1, h⟩ := h
    have hsub := sub_enumerate
    have q1 : ∀ {A' : Around} {E : Value → Shared → Prop} {Q : Value → Shared → Prop}, Q (.ref hp.objs.size) ⟨hp.push o, g, d, tk, os⟩ → wpAny (model prog w) A' (pyIter v) Q E ⟨hp, g, d, tk, os⟩ :=
      fun q => B.iter prog w _ _ ⟨hp, g, d, tk, os⟩ _ h1 q
    wp_walk using q1
    refine wpAny_stack_any fun st => wpAny_pure ?_
    split
    · rename_i c _ _ _ _ _
      cases (c == Value.type "enumerate")
      · wp_walk using q1
        exact ⟨_, rfl, h⟩
      · wp_walk using q1
        exact ⟨_, rfl, h⟩
    · wp_walk using q1
      exact ⟨_, rfl, h⟩
theorem call_enum1 {prog : Program} {w : World} {A : Around} {E : Value → Shared → Prop} {s : Shared} {v : Value} {o : Obj} {H : Heap → Prop} {Q : Value → Shared → Prop} (B : Begins v o H) (h1 : H s.heap)
    (h : ∀ h', IsEnum h' (s.heap.objs.size + 1) s.heap.objs.size 0 .none → h'.get? s.heap.objs.size = some o → h'.objs.size = s.heap.objs.size + 2 →
      (∀ b o, s.heap.get? b = some o → h'.get? b = some o) → Q (.ref (s.heap.objs.size + 1)) { s with heap := h' }) :
    wpAny (model prog w) A (call (.type "enumerate") [v]) Q E s := by
  refine callType_new F.called_enumerate (by decide) (F.typeCall_enumerate_1 _) (F.newCall_enumerate_1 _) (fun obj => F.args_object_init_2 obj _) F.entry_enumerate_new
    (meets_enum1 B) ⟨h1, ?_⟩
  have hz : (s.heap.push o).objs.size = s.heap.objs.size + 1 := Heap.size_push ..
  show _ ∧ _
  rw [hz]
  have he : IsEnum ((s.heap.push o).push { cls := .type "enumerate", data := .fields #[.none, .bool false, .ref s.heap.objs.size, rawInt 0, .none, .none] }) (s.heap.objs.size + 1) s.heap.objs.size 0 .none := by
    have := Heap.get?_push_size (s.heap.push o) (o := { cls := .type "enumerate", data := .fields #[.none, .bool false, .ref s.heap.objs.size, rawInt 0, .none, .none] }) rfl
    rw [hz] at this; exact this
  refine ⟨⟨_, he, rfl⟩, h _ he (Heap.get?_push_of_some _ (Heap.get?_push_size _ B.free)) (by rw [Heap.size_push, hz]) fun b o x => Heap.get?_push_of_some _ (Heap.get?_push_of_some _ x)⟩
end PySem
namespace Co
open PySem PySem.Spec PyProof.Rows L2
/-- the tuple at a, each item in a new pair -/
def IteT (K : PySem.W.Frag) (a : Addr) : It :=
  ⟨fun i H => ∃ (xs : List V) (x : V), SqT K H a xs ∧ xs[i]? = some x, fun i H v H' => ∃ T x, v = .ref T ∧ H T = none ∧ H' = upd H T (.tup [.int (i : Nat), x]) ∧ ∀ xs, SqT K H a xs → xs[i]? = some x, fun i H => ∃ xs : List V, SqT K H a xs ∧ xs.length ≤ i⟩
theorem cls_ne {h : Heap} {a b : Addr} {o1 o2 : Obj} (h1 : h.get? a = some o1) (h2 : h.get? b = some o2) (hc : o1.cls ≠ o2.cls) : a ≠ b := fun e => by
  subst e
  rw [h1] at h2
  cases h2
  exact hc rfl
theorem turn_enumT {P : Program} {w : World} {K : PySem.W.Frag} {elts : List Expr} {kk : Nat} {tpos : Pos} (a e it : Addr) :
    Turn P w K (.Tuple elts kk tpos) (IteT K a) [e, it] e (fun i h => (∃ old, IsEnum h e it ((i : Nat) : Int) old) ∧ h.IsTupleIter it a i ∧ e ≠ it) where
  mem := by simp
  obj := fun i h st b hb => by
    obtain ⟨⟨old, he⟩, ⟨o, ho, hc, hd⟩, _⟩ := st
    have e' : b = e ∨ b = it := by simpa using hb
    rcases e' with z | z
    · rw [z]; exact ⟨_, he, fun v q => nomatch q⟩
    · rw [z]; exact ⟨o, ho, fun v q => by rw [hd] at q; cases q⟩
  keep := fun i h h' st k => let ⟨⟨old, he⟩, hi, hne⟩ := st; ⟨⟨old, k e (by simp) _ he⟩, hi.at fun o q => k it (by simp) o q, hne⟩
  item := by
    intro X hP hw hK hc i pins s σ H E I hf st hg
    subst hP hw hK
    obtain ⟨⟨old, he⟩, hit, hne⟩ := st
    obtain ⟨xs, x, hq, hx⟩ := hg
    obtain ⟨its, rv, p, hz⟩ := I.tuple hq
    obtain ⟨u, hu, ru⟩ := rv.get hx
    have hel : e < s.heap.objs.size := Heap.lt_size he
    have hil : it < s.heap.objs.size := by obtain ⟨_, q, _⟩ := hit; exact Heap.lt_size q
    have pt : s.heap.IsTuple a its.toArray := p
    have hea : e ≠ a := by
      obtain ⟨o, q, c, _⟩ := pt
      exact cls_ne he q (by rw [c]; show Value.type "enumerate" ≠ Value.type "tuple"; decide)
    have hai : a ≠ it := by
      obtain ⟨o, q, c, _⟩ := pt
      obtain ⟨o2, q2, c2, _⟩ := hit
      exact cls_ne q q2 (by rw [c, c2]; decide)
    have hlt : i < its.toArray.size := by
      have := (List.getElem?_eq_some_iff.mp hu).1
      simpa using this
    refine wpAny_pyNext_enum_itemC (Draws.tuple (show X.A.in1.handled = none from I.ok.hd hc) it a hai its.toArray) he ⟨hit, pt⟩ hlt hne (by simp [hne, hea]) fun x' h' tk hP ho hst' hT hsz hk => ?_
    have hxu : x' = u := by
      have hP : its.toArray[i]? = some x' := hP
      have : its[i]? = some x' := by simpa using hP
      rw [hu] at this
      cases this
      rfl
    subst hxu
    obtain ⟨hit', _⟩ := hst'
    refine ⟨_, rfl, wpAny_letOwnedTupleGo_enum (s := { s with heap := h', toks := tk + 1 }) ho fun h'' he' sb => ?_⟩
    have hT2 : h''.get? s.heap.objs.size = some { cls := .type "tuple", data := .seq #[.int i tk, x'] } := (sb.2 _ (Nat.ne_of_gt hel)).trans hT
    have new : ObjOk X.prog X.w (upd H s.heap.objs.size (.tup [.int (i : Nat), x])) h'' s.heap.objs.size (.tup [.int (i : Nat), x]) :=
      ⟨by show 2 ≤ sizeLine; decide, [.int i tk, x'], .cons ⟨_, rfl⟩ (.cons ru .nil), ⟨_, hT2, rfl, _, rfl⟩⟩
    have I1 : Inv X pins σ (upd H s.heap.objs.size (.tup [.int (i : Nat), x])) { s with heap := h'', toks := tk + 1 } :=
      I.turnedNew (ch := [e, it]) (fun b ob hb q => (sb.2 b (fun z => hb (by simp [z]))).trans (hk b ob (fun z => hb (by simp [z])) (fun z => hb (by simp [z])) q)) hf (Nat.le_refl _) new
    refine ⟨.ref s.heap.objs.size, _, I1, rfl, ⟨_, x, rfl, I.hok.fresh (Nat.le_refl _), rfl, fun ys hy => by rw [I.tuple_inj hy hq]; exact hx⟩, ⟨⟨x', ?_⟩, hit'.at fun o q => (sb.2 it (Ne.symm hne)).trans q, hne⟩, fun b hb => ?_⟩
    · have e1 : ((i + 1 : Nat) : Int) = (i : Int) + 1 := by omega
      rw [e1]; exact he'
    · have hb' : b < s.heap.objs.size := by
        have e' : b = e ∨ b = it := by simpa using hb
        rcases e' with z | z
        · rw [z]; exact hel
        · rw [z]; exact hil
      rw [upd_ne (Nat.ne_of_lt hb')]
      exact (hf b hb).1
  done := by
    intro X hP hw hK hc i pins s σ H E I hf st hg
    subst hP hw hK
    obtain ⟨⟨old, he⟩, hit, hne⟩ := st
    obtain ⟨xs, hq, hx⟩ := hg
    obtain ⟨its, rv, p, hz⟩ := I.tuple hq
    obtain ⟨f0, f1, f2, f3, f4, f5⟩ := hf it (by simp)
    have hl := rv.length
    have pt : s.heap.IsTuple a its.toArray := p
    have hai : a ≠ it := by
      obtain ⟨o, q, c, _⟩ := pt
      obtain ⟨o2, q2, c2, _⟩ := hit
      exact cls_ne q q2 (by rw [c, c2]; decide)
    have hh : X.A.in1.handled = none := I.ok.hd hc
    have D : Draws X.prog X.w X.A.in1 it [it, a] 0 (fun _ _ => False) (fun _ h => h.IsTupleIter it a i ∧ h.IsTuple a its.toArray) :=
      { live := fun _ _ st => let ⟨o, ho, _⟩ := st.1; ⟨o, ho⟩
        frame := fun _ _ _ st hk => ⟨st.1.at fun o e => hk it (by simp) o e, st.2.at fun o e => hk a (by simp) o e⟩
        item := fun j s Q E hj st hQ => absurd hj (Nat.not_lt_zero _)
        done := fun s Q E st hE => wpAny_nextOf_tuple_end hh st.1 st.2 (by simp; omega) hE }
    exact wpAny_pyNext_enum_endD D he ⟨hit, pt⟩ fun h' eb => ⟨rfl, I.turned (t' := s.toks) (fun b o hb q => eb b o hb q) f0 f1 f3 f4 f5⟩
  self := fun A i s Q E st h => let ⟨⟨_, he⟩, _⟩ := st; wpAny_pyIter_enum he h
def iEnumT (K : PySem.W.Frag) (ta : TA) : TI := fun σ H R => ta σ H fun vs H1 => ∃ a xs, vs = [.ref a] ∧ SqT K H1 a xs ∧ R (IteT K a) H1
theorem pi_enumT {X : Cx} {e : Expr} {ta : TA} {p pos tpos : Pos} {elts : List Expr} {kk : Nat} (hg : Gl X "enumerate") (hm : X.mg "enumerate" = none) (ha : PA X [e] ta) (hs : starEach [e] X.env = [(false, eval e X.env)] := by rfl) :
    PI X (.Tuple elts kk tpos) (.Call (.Name "enumerate" p) [e] [] pos) (iEnumT X.K ta) := by
  refine ⟨fun pins s σ H R I h => ?_⟩
  refine Call_ (ld_blt I hg hm boot_enumerate (PyProof.Rows.callWith_type1 (thn (ha.run pos pins s σ H _ I h) fun us s1 ⟨vs, H1, I1, r1, q1⟩ => ?_) hs rfl))
  obtain ⟨a, xs, ex, hq, q⟩ := q1
  subst ex
  cases r1 with
  | cons r rr =>
    cases rr
    cases r
    obtain ⟨its, rv, p', hz⟩ := I1.tuple hq
    refine call_enum1 (begins_tuple a its.toArray) (show s1.heap.IsTuple a its.toArray from p') fun h' he hit hsz hk => wpAny_pyIter_enum he ?_
    have I2 : Inv X pins σ H1 { s1 with heap := h' } := I1.kept (t' := s1.toks) hk
    refine ⟨s1.heap.objs.size + 1, [s1.heap.objs.size + 1, s1.heap.objs.size], _, _, H1, rfl, I2, turn_enumT a (s1.heap.objs.size + 1) s1.heap.objs.size, ⟨⟨.none, he⟩, ⟨_, hit, rfl, rfl⟩, Nat.succ_ne_self _⟩, fun b hb => ?_, q⟩
    have e' : b = s1.heap.objs.size + 1 ∨ b = s1.heap.objs.size := by simpa using hb
    have hle : s1.heap.objs.size ≤ b := by
      rcases e' with z | z
      · rw [z]; exact Nat.le_add_right _ _
      · rw [z]; exact Nat.le_refl _
    exact I1.fpOk hle (I1.hok.fresh hle)
end Co
namespace Co
open PySem PySem.Spec PyProof.Rows L2
theorem walkET {K : PySem.W.Frag} {a : Addr} {n : Nat} : Walk (IteT K a) n (fun H => ∃ xs, SqT K H a xs ∧ xs.length = n) (fun i H v H' => ∃ T x, v = .ref T ∧ H T = none ∧ H' = upd H T (.tup [.int (i : Nat), x]) ∧ ∀ xs, SqT K H a xs → xs[i]? = some x) :=
  ⟨fun i H hi ⟨xs, h, e⟩ => ⟨xs, xs[i]'(by omega), h, by simp⟩, fun H ⟨xs, h, e⟩ => ⟨xs, h, Nat.le_of_eq e⟩, fun i H x H' hi g y => y⟩
theorem iter_enumT {K : PySem.W.Frag} {F : Addr → Prop} {H : Hp} {O : List Addr} {σ : L2.St} {a : Addr} {ds : List D} {ρl : Env} (h : Reads K F H O ρl σ ds (fun H xs => SqX K true H a xs)) : IterOk K (IteT K a) F H O ρl σ (enumL 0 ds) := by
  refine ⟨_, _, by rw [enum_len]; exact walkET (a := a) (n := ds.length), fun F2 H2 O2 ρ2 σ2 st w sr kp ks => ?_⟩
  obtain ⟨xs, h1, h2⟩ := h F2 H2 O2 ρ2 σ2 st w sr kp ks
  refine ⟨⟨xs, h1, VRL.length _ _ _ h2⟩, fun i x H3 hi y => ?_⟩
  rw [enum_len] at hi
  obtain ⟨T, v, rfl, hT, rfl, y⟩ := y
  have s0 : Stp F2 H2 [] F2 (upd H2 T (.tup [.int (i : Nat), v])) [] := ⟨fun a u e _ => by rw [upd_ne (ne_of_none e hT)]; exact e, fun _ h => h, fun a ha => (nomatch ha), fun _ h => .inl h⟩
  refine ⟨s0, _, enum_get (d := ds[i]) (by simp [hi]), ?_⟩
  obtain ⟨v', Pv, e1, e2, e3⟩ := VRL.get h2 (show ds[i]? = some ds[i] by simp [hi])
  have e4 := y xs h1
  rw [e1] at e4
  cases e4
  have : Pv = [] := by
    have := e3.length_le
    simpa using this
  subst this
  have e5 := VR.stp (wd0 w) s0 _ _ [] (fun _ z => (nomatch z)) e2
  unfold VR
  refine ⟨T, _, rfl, SqT.of upd_same, ?_⟩
  unfold VRL
  refine ⟨.int i, [_], [], [], rfl, ?_, VRL.one e5, rfl⟩
  unfold VR
  exact ⟨by simp, rfl⟩
section
variable {X : Cx} {Φ : Nat → List Sl → Option (D × List Sl)} {wf : Nat} {a : Expr} {ca : C} {pos : Pos}
theorem si_enum {p tpos : Pos} {elts : List Expr} {kk : Nat} (hg : Gl X "enumerate") (hm : X.mg "enumerate" = none) (ha : SE X Φ wf a ca) : PI X (.Tuple elts kk tpos) (.Call (.Name "enumerate" p) [a] [] pos) (tI X.K Φ wf (.senum ca)) := by
  have hs : SA X Φ wf [a] (.cons ca .nil) := sa_cons ha sa_nil
  refine PI.weak (PI.or (pi_enum hg hm hs.pa (hs.st _)) (pi_enumT hg hm hs.pa (hs.st _))) fun σ H R h => ?_
  obtain ⟨F, ρ, O, ds, lk, ρ1, sr, wd, e, k⟩ := h
  simp only [evI] at e
  obtain ⟨⟨r, ρ2⟩, e1, e⟩ := some_bind e
  obtain ⟨⟨l, lk'⟩, e2, e⟩ := some_bind e
  cases e
  have ea : evA Φ wf (.cons ca .nil) ρ = some ([r], ρ2) := by
    simp only [evA, e1, Option.bind_some]
  have main : ∀ b, isT r = b → tA X.K Φ wf (.cons ca .nil) σ H fun vs H1 => ∃ a xs, vs = [.ref a] ∧ SqX X.K b H1 a xs ∧ R (if b = true then IteT X.K a else Ite X.K a) H1 := by
    intro b hb
    refine ⟨F, ρ, O, [r], _, sr, wd, ea, fun vs F2 H2 O2 P st sr2 rr wd2 kp => ?_⟩
    obtain ⟨v, xs', P1, P2, rfl, h1, ⟨rfl, rfl⟩, rfl⟩ := rr
    rw [List.append_nil] at st wd2
    obtain ⟨hf, s1, s2, p, rfl, ⟨xs, s3⟩, s4⟩ := src_ok sr2 wd2 h1 e2
    rw [hb] at s3 s4
    refine ⟨p, xs, rfl, s3, k _ F2 H2 O2 (sub0 st) s1 wd2.left kp s2 ?_⟩
    cases b with
    | true => exact iter_enumT s4
    | false => exact iter_enum s4
  cases hb : isT r with
  | true => exact .inr (main true hb)
  | false => exact .inl (main false hb)
end
end Co

set_option maxRecDepth 100000
set_option maxHeartbeats 1000000
/-! Core9: comprehensions -/
namespace Co
open PySem PySem.Spec PyProof.Rows L2

section
variable {K : PySem.W.Frag} {F : Addr → Prop} {H : Hp} {O : List Addr} {ρ : Env} {σ : L2.St}
theorem SR.ext_no : ∀ {ρ : Env} {σ : List (Option V)} {O : List Addr} {i : Nat} {ov : Option V}, SR K F H ρ σ O → ρ[i]? = some .no → SR K F H ρ (σ.set i ov) O
  | [], _, _, _, _, _, e => by simp at e
  | sl :: ρ, σ, O, 0, ov, h, e => by
    obtain ⟨ov0, σ', O1, O2, e1, h1, h2, e2⟩ := h
    simp at e
    subst e e1
    exact ⟨ov, σ', O1, O2, rfl, h1, h2, e2⟩
  | sl :: ρ, σ, O, i + 1, ov, h, e => by
    obtain ⟨ov0, σ', O1, O2, e1, h1, h2, e2⟩ := h
    subst e1
    exact ⟨ov0, σ'.set i ov, O1, O2, rfl, h1, SR.ext_no (i := i) h2 (by simpa using e), e2⟩
theorem SR.out {i : Nat} (h : SR K F H ρ σ O) (e : ρ.length ≤ i) (s : Sl) (ov : Option V) : SR K F H (ρ.set i s) (σ.set i ov) O := by
  rw [List.set_eq_of_length_le e, List.set_eq_of_length_le (by rw [SR.length h]; exact e)]
  exact h
/-- slots wiped -/
theorem wipe_sr : ∀ (is : List Nat) {ρ : Env} {σ : L2.St} {O : List Addr}, SR K F H ρ σ O → ∃ O' P, SR K F H (wipeS ρ is) (wipe σ is) O' ∧ O.Perm (O' ++ P)
  | [], ρ, σ, O, h => ⟨O, [], h, by simp⟩
  | i :: is, ρ, σ, O, h => by
    obtain ⟨O', P, h1, h2⟩ := wipe_sr is h
    show ∃ O' P, SR K F H ((wipeS ρ is).set i .no) ((wipe σ is).set i none) O' ∧ O.Perm (O' ++ P)
    by_cases hi : i < (wipeS ρ is).length
    · obtain ⟨ov, P2, O2, q1, q2, q3, q4⟩ := SR.take h1 (show (wipeS ρ is)[i]? = some (wipeS ρ is)[i] by simp [hi])
      refine ⟨O2, P2 ++ P, SR.ext_no q3 (by simp [hi]), h2.trans ?_⟩
      rw [← List.append_assoc]
      exact q4.append_right P
    · exact ⟨O', P, SR.out h1 (by omega) _ _, h2⟩
/-- .. that hold nothing owned -/
theorem wipe_free : ∀ (is : List Nat) {ρ : Env} {σ : L2.St} {O : List Addr}, SR K F H ρ σ O → (∀ i ∈ is, freeAt ρ i = true) → SR K F H (wipeS ρ is) (wipe σ is) O ∧ (∀ j, freeAt ρ j = true → freeAt (wipeS ρ is) j = true)
  | [], ρ, σ, O, h, _ => ⟨h, fun _ q => q⟩
  | i :: is, ρ, σ, O, h, hf => by
    obtain ⟨h1, h2⟩ := wipe_free is h fun j hj => hf j (List.mem_cons_of_mem _ hj)
    have fi := h2 i (hf i List.mem_cons_self)
    show SR K F H ((wipeS ρ is).set i .no) ((wipe σ is).set i none) O ∧ _
    refine ⟨?_, fun j hj => ?_⟩
    · unfold freeAt at fi
      split at fi
      · rename_i e
        rw [set_same e]
        exact SR.ext_no h1 e
      · rename_i d e
        obtain ⟨ov, P2, O2, q1, ⟨v, rfl, q2⟩, q3, q4⟩ := SR.take h1 e
        have := VR.fz d v P2 fi q2
        subst this
        have h5 : SR K F H ((wipeS ρ is).set i .no) (wipe σ is) O := reslot h1 e fun {ov P} hs => by
          obtain ⟨v, _, hv⟩ := hs
          exact VR.fz d v P fi hv
        exact SR.ext_no h5 (get_set_same e)
      · cases fi
    · show freeAt ((wipeS ρ is).set i .no) j = true
      have := h2 j hj
      by_cases hij : i = j
      · subst hij
        unfold freeAt at this ⊢
        split at this
        · rename_i e; rw [get_set_same e]
        · rename_i d e; rw [get_set_same e]
        · cases this
      · unfold freeAt at this ⊢
        rw [List.getElem?_set_ne hij]
        exact this
theorem wipeS_len : ∀ (is : List Nat) (ρ : Env), (wipeS ρ is).length = ρ.length
  | [], _ => rfl
  | i :: is, ρ => by
    show ((wipeS ρ is).set i .no).length = _
    rw [List.length_set, wipeS_len is ρ]
theorem wipeS_get : ∀ (is : List Nat) (ρ : Env) (j : Nat), j ∉ is → (wipeS ρ is)[j]? = ρ[j]?
  | [], _, _, _ => rfl
  | i :: is, ρ, j, h => by
    have h' : j ≠ i ∧ j ∉ is := by simpa using h
    show ((wipeS ρ is).set i .no)[j]? = _
    rw [List.getElem?_set_ne (Ne.symm h'.1), wipeS_get is ρ j h'.2]
theorem wipeS_no : ∀ (is : List Nat) (ρ : Env) (j : Nat), j ∈ is → j < ρ.length → (wipeS ρ is)[j]? = some .no
  | [], _, _, h, _ => (nomatch h)
  | i :: is, ρ, j, h, hl => by
    show ((wipeS ρ is).set i .no)[j]? = _
    by_cases hij : i = j
    · subst hij
      rw [List.getElem?_set_self (by rw [wipeS_len]; exact hl)]
    · rw [List.getElem?_set_ne hij]
      have : j ∈ is := (List.mem_cons.mp h).resolve_left (Ne.symm hij)
      exact wipeS_no is ρ j this hl
theorem wipe_get : ∀ (is : List Nat) (σ : L2.St) (j : Nat), j ∉ is → (wipe σ is)[j]? = σ[j]?
  | [], _, _, _ => rfl
  | i :: is, σ, j, h => by
    have h' : j ≠ i ∧ j ∉ is := by simpa using h
    show ((wipe σ is).set i none)[j]? = _
    rw [List.getElem?_set_ne (Ne.symm h'.1), wipe_get is σ j h'.2]
theorem wipe_none : ∀ (is : List Nat) (σ : L2.St) (j : Nat), j ∈ is → j < σ.length → (wipe σ is)[j]? = some none
  | [], _, _, h, _ => (nomatch h)
  | i :: is, σ, j, h, hl => by
    show ((wipe σ is).set i none)[j]? = _
    by_cases hij : i = j
    · subst hij
      rw [List.getElem?_set_self (by rw [wipe_length]; exact hl)]
    · rw [List.getElem?_set_ne hij]
      exact wipe_none is σ j ((List.mem_cons.mp h).resolve_left (Ne.symm hij)) hl
theorem wipe_ag {is : List Nat} {σ σ2 : L2.St} {L : List Nat} (h : Ag L (wipe σ is) σ2) (hL : ∀ j ∈ L, j ∈ is) : wipe σ2 is = wipe σ is := by
  apply List.ext_getElem?
  intro j
  have hl : σ2.length = σ.length := by rw [h.len, wipe_length]
  by_cases hj : j ∈ is
  · by_cases hjl : j < σ.length
    · rw [wipe_none is σ2 j hj (by omega), wipe_none is σ j hj hjl]
    · rw [List.getElem?_eq_none (by rw [wipe_length]; omega), List.getElem?_eq_none (by rw [wipe_length]; omega)]
  · rw [wipe_get is σ2 j hj, h.at_ j fun z => hj (hL j z)]
/-- flavours of wiped slots -/
theorem kp_wipe {is : List Nat} (hf : ∀ i ∈ is, freeAt ρ i = true) : Kp ρ (wipeS ρ is) := by
  have no : ∀ i d, i ∈ is → ρ[i]? ≠ some (.bo d) ∧ ρ[i]? ≠ some (.lk d) := fun i d hi => by
    have := hf i hi
    unfold freeAt at this
    constructor
    · intro z; rw [z] at this; cases this
    · intro z; rw [z] at this; cases this
  refine ⟨wipeS_len is ρ, fun i d h => ⟨d, ?_⟩, fun i d h => ?_⟩
  · rw [wipeS_get is ρ i fun z => (no i d z).1 h]; exact h
  · rw [wipeS_get is ρ i fun z => (no i d z).2 h]; exact h
theorem kp_wipe2 {is : List Nat} {ρ0 : Env} (h : Kp (wipeS ρ0 is) ρ) : Kp (wipeS ρ0 is) (wipeS ρ is) := by
  refine ⟨by rw [wipeS_len]; exact h.len, fun i d e => ?_, fun i d e => ?_⟩
  · have hi : i ∉ is := fun z => by
      rw [wipeS_no is ρ0 i z (by have := (List.getElem?_eq_some_iff.mp e).1; rwa [wipeS_len] at this)] at e
      cases e
    rw [wipeS_get is ρ i hi]
    exact h.bo i d e
  · have hi : i ∉ is := fun z => by
      rw [wipeS_no is ρ0 i z (by have := (List.getElem?_eq_some_iff.mp e).1; rwa [wipeS_len] at this)] at e
      cases e
    rw [wipeS_get is ρ i hi]
    exact h.lk i d e
/-- slots put back -/
theorem putBack_get : ∀ (is : List Nat) (old ρ : Env) (j : Nat), j ∉ is → (putBack old ρ is)[j]? = ρ[j]?
  | [], _, _, _, _ => rfl
  | i :: is, old, ρ, j, h => by
    have h' : j ≠ i ∧ j ∉ is := by simpa using h
    show (match old[i]? with | some s => (putBack old ρ is).set i s | none => putBack old ρ is)[j]? = _
    split
    · rw [List.getElem?_set_ne (Ne.symm h'.1), putBack_get is old ρ j h'.2]
    · exact putBack_get is old ρ j h'.2
theorem putBack_len : ∀ (is : List Nat) (old ρ : Env), (putBack old ρ is).length = ρ.length
  | [], _, _ => rfl
  | i :: is, old, ρ => by
    show (match old[i]? with | some s => (putBack old ρ is).set i s | none => putBack old ρ is).length = _
    split
    · rw [List.length_set, putBack_len is old ρ]
    · exact putBack_len is old ρ
theorem putBack_sr {old : Env} : ∀ (is : List Nat) {ρ : Env} {σw : L2.St} {O : List Addr}, is.Nodup → σw.length = σ.length → (∀ j, j ∉ is → σw[j]? = σ[j]?) → SR K F H ρ σw O → (∀ j ∈ is, ρ[j]? = some .no ∧ ∀ s, old[j]? = some s → ∃ ov, σ[j]? = some ov ∧ S1 K F H s ov []) →
    SR K F H (putBack old ρ is) σ O
  | [], ρ, σw, O, _, hl, ha, h, _ => by
    have : σw = σ := List.ext_getElem? fun j => ha j (by simp)
    rw [← this]
    exact h
  | i :: is, ρ, σw, O, hn, hl, ha, h, hs => by
    obtain ⟨hi, hn'⟩ := List.nodup_cons.mp hn
    obtain ⟨e1, e2⟩ := hs i List.mem_cons_self
    have il : i < σ.length := by
      have := (List.getElem?_eq_some_iff.mp e1).1
      rw [← SR.length h, hl] at this
      exact this
    have ih := putBack_sr (σw := σw.set i σ[i]) is hn' (by rw [List.length_set]; exact hl) (fun j hj => ?_) (SR.ext_no h e1) fun j hj => hs j (List.mem_cons_of_mem _ hj)
    · show SR K F H (match old[i]? with | some s => (putBack old ρ is).set i s | none => putBack old ρ is) σ O
      split
      · rename_i s es
        obtain ⟨ov, q1, q2⟩ := e2 s es
        have e3 : (putBack old ρ is)[i]? = some .no := by rw [putBack_get is old ρ i hi]; exact e1
        -- the slot is empty: fill it
        have fill : ∀ {ρ : Env} {σ : L2.St} {O : List Addr} {i : Nat}, SR K F H ρ σ O → ρ[i]? = some .no → σ[i]? = some ov → SR K F H (ρ.set i s) σ O := by
          intro ρ
          induction ρ with
          | nil => intro σ O i _ e _; simp at e
          | cons sl ρ ih2 =>
            intro σ O i h e ho
            obtain ⟨ov0, σ', O1, O2, x1, x2, x3, x4⟩ := h
            subst x1
            cases i with
            | zero =>
              simp at e ho
              subst e ho
              have : O1 = [] := x2
              subst this
              exact ⟨ov0, σ', [], O2, rfl, q2, x3, x4⟩
            | succ i => exact ⟨ov0, σ', O1, O2, rfl, x2, ih2 (i := i) x3 (by simpa using e) (by simpa using ho), x4⟩
        exact fill ih e3 q1
      · exact ih
    · by_cases hij : i = j
      · subst hij
        rw [List.getElem?_set_self (by omega)]
        simp [il]
      · rw [List.getElem?_set_ne hij]
        exact ha j (by simp; exact ⟨Ne.symm hij, hj⟩)
end

section
variable {K : PySem.W.Frag} {F : Addr → Prop} {H : Hp} {O : List Addr} {ρ ρ1 ρ4 : Env} {σ : L2.St} {lk : Option Nat}
theorem lock_some {i : Nat} {l : List D} (e : ownAt ρ i = some l) : lock ρ (some i) = ρ.set i (.lk (.own l)) := by
  rcases own_slot e with e1 | e1 <;> simp only [lock, e1]
theorem unlock_ok (hlk : ∀ i, lk = some i → ∃ l, ownAt ρ1 i = some l) (kp : Kp (lock ρ1 lk) ρ4) (sr : SR K F H ρ4 σ O) : SR K F H (unlock ρ1 lk ρ4) σ O ∧ Kp ρ1 (unlock ρ1 lk ρ4) := by
  cases lk with
  | none => exact ⟨sr, kp⟩
  | some i =>
    obtain ⟨l, hl⟩ := hlk i rfl
    rw [lock_some hl] at kp
    have main : ∀ s, ρ1[i]? = some s → (∀ {ov P}, S1 K F H (.lk (.own l)) ov P → S1 K F H s ov P) → SR K F H (unlock ρ1 (some i) ρ4) σ O ∧ Kp ρ1 (unlock ρ1 (some i) ρ4) := by
      intro s es hs
      have eu : unlock ρ1 (some i) ρ4 = ρ4.set i s := by simp only [unlock, es]
      have e4 : ρ4[i]? = some (.lk (.own l)) := kp.lk i _ (get_set_same es)
      rw [eu]
      refine ⟨reslot sr e4 hs, by rw [List.length_set, kp.len, List.length_set], fun j d e => ?_, fun j d e => ?_⟩
      · by_cases hij : i = j
        · subst hij
          rw [es] at e
          exact ⟨d, by rw [get_set_same e4]; exact e⟩
        · rw [List.getElem?_set_ne hij]
          exact kp.bo j d (by rw [List.getElem?_set_ne hij]; exact e)
      · by_cases hij : i = j
        · subst hij
          rw [es] at e
          rw [get_set_same e4]; exact e
        · rw [List.getElem?_set_ne hij]
          exact kp.lk j d (by rw [List.getElem?_set_ne hij]; exact e)
    rcases own_slot hl with e | e
    · exact main _ e fun h => h
    · exact main _ e fun h => h
theorem unlock_get {old ρ : Env} {lk : Option Nat} {j : Nat} (h : ∀ i, lk = some i → i ≠ j) : (unlock old lk ρ)[j]? = ρ[j]? := by
  cases lk with
  | none => rfl
  | some i =>
    simp only [unlock]
    split
    · rw [List.getElem?_set_ne (h i rfl)]
    · rfl
theorem unlock_len {old ρ : Env} {lk : Option Nat} : (unlock old lk ρ).length = ρ.length := by
  cases lk with
  | none => rfl
  | some i =>
    simp only [unlock]
    split
    · rw [List.length_set]
    · rfl
theorem lock_free (hlk : ∀ i, lk = some i → ∃ l, ownAt ρ1 i = some l) {j : Nat} (h : freeAt ρ1 j = true) : freeAt (lock ρ1 lk) j = true := by
  cases lk with
  | none => exact h
  | some i =>
    obtain ⟨l, hl⟩ := hlk i rfl
    rw [lock_some hl]
    have hij : i ≠ j := by
      rintro rfl
      unfold freeAt at h
      rcases own_slot hl with e | e
      · rw [e] at h; simp [D.fz] at h
      · rw [e] at h; cases h
    unfold freeAt at h ⊢
    rw [List.getElem?_set_ne hij]
    exact h
theorem lock_kp (hlk : ∀ i, lk = some i → ∃ l, ownAt ρ1 i = some l) {j : Nat} (h : Pin ρ1 j) : Pin (lock ρ1 lk) j := by
  cases lk with
  | none => exact h
  | some i =>
    obtain ⟨l, hl⟩ := hlk i rfl
    rw [lock_some hl]
    by_cases hij : i = j
    · subst hij
      have : i < ρ1.length := by rcases own_slot hl with e | e <;> exact (List.getElem?_eq_some_iff.mp e).1
      exact .inr ⟨_, List.getElem?_set_self this⟩
    · unfold Pin
      rw [List.getElem?_set_ne hij]
      exact h
/-- a list that is being made grows: D itself lies beside what the slots own -/
theorem grow {D0 : Addr} {acc : List D} {xs : List V} {P P4 : List Addr} {d : D} {y : V} (w : Wd F H ((O ++ P4) ++ (D0 :: P))) (sr : SR K F H ρ σ O) (e : H D0 = some (.lst xs)) (hv : VRL K F H acc xs P) (hy : VR K F H d y P4) :
    Stp F H (O ++ (D0 :: (P ++ P4))) F (upd H D0 (.lst (xs ++ [y]))) (O ++ (D0 :: (P ++ P4))) ∧ SR K F (upd H D0 (.lst (xs ++ [y]))) ρ σ O ∧ Wd F (upd H D0 (.lst (xs ++ [y]))) (O ++ (D0 :: (P ++ P4))) ∧ VRL K F (upd H D0 (.lst (xs ++ [y]))) (acc ++ [d]) (xs ++ [y]) (P ++ P4) := by
  have pm : ((O ++ P4) ++ (D0 :: P)).Perm (O ++ (D0 :: (P ++ P4))) := by
    rw [List.append_assoc]
    refine List.Perm.append_left O ?_
    have : (P4 ++ (D0 :: P)).Perm ((D0 :: P) ++ P4) := List.perm_append_comm
    exact this
  have w1 := w.perm pm
  have wD : Wd F H [D0] := w1.sub (by
    refine List.Sublist.trans ?_ (List.sublist_append_right O _)
    simp)
  have nd := w1.nd
  have h1 : D0 ∉ O := fun z => w1.apart' D0 z (by simp)
  have h2 : D0 ∉ P ++ P4 := (List.nodup_cons.mp w1.right.nd).1
  have st : Stp F H [D0] F (upd H D0 (.lst (xs ++ [y]))) [D0] :=
    ⟨fun a o ha hn => by rw [upd_ne (by simpa using hn)]; exact ha, fun _ h => h, fun a ha => .inl ha, fun _ h => .inl h⟩
  refine ⟨⟨fun a o ha hn => ?_, fun _ h => h, fun a ha => .inl ha, fun _ h => .inl h⟩, SR.stp wD st (fun a ha => by simp; rintro rfl; exact h1 ha) sr, ⟨nd, w1.nf, fun a ha => ?_, fun a ha => ?_⟩, ?_⟩
  · rw [upd_ne (by rintro rfl; exact hn (by simp))]; exact ha
  · by_cases hD : a = D0
    · subst hD; exact ⟨_, upd_same⟩
    · rw [upd_ne hD]; exact w1.ls a ha
  · by_cases hD : a = D0
    · subst hD; exact ⟨_, upd_same⟩
    · rw [upd_ne hD]; exact w1.ft a ha
  · exact VRL.stp wD st _ _ _ (fun a ha => by simp; rintro rfl; exact h2 ha) (VRL.app hv (VRL.one hy))
end
section
variable {Φ : Nat → List Sl → Option (D × List Sl)} {wf : Nat}
/-- one turn of a comprehension -/
def compStep (Φ : Nat → List Sl → Option (D × List Sl)) (wf : Nat) (celt ctg ccond : C) (own : List Nat) (d : D) (ρ : Env) : Option (Option D × Env) :=
  (evG Φ wf ctg d ρ).bind fun ρ' => (evT Φ wf ccond ρ').bind fun (t, ρ2) =>
        if t then (evE Φ wf celt ρ2).bind fun (r, ρ3) => match r with
          | .d x => some (some x, wipeS ρ3 own)
          | .pl _ => none
        else some (none, wipeS ρ2 own)
theorem comp_red {K : PySem.W.Frag} {celt ctg csrc ccond : C} {own : List Nat} {σ : L2.St} {H : Hp} {Q : VK} (htg : ∀ j ∈ tgts ctg, j ∈ own) (hnd : own.Nodup) (h : tE K Φ wf (.comp celt ctg csrc ccond own) σ H Q) :
    tLc (tI K Φ wf csrc) (tG K Φ wf ctg) (tT K Φ wf ccond) (tE K Φ wf celt) own σ H Q := by
  obtain ⟨F, ρ, O, r, ρ', sr, wd, e, k⟩ := h
  simp only [evE] at e
  obtain ⟨⟨ds, lk, ρ1⟩, e1, e⟩ := some_bind e
  split at e
  · rename_i hfree
    obtain ⟨⟨acc, ρ4⟩, e2, e⟩ := some_bind e
    cases e
    have e2 : compL (compStep Φ wf celt ctg ccond own) ds [] (wipeS (lock ρ1 lk) own) = some (acc, ρ4) := e2
    have hfr : ∀ i ∈ own, freeAt ρ1 i = true := by simpa using hfree
    refine ⟨F, ρ, O, ds, lk, ρ1, sr, wd, e1, fun J F1 H1 O1 st1 sr1 wd1 kp1 hlk it D0 hD0 => ?_⟩
    obtain ⟨G, Y, W, hit⟩ := it
    have hfl : ∀ i ∈ own, freeAt (lock ρ1 lk) i = true := fun i hi => lock_free hlk (hfr i hi)
    have kw : Kp (lock ρ1 lk) (wipeS (lock ρ1 lk) own) := kp_wipe hfl
    -- the slots but the comprehension's own stand
    have ksw : Ks (lock ρ1 lk) σ (wipe σ own) := fun i hi => wipe_get own σ i fun z => by
      have := hfl i z
      unfold freeAt at this
      rcases hi with ⟨d, q⟩ | ⟨d, q⟩ <;> (rw [q] at this; cases this)
    let Pv : Nat → Hp → Prop := fun i H' => ∃ F' ρ' O' acc' xs' P', Stp F1 H1 O1 F' H' (O' ++ (D0 :: P')) ∧ SR K F' H' ρ' (wipe σ own) O' ∧ Wd F' H' (O' ++ (D0 :: P')) ∧ H' D0 = some (.lst xs') ∧ VRL K F' H' acc' xs' P' ∧
      Kp (wipeS (lock ρ1 lk) own) ρ' ∧ compL (compStep Φ wf celt ctg ccond own) (ds.drop i) acc' ρ' = some (acc, ρ4) ∧ ∀ j ∈ own, j < ρ'.length → ρ'[j]? = some .no
    refine lc_it W Pv ?_ (fun i H' hi p => ?_) (fun i x H' H'' hi p y => ?_) (fun H' p => ?_)
    · -- the start
      obtain ⟨n1, n2, n3⟩ := new_lst (K := K) (l := []) (xs := []) (wd0 wd1) (by unfold VRL; exact ⟨rfl, rfl⟩) hD0
      have n4 : Wd F1 (upd H1 D0 (.lst [])) (O1 ++ [D0]) := (Wd.join (O := []) wd1 n1 n3).perm List.perm_append_comm
      have n5 : SR K F1 (upd H1 D0 (.lst [])) (lock ρ1 lk) σ O1 := SR.stp (wd0 wd1) n1 (fun _ _ z => (nomatch z)) sr1
      refine ⟨F1, wipeS (lock ρ1 lk) own, O1, [], [], [], ?_, (wipe_free own n5 hfl).1, n4, upd_same, by unfold VRL; exact ⟨rfl, rfl⟩, Kp.refl, e2, fun j hj hl => wipeS_no own _ j hj (by rwa [wipeS_len] at hl)⟩
      exact (n1.more (P := O1)).sub fun a ha => List.perm_append_comm.subset ha
    · -- the source stands
      obtain ⟨F', ρ', O', acc', xs', P', s1, s2, s3, _, _, s6, _, _⟩ := p
      exact (hit F' H' O' ρ' (wipe σ own) (sub0 s1) s3.left s2 (kw.trans s6) ksw).1
    · -- a turn
      obtain ⟨F', ρ', O', acc', xs', P', s1, s2, s3, s4, s5, s6, s7, s8⟩ := p
      obtain ⟨t1, d, t2, t3⟩ := (hit F' H' O' ρ' (wipe σ own) (sub0 s1) s3.left s2 (kw.trans s6) ksw).2 i x H'' hi y
      have ed : ds.drop i = d :: ds.drop (i + 1) := by
        have hlt : i < ds.length := hi
        rw [List.drop_eq_getElem_cons hlt]
        have : ds[i] = d := by
          have := (List.getElem?_eq_some_iff.mp t2).2
          exact this
        rw [this]
      rw [ed] at s7
      have s7 : (match compStep Φ wf celt ctg ccond own d ρ' with
        | some (some x, ρ') => if acc'.length < lim then compL (compStep Φ wf celt ctg ccond own) (ds.drop (i + 1)) (acc' ++ [x]) ρ' else none
        | some (none, ρ') => compL (compStep Φ wf celt ctg ccond own) (ds.drop (i + 1)) acc' ρ'
        | none => none) = some (acc, ρ4) := s7
      -- the item, made
      have u0 : Wd F' H'' [] := (Wd.join (O := []) (P := O' ++ (D0 :: P')) s3 t1 (wd_nil fun a ha => by
        obtain ⟨ys, q⟩ := s3.ft a ha
        exact ⟨ys, t1.fr a _ q (by simp)⟩)).left
      have u1 : Wd F' H'' (O' ++ (D0 :: P')) := Wd.join (O := []) (P := O' ++ (D0 :: P')) s3 t1 u0
      have u2 : SR K F' H'' ρ' (wipe σ own) O' := SR.stp (wd0 s3) t1 (fun _ _ z => (nomatch z)) s2
      have u3 : VRL K F' H'' acc' xs' P' := VRL.stp (wd0 s3) t1 _ _ _ (fun _ _ z => (nomatch z)) s5
      have u4 : H'' D0 = some (.lst xs') := t1.fr D0 _ s4 (by simp)
      have u5 : Stp F1 H1 O1 F' H'' (O' ++ (D0 :: P')) := s1.trans (⟨fun a o ha _ => t1.fr a o ha (by simp), fun _ h => h, fun a ha => .inl ha, fun _ h => .inl h⟩)
      cases hs : compStep Φ wf celt ctg ccond own d ρ' with
      | none => rw [hs] at s7; cases s7
      | some zz =>
        rw [hs] at s7
        have hs := hs
        unfold compStep at hs
        obtain ⟨ρa, f1, hs⟩ := some_bind hs
        obtain ⟨⟨t, ρb⟩, f2, hs⟩ := some_bind hs
        refine ⟨F', ρ', O', [], d, ρa, u2, t3, by simpa using u1.left, f1, fun σ2 F2 H2 O2 st2 sr2 wd2 kp2 ks2 ag2 => ⟨wipe_ag ag2 htg, ?_⟩⟩
        have st2 : Stp F' H'' O' F2 H2 O2 := by simpa using st2
        refine ⟨F2, ρa, O2, t, ρb, sr2, wd2, f2, fun F3 H3 O3 st3 sr3 wd3 kp3 => ?_⟩
        have st23 := st2.trans st3
        -- what lies beside
        have v1 : Wd F3 H3 (O3 ++ (D0 :: P')) := Wd.join u1 st23 wd3
        have v2 : VRL K F3 H3 acc' xs' P' := VRL.stp u1.left st23 _ _ _ (fun a ha => u1.apart a (by simp [ha])) u3
        have v3 : H3 D0 = some (.lst xs') := st23.fr D0 _ u4 (u1.apart D0 (by simp))
        have v4 : Stp F1 H1 O1 F3 H3 (O3 ++ (D0 :: P')) := u5.trans st23.more
        cases t with
        | false =>
          have hs : some (none, wipeS ρb own) = some zz := hs
          cases hs
          obtain ⟨O5, P5, w1, w2⟩ := wipe_sr own sr3
          rw [wipe_ag ag2 htg] at w1
          have pm : (O3 ++ (D0 :: P')).Perm ((O5 ++ (D0 :: P')) ++ P5) := (w2.append_right _).trans (by
            rw [List.append_assoc, List.append_assoc]
            exact List.Perm.append_left O5 List.perm_append_comm)
          exact ⟨F3, wipeS ρb own, O5, acc', xs', P', v4.sub fun a ha => pm.symm.subset (List.mem_append_left _ ha), w1, (v1.perm pm).left, v3, v2, kp_wipe2 (s6.trans (kp2.trans kp3)), s7, fun j hj hl => wipeS_no own _ j hj (by rwa [wipeS_len] at hl)⟩
        | true =>
          obtain ⟨⟨rr, ρc⟩, f3, hs⟩ := some_bind (show (evE Φ wf celt ρb).bind _ = some zz from hs)
          cases rr with
          | pl j => cases hs
          | d xd =>
            have hs : some (some xd, wipeS ρc own) = some zz := hs
            cases hs
            have s7 : (if acc'.length < lim then compL (compStep Φ wf celt ctg ccond own) (ds.drop (i + 1)) (acc' ++ [xd]) (wipeS ρc own) else none) = some (acc, ρ4) := s7
            split at s7
            · rename_i hlen
              refine ⟨F3, ρb, O3, .d xd, ρc, sr3, wd3, f3, fun v F4 H4 O4 P4 st4 sr4 rr4 wd4 kp4 => ?_⟩
              have x1 : Wd F4 H4 ((O4 ++ P4) ++ (D0 :: P')) := Wd.join v1 st4 wd4
              have x2 : VRL K F4 H4 acc' xs' P' := VRL.stp v1.left st4 _ _ _ (fun a ha => v1.apart a (by simp [ha])) v2
              have x3 : H4 D0 = some (.lst xs') := st4.fr D0 _ v3 (v1.apart D0 (by simp))
              refine ⟨xs', x3, by rw [VRL.length _ _ _ x2, ← lim_eq]; exact hlen, ?_⟩
              obtain ⟨y1, y2, y3, y4⟩ := grow x1 sr4 x3 x2 rr4
              obtain ⟨O5, P5, w1, w2⟩ := wipe_sr own y2
              rw [wipe_ag ag2 htg] at w1
              have pm : (O4 ++ (D0 :: (P' ++ P4))).Perm ((O5 ++ (D0 :: (P' ++ P4))) ++ P5) := (w2.append_right _).trans (by
                rw [List.append_assoc, List.append_assoc]
                exact List.Perm.append_left O5 List.perm_append_comm)
              have z1 : Stp F1 H1 O1 F4 (upd H4 D0 (.lst (xs' ++ [v]))) (O4 ++ (D0 :: (P' ++ P4))) := by
                have q1 := v4.trans (st4.more (P := D0 :: P'))
                have q2 : Stp F1 H1 O1 F4 H4 (O4 ++ (D0 :: (P' ++ P4))) := q1.sub fun a ha => by
                  simp only [List.mem_append, List.mem_cons] at ha ⊢
                  rcases ha with h | h | h | h
                  · exact .inl (.inl h)
                  · exact .inr (.inl h)
                  · exact .inr (.inr h)
                  · exact .inl (.inr h)
                exact q2.trans y1
              exact ⟨F4, wipeS ρc own, O5, acc' ++ [xd], xs' ++ [v], P' ++ P4, z1.sub fun a ha => pm.symm.subset (List.mem_append_left _ ha), w1, (y3.perm pm).left, upd_same, y4, kp_wipe2 (s6.trans (kp2.trans (kp3.trans kp4))), s7, fun j hj hl => wipeS_no own _ j hj (by rwa [wipeS_len] at hl)⟩
            · cases s7
    · -- the end
      obtain ⟨F', ρ', O', acc', xs', P', s1, s2, s3, s4, s5, s6, s7, s8⟩ := p
      have : ds.drop ds.length = [] := List.drop_length
      rw [this] at s7
      have s7 : some (acc', ρ') = some (acc, ρ4) := s7
      cases s7
      obtain ⟨b1, b2⟩ := unlock_ok (lk := lk) hlk (kw.trans s6) s2
      have len1 : ∀ j ∈ own, j < ρ1.length := fun j hj => by
        have := hfr j hj
        unfold freeAt at this
        split at this
        · rename_i q; exact (List.getElem?_eq_some_iff.mp q).1
        · rename_i q; exact (List.getElem?_eq_some_iff.mp q).1
        · cases this
      have apart : ∀ j ∈ own, ∀ i, lk = some i → i ≠ j := fun j hj i hi => by
        rintro rfl
        obtain ⟨l, hl⟩ := hlk i hi
        have := hfr i hj
        unfold freeAt at this
        rcases own_slot hl with q | q
        · rw [q] at this; simp [D.fz] at this
        · rw [q] at this; cases this
      have hlen : ρ4.length = ρ1.length := by
        have q1 := b2.len
        have q2 : (unlock ρ1 lk ρ4).length = ρ4.length := unlock_len
        omega
      have last : SR K F' H' (putBack ρ1 (unlock ρ1 lk ρ4) own) σ O' := by
        refine putBack_sr own hnd (wipe_length σ own) (fun j hj => wipe_get own σ j hj) b1 fun j hj => ⟨?_, fun s es => ?_⟩
        · have q : (unlock ρ1 lk ρ4)[j]? = ρ4[j]? := unlock_get (apart j hj)
          rw [q]
          exact s8 j hj (by rw [hlen]; exact len1 j hj)
        · have q : (lock ρ1 lk)[j]? = some s := by
            cases hk : lk with
            | none => exact es
            | some i =>
              obtain ⟨l, hl⟩ := hlk i hk
              rw [lock_some hl, List.getElem?_set_ne (apart j hj i hk)]
              exact es
          obtain ⟨ov, P5, O5, z1, z2, _, _⟩ := SR.take sr1 q
          have z3 : P5 = [] := by
            have hf := hfr j hj
            unfold freeAt at hf
            rw [es] at hf
            cases s with
            | no => exact z2
            | v d => obtain ⟨v, _, hv⟩ := z2; exact VR.fz d v P5 hf hv
            | bo d => cases hf
            | lk d => cases hf
          subst z3
          exact ⟨ov, z1, S1.stp wd1 (sub0 s1) (fun _ z => (nomatch z)) z2⟩
      refine k (.ref D0) F' H' O' (D0 :: P') (st1.trans s1) last (by show VR K F' H' (.own acc) _ _; unfold VR; exact ⟨D0, xs', P', rfl, s4, s5, rfl⟩) s3 (kp1.trans ?_)
      have nopin : ∀ i, Pin ρ1 i → i ∉ own := fun i hi z => by
        have := hfr i z
        unfold freeAt at this
        rcases hi with ⟨d, q⟩ | ⟨d, q⟩ <;> (rw [q] at this; cases this)
      exact ⟨by rw [putBack_len, b2.len], fun i d e => by rw [putBack_get own _ _ i (nopin i (.inl ⟨d, e⟩))]; exact b2.bo i d e, fun i d e => by rw [putBack_get own _ _ i (nopin i (.inr ⟨d, e⟩))]; exact b2.lk i d e⟩
  · cases e
end
end Co

set_option maxRecDepth 100000
set_option maxHeartbeats 1000000
/-! CoreA: statements -/
namespace Co
open PySem PySem.Spec PyProof.Rows L2

section
variable {K : PySem.W.Frag} {Φ : Nat → List Sl → Option (D × List Sl)} {wf : Nat} {F F2 : Addr → Prop} {H H2 : Hp} {O O2 : List Addr} {ρ ρ2 : Env} {σ σ2 : L2.St} {D0 : Ends} {c ce ct cb : C}
theorem Ks.pre (k : Kp ρ ρ2) {σ' : L2.St} (h : Ks ρ2 σ σ') : Ks ρ σ σ' := fun i hi => h i (k.pin hi)
/-- what is wanted behind, from a later state -/
theorem Post.from {o : Out} (st : Stp F H O F2 H2 O2) (kp : Kp ρ ρ2) (ks : Ks ρ σ σ2) (h : Post K ρ F H O σ D0 o) : Post K ρ2 F2 H2 O2 σ2 D0 o := by
  cases o with
  | nx ρ' => exact fun σ' F' H' O' s1 s2 s3 s4 s5 => h σ' F' H' O' (st.trans s1) s2 s3 (kp.trans s4) (ks.trans kp s5)
  | bk ρ' => exact fun σ' F' H' O' s1 s2 s3 s4 s5 => h σ' F' H' O' (st.trans s1) s2 s3 (kp.trans s4) (ks.trans kp s5)
  | ct ρ' => exact fun σ' F' H' O' s1 s2 s3 s4 s5 => h σ' F' H' O' (st.trans s1) s2 s3 (kp.trans s4) (ks.trans kp s5)
  | rt d ρ' => exact fun σ' v F' H' O' P s1 s2 s3 s4 s5 s6 => h σ' v F' H' O' P (st.trans s1) s2 s3 s4 (kp.trans s5) (ks.trans kp s6)
theorem asg_red (h : tS K Φ wf (.asg ct ce) D0 σ H) : tE K Φ wf ce σ H fun x H1 => tG K Φ wf ct x σ H1 D0.nx := by
  obtain ⟨F, ρ, O, o, sr, wd, e, p⟩ := h
  simp only [evS] at e
  obtain ⟨⟨r, ρ1⟩, e1, e⟩ := some_bind e
  cases r with
  | pl i => cases e
  | d d =>
    obtain ⟨ρ2, e2, e⟩ := some_bind (show (evG Φ wf ct d ρ1).bind _ = some o from e)
    cases e
    exact ⟨F, ρ, O, .d d, ρ1, sr, wd, e1, fun v F1 H1 O1 P1 st sr1 rr wd1 kp => ⟨F1, ρ1, O1, P1, d, ρ2, sr1, rr, wd1, e2, fun σ' F' H' O' s1 s2 s3 s4 s5 _ => p σ' F' H' O' (st.trans s1) s2 s3 (kp.trans s4) (s5.pre kp)⟩⟩
theorem loop_red {csrc ctg cbody : C} (h : tS K Φ wf (.for_ ctg csrc cbody) D0 σ H) : tFor (tI K Φ wf csrc) (tG K Φ wf ctg) (tBk K Φ wf cbody) D0 σ H := by
  obtain ⟨F, ρ, O, o, sr, wd, e, post⟩ := h
  simp only [evS] at e
  obtain ⟨⟨ds, lk, ρ1⟩, e1, e⟩ := some_bind e
  obtain ⟨o1, e2, e⟩ := some_bind e
  cases e
  refine ⟨F, ρ, O, ds, lk, ρ1, sr, wd, e1, fun J F1 H1 O1 st1 sr1 wd1 kp1 hlk it => ?_⟩
  obtain ⟨G, Y, W, hit⟩ := it
  let step : D → Env → Option Out := fun d ρ => (evG Φ wf ctg d ρ).bind fun ρ' => evB Φ wf cbody ρ'
  have e2 : forL step ds (lock ρ1 lk) = some o1 := e2
  let Pv : Nat → L2.St → Hp → Prop := fun i σ' H' => ∃ F' ρ' O', Stp F1 H1 O1 F' H' O' ∧ SR K F' H' ρ' σ' O' ∧ Wd F' H' O' ∧ Kp (lock ρ1 lk) ρ' ∧ Ks (lock ρ1 lk) σ σ' ∧ forL step (ds.drop i) ρ' = some o1
  have ksl : ∀ {σ' : L2.St}, Ks (lock ρ1 lk) σ σ' → Ks ρ σ σ' := fun h i hi => h i (lock_kp hlk (kp1.pin hi))
  refine for_it W Pv ?_ (fun i σ' H' hi p => ?_) (fun i x σ' H' H'' hi p y => ?_) (fun σ' H' p => ?_)
  · exact ⟨F1, lock ρ1 lk, O1, Stp.refl, sr1, wd1, Kp.refl, Ks.refl, e2⟩
  · obtain ⟨F', ρ', O', s1, s2, s3, s4, s5, _⟩ := p
    exact (hit F' H' O' ρ' σ' s1 s3 s2 s4 s5).1
  · obtain ⟨F', ρ', O', s1, s2, s3, s4, s5, s6⟩ := p
    obtain ⟨t1, d, t2, t3⟩ := (hit F' H' O' ρ' σ' s1 s3 s2 s4 s5).2 i x H'' hi y
    have ed : ds.drop i = d :: ds.drop (i + 1) := by
      have hlt : i < ds.length := hi
      rw [List.drop_eq_getElem_cons hlt]
      have : ds[i] = d := (List.getElem?_eq_some_iff.mp t2).2
      rw [this]
    rw [ed] at s6
    have u0 : Wd F' H'' [] := wd_nil fun a ha => by
      obtain ⟨ys, q⟩ := s3.ft a ha
      exact ⟨ys, t1.fr a _ q (by simp)⟩
    have u1 : Wd F' H'' O' := by simpa using Wd.join (O := []) (P := O') s3 t1 u0
    have u2 : SR K F' H'' ρ' σ' O' := SR.stp (wd0 s3) t1 (fun _ _ z => (nomatch z)) s2
    have u5 : Stp F1 H1 O1 F' H'' O' := s1.trans (⟨fun a o ha _ => t1.fr a o ha (by simp), fun _ h => h, fun a ha => .inl ha, fun _ h => .inl h⟩)
    have s6 : (match step d ρ' with
      | some (.nx ρ') => forL step (ds.drop (i + 1)) ρ'
      | some (.ct ρ') => forL step (ds.drop (i + 1)) ρ'
      | some (.bk ρ') => some (.nx ρ')
      | some (.rt d ρ') => some (.rt d ρ')
      | none => none) = some o1 := s6
    cases hs : step d ρ' with
    | none => rw [hs] at s6; cases s6
    | some z =>
      rw [hs] at s6
      obtain ⟨ρa, f1, f2⟩ := some_bind (show (evG Φ wf ctg d ρ').bind _ = some z from hs)
      refine ⟨F', ρ', O', [], d, ρa, u2, t3, by simpa using u1, f1, fun σ2 F2 H2 O2 st2 sr2 wd2 kp2 ks2 _ => ⟨F2, ρa, O2, z, sr2, wd2, f2, ?_⟩⟩
      have st2 : Stp F' H'' O' F2 H2 O2 := by simpa using st2
      have a1 := u5.trans st2
      have a2 := s4.trans kp2
      have a3 : Ks (lock ρ1 lk) σ σ2 := s5.trans s4 ks2
      cases z with
      | nx ρb => exact fun σ3 F3 H3 O3 b1 b2 b3 b4 b5 => ⟨F3, ρb, O3, a1.trans b1, b2, b3, a2.trans b4, a3.trans a2 b5, s6⟩
      | ct ρb => exact fun σ3 F3 H3 O3 b1 b2 b3 b4 b5 => ⟨F3, ρb, O3, a1.trans b1, b2, b3, a2.trans b4, a3.trans a2 b5, s6⟩
      | bk ρb =>
        cases s6
        intro σ3 F3 H3 O3 b1 b2 b3 b4 b5
        obtain ⟨q1, q2⟩ := unlock_ok (lk := lk) hlk (a2.trans b4) b2
        exact post σ3 F3 H3 O3 (st1.trans (a1.trans b1)) q1 b3 (kp1.trans q2) (ksl (a3.trans a2 b5))
      | rt d2 ρb =>
        cases s6
        intro σ3 v F3 H3 O3 P3 b1 b2 b3 b4 b5 b6
        obtain ⟨q1, q2⟩ := unlock_ok (lk := lk) hlk (a2.trans b5) b2
        exact post σ3 v F3 H3 O3 P3 (st1.trans (a1.trans b1)) q1 b3 b4 (kp1.trans q2) (ksl (a3.trans a2 b6))
  · obtain ⟨F', ρ', O', s1, s2, s3, s4, s5, s6⟩ := p
    rw [List.drop_length] at s6
    cases s6
    obtain ⟨q1, q2⟩ := unlock_ok (lk := lk) hlk s4 s2
    exact post σ' F' H' O' (st1.trans s1) q1 s3 (kp1.trans q2) (ksl s5)
theorem while_red {cc cbody : C} (h : tS K Φ wf (.whl cc cbody) D0 σ H) : tWhile (tT K Φ wf cc) (tBk K Φ wf cbody) D0 σ H := by
  obtain ⟨F, ρ, O, o, sr, wd, e, post⟩ := h
  simp only [evS] at e
  refine ⟨fun m σ' H' => ∃ F' ρ' O', SR K F' H' ρ' σ' O' ∧ Wd F' H' O' ∧ Post K ρ' F' H' O' σ' D0 o ∧ whileL (evT Φ wf cc) (evB Φ wf cbody) m ρ' = some o, ⟨wf, F, ρ, O, sr, wd, post, e⟩, ?_⟩
  rintro m σ' H' ⟨F', ρ', O', s1, s2, s3, s4⟩
  cases m with
  | zero => cases s4
  | succ m =>
    have s4 : (match evT Φ wf cc ρ' with
      | some (true, ρ') => match evB Φ wf cbody ρ' with
        | some (.nx ρ2) => whileL (evT Φ wf cc) (evB Φ wf cbody) m ρ2
        | some (.ct ρ2) => whileL (evT Φ wf cc) (evB Φ wf cbody) m ρ2
        | some (.bk ρ2) => some (.nx ρ2)
        | some (.rt d ρ2) => some (.rt d ρ2)
        | none => none
      | some (false, ρ') => some (.nx ρ')
      | none => none) = some o := s4
    cases ht : evT Φ wf cc ρ' with
    | none => rw [ht] at s4; cases s4
    | some z =>
      obtain ⟨b, ρa⟩ := z
      rw [ht] at s4
      refine ⟨F', ρ', O', b, ρa, s1, s2, ht, fun F2 H2 O2 st2 sr2 wd2 kp2 => ?_⟩
      have p2 := Post.from st2 kp2 Ks.refl s3
      cases b with
      | false =>
        have s4 : some (Out.nx ρa) = some o := s4
        cases s4
        exact p2 σ' F2 H2 O2 Stp.refl sr2 wd2 Kp.refl Ks.refl
      | true =>
        have s4 : (match evB Φ wf cbody ρa with
          | some (.nx ρ2) => whileL (evT Φ wf cc) (evB Φ wf cbody) m ρ2
          | some (.ct ρ2) => whileL (evT Φ wf cc) (evB Φ wf cbody) m ρ2
          | some (.bk ρ2) => some (.nx ρ2)
          | some (.rt d ρ2) => some (.rt d ρ2)
          | none => none) = some o := s4
        cases hb : evB Φ wf cbody ρa with
        | none => rw [hb] at s4; cases s4
        | some z =>
          rw [hb] at s4
          refine ⟨fun σ' H' => ∃ F' ρ' O', SR K F' H' ρ' σ' O' ∧ Wd F' H' O' ∧ Post K ρ' F' H' O' σ' D0 o ∧ whileL (evT Φ wf cc) (evB Φ wf cbody) m ρ' = some o, fun σ' H' q => ⟨m, Nat.lt_succ_self m, q⟩, F2, ρa, O2, z, sr2, wd2, hb, ?_⟩
          cases z with
          | nx ρb => exact fun σ3 F3 H3 O3 b1 b2 b3 b4 b5 => ⟨F3, ρb, O3, b2, b3, Post.from b1 b4 b5 p2, s4⟩
          | ct ρb => exact fun σ3 F3 H3 O3 b1 b2 b3 b4 b5 => ⟨F3, ρb, O3, b2, b3, Post.from b1 b4 b5 p2, s4⟩
          | bk ρb =>
            cases s4
            exact fun σ3 F3 H3 O3 b1 b2 b3 b4 b5 => p2 σ3 F3 H3 O3 b1 b2 b3 b4 b5
          | rt d2 ρb =>
            cases s4
            exact fun σ3 v F3 H3 O3 P3 b1 b2 b3 b4 b5 b6 => p2 σ3 v F3 H3 O3 P3 b1 b2 b3 b4 b5 b6
end

section
variable {X : Cx} {Φ : Nat → List Sl → Option (D × List Sl)} {wf : Nat} {a b c e tg : Expr} {ca cb cc ce ct : C} {pos : Pos}
abbrev SS (X : Cx) (Φ : Nat → List Sl → Option (D × List Sl)) (wf : Nat) (s : Stmt) (c : C) : Prop := PS X s (tS X.K Φ wf c)
abbrev SB (X : Cx) (Φ : Nat → List Sl → Option (D × List Sl)) (wf : Nat) (s : List Stmt) (c : C) : Prop := PSs X s (tBk X.K Φ wf c)
theorem sb_nil : SB X Φ wf [] .nil := by
  refine PSs.weak pss_nil fun D0 σ H h => ?_
  obtain ⟨F, ρ, O, o, sr, wd, e, p⟩ := h
  simp only [evB] at e
  cases e
  exact p σ F H O Stp.refl sr wd Kp.refl Ks.refl
theorem sb_cons {s : Stmt} {ss : List Stmt} {cs : C} (h1 : SS X Φ wf s ca) (h2 : SB X Φ wf ss cs) : SB X Φ wf (s :: ss) (.cons ca cs) := by
  refine PSs.weak (pss_cons h1 h2) fun D0 σ H h => ?_
  obtain ⟨F, ρ, O, o, sr, wd, e, p⟩ := h
  simp only [evB] at e
  obtain ⟨o1, e1, e2⟩ := some_bind e
  refine ⟨F, ρ, O, o1, sr, wd, e1, ?_⟩
  cases o1 with
  | nx ρ1 => exact fun σ' F' H' O' s1 s2 s3 s4 s5 => ⟨F', ρ1, O', o, s2, s3, e2, Post.from s1 s4 s5 p⟩
  | bk ρ1 => cases e2; exact p
  | ct ρ1 => cases e2; exact p
  | rt d ρ1 => cases e2; exact p
theorem ss_asg (he : SE X Φ wf e ce) (hl : isLC e = false) (ht : isTupE e = false) (hg : PG X tg (tG X.K Φ wf ct)) (h1 : (assignEach [tg] X.env).map (·.2) = [assign tg X.env]) : SS X Φ wf (.Assign [tg] e pos) (.asg ct ce) :=
  PS.weak (ps_asg he.pe hg (he.pl.sw hl _ _ _) (he.pl.ns ht _ _) h1) fun D0 σ H h => asg_red h
/-- a tuple display given to a name, to a subscript -/
theorem ss_asgT (he : SE X Φ wf e ce) (hl : isLC e = false) (hns : swappedStores [tg] e X.env = pure none) (hg : PG X tg (tG X.K Φ wf ct)) (h1 : (assignEach [tg] X.env).map (·.2) = [assign tg X.env]) : SS X Φ wf (.Assign [tg] e pos) (.asg ct ce) :=
  PS.weak (ps_asg he.pe hg (he.pl.sw hl _ _ _) hns h1) fun D0 σ H h => asg_red h
theorem ss_par {i j : Nat} {x y : Str} {px py pt : Pos} {kt k2 pt2} (hc : X.calm = true) (hN : X.N.Nodup) (hi : X.N[i]? = some x) (hj : X.N[j]? = some y) (hij : i ≠ j)
    (hx : X.env.scope.names.lookup x = some .local) (hy : X.env.scope.names.lookup y = some .local) (hs : SA X Φ wf [a, b] cc)
    (hw : swappedStores [.Tuple [.Name x px, .Name y py] kt pt] (.Tuple [a, b] k2 pt2) X.env = pure (some [x, y])) :
    SS X Φ wf (.Assign [.Tuple [.Name x px, .Name y py] kt pt] (.Tuple [a, b] k2 pt2) pos) (.par i j cc) := by
  refine PS.weak (ps_par hc hN hi hj hij hx hy hs.pa hw) fun D0 σ H h => ?_
  obtain ⟨F, ρ, O, o, sr, wd, e, p⟩ := h
  simp only [evS] at e
  obtain ⟨⟨rs, ρ1⟩, e1, e⟩ := some_bind e
  refine ⟨F, ρ, O, rs, ρ1, sr, wd, e1, fun vs F1 H1 O1 P st sr1 rr wd1 kp => ?_⟩
  have e : parS ρ1 i j rs = some o := e
  unfold parS at e
  split at e
  · rename_i dx dy _
    obtain ⟨ρ2, e2, e⟩ := some_bind e
    obtain ⟨ρ3, e3, e⟩ := some_bind e
    cases e
    obtain ⟨v, xs1, P1, P2, rfl, h1, ⟨w, xs2, P3, P4, rfl, h2, ⟨rfl, rfl⟩, rfl⟩, rfl⟩ := rr
    have w0 : Wd F1 H1 ((O1 ++ P1) ++ P3) := by
      rw [List.append_nil, ← List.append_assoc] at wd1
      exact wd1
    refine ⟨v, w, rfl, ?_⟩
    have q : gName i v σ H1 (fun σ1 H2 => gName j w σ1 H2 D0.nx) := name_red (K := X.K) (Φ := Φ) (wf := wf) ⟨F1, ρ1, O1, P1, dx, ρ2, sr1, h1, w0.left, by simp only [evG]; exact e2, fun σ1 F2 H2 O2 s1 s2 s3 s4 s5 _ => name_red (K := X.K) (Φ := Φ) (wf := wf) ⟨F2, ρ2, O2, P3, dy, ρ3, s2, VR.stp w0.left s1 dy w P3 w0.apart h2, Wd.join w0 s1 s3, by simp only [evG]; exact e3, fun σ2 F3 H3 O3 t1 t2 t3 t4 t5 _ => ?_⟩⟩
    · exact q
    · refine p σ2 F3 H3 O3 ?_ t2 t3 (kp.trans (s4.trans t4)) (Ks.pre kp (s5.trans s4 t5))
      have m := s1.more (P := P3)
      rw [List.append_nil, ← List.append_assoc] at st
      exact st.trans (m.trans t1)
  · cases e
theorem ss_par3 {i j l : Nat} {x y z : Str} {px py pz pt : Pos} {kt k2 pt2} (hc : X.calm = true) (hN : X.N.Nodup) (hi : X.N[i]? = some x) (hj : X.N[j]? = some y) (hl : X.N[l]? = some z) (hij : i ≠ j) (hil : i ≠ l) (hjl : j ≠ l)
    (hx : X.env.scope.names.lookup x = some .local) (hy : X.env.scope.names.lookup y = some .local) (hz : X.env.scope.names.lookup z = some .local) (hs : SA X Φ wf [a, b, c] cc)
    (hw : swappedStores [.Tuple [.Name x px, .Name y py, .Name z pz] kt pt] (.Tuple [a, b, c] k2 pt2) X.env = pure (some [x, y, z])) :
    SS X Φ wf (.Assign [.Tuple [.Name x px, .Name y py, .Name z pz] kt pt] (.Tuple [a, b, c] k2 pt2) pos) (.par3 i j l cc) := by
  refine PS.weak (ps_par3 hc hN hi hj hl hij hil hjl hx hy hz hs.pa hw) fun D0 σ H h => ?_
  obtain ⟨F, ρ, O, o, sr, wd, e, p⟩ := h
  simp only [evS] at e
  obtain ⟨⟨rs, ρ1⟩, e1, e⟩ := some_bind e
  refine ⟨F, ρ, O, rs, ρ1, sr, wd, e1, fun vs F1 H1 O1 P st sr1 rr wd1 kp => ?_⟩
  have e : parS3 ρ1 i j l rs = some o := e
  unfold parS3 at e
  split at e
  · rename_i dx dy dz _
    obtain ⟨ρ2, e2, e⟩ := some_bind e
    obtain ⟨ρ3, e3, e⟩ := some_bind e
    obtain ⟨ρ4, e4, e⟩ := some_bind e
    cases e
    obtain ⟨v, xs1, P1, P2, rfl, h1, ⟨w, xs2, P3, P4, rfl, h2, ⟨u, xs3, P5, P6, rfl, h3, ⟨rfl, rfl⟩, rfl⟩, rfl⟩, rfl⟩ := rr
    have w0 : Wd F1 H1 (((O1 ++ P1) ++ P3) ++ P5) := by
      rw [List.append_nil] at wd1
      simpa only [List.append_assoc] using wd1
    refine ⟨v, w, u, rfl, ?_⟩
    have q : gName i v σ H1 (fun σ1 H2 => gName j w σ1 H2 (fun σ2 H3 => gName l u σ2 H3 D0.nx)) := name_red (K := X.K) (Φ := Φ) (wf := wf) ⟨F1, ρ1, O1, P1, dx, ρ2, sr1, h1, w0.left.left, by simp only [evG]; exact e2, fun σ1 F2 H2 O2 s1 s2 s3 s4 s5 _ =>
      name_red (K := X.K) (Φ := Φ) (wf := wf) ⟨F2, ρ2, O2, P3, dy, ρ3, s2, VR.stp w0.left.left s1 dy w P3 w0.left.apart h2, Wd.join w0.left s1 s3, by simp only [evG]; exact e3, fun σ2 F3 H3 O3 t1 t2 t3 t4 t5 _ =>
      name_red (K := X.K) (Φ := Φ) (wf := wf) ⟨F3, ρ3, O3, P5, dz, ρ4, t2, VR.stp (Wd.join w0.left s1 s3) t1 dz u P5 (fun a ha => ?_) (VR.stp w0.left s1.more dz u P5 w0.apart h3), ?_, by simp only [evG]; exact e4, fun σ3 F4 H4 O4 r1 r2 r3 r4 r5 _ => ?_⟩⟩⟩
    · exact q
    · have w5 : Wd F2 H2 ((O2 ++ P3) ++ P5) := Wd.join w0 s1.more (Wd.join w0.left s1 s3)
      exact w5.apart a ha
    · have w5 : Wd F2 H2 ((O2 ++ P3) ++ P5) := Wd.join w0 s1.more (Wd.join w0.left s1 s3)
      exact Wd.join w5 t1 t3
    · refine p σ3 F4 H4 O4 ?_ r2 r3 (kp.trans (s4.trans (t4.trans r4))) (Ks.pre kp (s5.trans s4 (t5.trans t4 r5)))
      have m1 := (s1.more (P := P3)).more (P := P5)
      have m2 := t1.more (P := P5)
      rw [List.append_nil] at st
      have st' : Stp F H O F1 H1 (((O1 ++ P1) ++ P3) ++ P5) := by simpa only [List.append_assoc] using st
      exact st'.trans (m1.trans (m2.trans r1))
  · cases e
theorem ss_setLc {i : Nat} {y : Str} {py : Pos} {elt tg iter : Expr} {ifs : List Expr} {scope : Scope} {own : List (Str × Nat)} {spos : Pos} {celt ctg csrc ccond : C} (hc : X.calm = true) (hN : X.N.Nodup) (hy : X.N[i]? = some y) (hyl : X.env.scope.names.lookup y = some .local)
    (hsw : swapsWith (.ListComp elt [⟨tg, iter, ifs, 0⟩] scope pos) (some (.Name y py)) spos.line X.env = pure true) (hi : PI X tg iter (tI X.K Φ wf csrc)) (ok : BlkOk X.N X.env.scope scope own)
    (hg : ∀ (s : Shared) (H : Hp) (C : Addr) (cl : List (Str × Addr)) (fp : List Addr), PG (X.blk s H scope (compEnvC scope cl C X.env) fp) tg (tG X.K Φ wf ctg)) (ht : ∀ (s : Shared) (H : Hp) (C : Addr) (cl : List (Str × Addr)) (fp : List Addr), PTs (X.blk s H scope (compEnvC scope cl C X.env) fp) ifs (tT X.K Φ wf ccond))
    (he : ∀ (s : Shared) (H : Hp) (C : Addr) (cl : List (Str × Addr)) (fp : List Addr), PE (X.blk s H scope (compEnvC scope cl C X.env) fp) elt (tE X.K Φ wf celt)) (hs : ∀ x, foldedSetIterable iter X.env x = pure x) (htg : ∀ j ∈ tgts ctg, j ∈ own.map (·.2)) (hnd : (own.map (·.2)).Nodup) :
    SS X Φ wf (.Assign [.Name y py] (.ListComp elt [⟨tg, iter, ifs, 0⟩] scope pos) spos) (.asg (.tnm i) (.comp celt ctg csrc ccond (own.map (·.2)))) := by
  refine PS.weak (ps_setLc hc hN hy hyl hsw hi ok hg ht he hs) fun D0 σ H h => ?_
  have q := asg_red h
  have q2 := comp_red htg hnd q
  -- the target's reading weakened
  refine comp_red htg hnd ?_
  obtain ⟨F, ρ, O, r, ρ', sr, wd, e, k⟩ := q
  exact ⟨F, ρ, O, r, ρ', sr, wd, e, fun v F' H' O' P s1 s2 s3 s4 s5 => name_red (k v F' H' O' P s1 s2 s3 s4 s5)⟩
theorem se_comp {elt tg iter : Expr} {ifs : List Expr} {scope : Scope} {own : List (Str × Nat)} {celt ctg csrc ccond : C} (hc : X.calm = true) (hN : X.N.Nodup) (hi : PI X tg iter (tI X.K Φ wf csrc)) (ok : BlkOk X.N X.env.scope scope own)
    (hg : ∀ (s : Shared) (H : Hp) (C : Addr) (cl : List (Str × Addr)) (fp : List Addr), PG (X.blk s H scope (compEnvC scope cl C X.env) fp) tg (tG X.K Φ wf ctg)) (ht : ∀ (s : Shared) (H : Hp) (C : Addr) (cl : List (Str × Addr)) (fp : List Addr), PTs (X.blk s H scope (compEnvC scope cl C X.env) fp) ifs (tT X.K Φ wf ccond))
    (he : ∀ (s : Shared) (H : Hp) (C : Addr) (cl : List (Str × Addr)) (fp : List Addr), PE (X.blk s H scope (compEnvC scope cl C X.env) fp) elt (tE X.K Φ wf celt)) (hs : ∀ x, foldedSetIterable iter X.env x = pure x) (htg : ∀ j ∈ tgts ctg, j ∈ own.map (·.2)) (hnd : (own.map (·.2)).Nodup) :
    SE X Φ wf (.ListComp elt [⟨tg, iter, ifs, 0⟩] scope pos) (.comp celt ctg csrc ccond (own.map (·.2))) :=
  ⟨PE.weak (pe_lc hc hN hi ok hg ht he hs) fun σ H Q h => comp_red htg hnd h, plain_LC⟩
theorem pts_nil_c : PTs X [] (tT X.K Φ wf (.bl true)) := ⟨fun pins s σ H Q I h => by
  obtain ⟨F, ρ, O, b, ρ', sr, wd, e, k⟩ := h
  simp only [evT] at e
  cases e
  exact pts_nil.run pins s σ H Q I (k F H O Stp.refl sr wd Kp.refl)⟩
theorem ss_exs (he : SE X Φ wf e ce) (hl : isLC e = false) : SS X Φ wf (.Expr e pos) (.exs ce) := by
  refine PS.weak (ps_expr he.pe (he.pl.sw hl _ _ _)) fun D0 σ H h => ?_
  obtain ⟨F, ρ, O, o, sr, wd, e, p⟩ := h
  simp only [evS] at e
  obtain ⟨⟨r, ρ1⟩, e1, e⟩ := some_bind e
  cases e
  exact ⟨F, ρ, O, r, ρ1, sr, wd, e1, fun v F1 H1 O1 P st sr1 _ wd1 kp => p σ F1 H1 O1 (sub0 st) sr1 wd1.left kp Ks.refl⟩
theorem ss_ret (he : SE X Φ wf e ce) : SS X Φ wf (.Return (some e) pos) (.ret ce) := by
  refine PS.weak (ps_ret he.pe) fun D0 σ H h => ?_
  obtain ⟨F, ρ, O, o, sr, wd, e, p⟩ := h
  simp only [evS] at e
  obtain ⟨⟨r, ρ1⟩, e1, e⟩ := some_bind e
  cases r with
  | pl i => cases e
  | d d =>
    cases e
    exact ⟨F, ρ, O, .d d, ρ1, sr, wd, e1, fun v F1 H1 O1 P st sr1 rr wd1 kp => p σ v F1 H1 O1 P st sr1 rr wd1 kp Ks.refl⟩
theorem ss_retN : SS X Φ wf (.Return none pos) .retN := by
  refine PS.weak ps_retN fun D0 σ H h => ?_
  obtain ⟨F, ρ, O, o, sr, wd, e, p⟩ := h
  simp only [evS] at e
  cases e
  exact p σ .non F H O [] (nil_l Stp.refl) sr nonV (nil_w wd) Kp.refl Ks.refl
theorem ss_if {bs cs : List Stmt} {cbs ccs : C} (hc : ST X Φ wf a ca) (hb : SB X Φ wf bs cbs) (hcs : SB X Φ wf cs ccs) : SS X Φ wf (.If a bs cs pos) (.cond ca cbs ccs) := by
  refine PS.weak (ps_if hc hb hcs) fun D0 σ H h => ?_
  obtain ⟨F, ρ, O, o, sr, wd, e, p⟩ := h
  simp only [evS] at e
  obtain ⟨⟨t, ρ1⟩, e1, e⟩ := some_bind e
  refine ⟨F, ρ, O, t, ρ1, sr, wd, e1, fun F1 H1 O1 st sr1 wd1 kp => ?_⟩
  have p2 := Post.from st kp Ks.refl p
  cases t with
  | true => exact ⟨F1, ρ1, O1, o, sr1, wd1, e, p2⟩
  | false => exact ⟨F1, ρ1, O1, o, sr1, wd1, e, p2⟩
theorem ss_for {iter : Expr} {bs : List Stmt} {csrc ctg cbody : C} (hxe : X.xe = fun _ _ => False) (hc : X.calm = true) (hi : PI X tg iter (tI X.K Φ wf csrc)) (hg : PG X tg (tG X.K Φ wf ctg)) (hb : SB X Φ wf bs cbody) (hs : ∀ x, foldedSetIterable iter X.env x = pure x) : SS X Φ wf (.For tg iter bs [] pos) (.for_ ctg csrc cbody) :=
  PS.weak (ps_for (by rw [hxe]; exact PassesOwn.never) hc hi hg hb hs) fun D0 σ H h => loop_red h
theorem ss_while {bs : List Stmt} {cbody : C} (hxe : X.xe = fun _ _ => False) (hc : ST X Φ wf a ca) (hb : SB X Φ wf bs cbody) : SS X Φ wf (.While a bs [] pos) (.whl ca cbody) :=
  PS.weak (ps_while (by rw [hxe]; exact PassesOwn.never) hc hb) fun D0 σ H h => while_red h
theorem ss_brk : SS X Φ wf (.Break pos) .brk := by
  refine PS.weak ps_break fun D0 σ H h => ?_
  obtain ⟨F, ρ, O, o, sr, wd, e, p⟩ := h
  simp only [evS] at e
  cases e
  exact p σ F H O Stp.refl sr wd Kp.refl Ks.refl
theorem ss_cnt : SS X Φ wf (.Continue pos) .cnt := by
  refine PS.weak ps_continue fun D0 σ H h => ?_
  obtain ⟨F, ρ, O, o, sr, wd, e, p⟩ := h
  simp only [evS] at e
  cases e
  exact p σ F H O Stp.refl sr wd Kp.refl Ks.refl
theorem ss_pass : SS X Φ wf (.Pass pos) .pass := by
  refine PS.weak ps_pass fun D0 σ H h => ?_
  obtain ⟨F, ρ, O, o, sr, wd, e, p⟩ := h
  simp only [evS] at e
  cases e
  exact p σ F H O Stp.refl sr wd Kp.refl Ks.refl
end
end Co

set_option maxRecDepth 100000
set_option maxHeartbeats 1000000
/-! CoreB: the look at a def's text -/
namespace Co
open PySem PySem.Spec PyProof.Rows L2

def bltName : Blt → String
  | .len => "len" | .list => "list" | .tuple => "tuple" | .abs => "abs" | .int => "int" | .min => "min" | .max => "max" | .sum => "sum" | .any => "any" | .all => "all" | .str => "str"
def mutName : Mut → String
  | .append => "append" | .extend => "extend" | .pop => "pop"
def tyNames : List String := ["int", "bool", "str", "tuple", "list"]
/-- the built-in names that the core knows -/
def bltNames : List Str := ["len", "list", "tuple", "abs", "int", "bool", "str", "isinstance", "range", "enumerate", "min", "max", "sum", "any", "all"]

section
variable (N : List Str) (nm : List Str)
def visB (sc : Scope) (x : Str) : Bool := decide (sc.names.lookup x = some .local) || decide (sc.names.lookup x = some .cell) || decide (sc.names.lookup x = some .free)
def glB (sc : Scope) (x : Str) : Bool := decide (sc.names.lookup x = some .globalImplicit)
def okN (x : Str) : Bool := !(x == ("__debug__" : Str)) && !(x == ("__classdict__" : Str))
/-- a name that may be stored -/
def locB (sc : Scope) (fnb : Str → Bool) (x : Str) : Bool := decide (sc.names.lookup x = some .local) || (decide (sc.names.lookup x = some .cell) && fnb x)
def nameB (sc : Scope) (i : Nat) (x : Str) : Bool := decide (N[i]? = some x) && visB sc x && okN x
def plainT : Expr → Bool
  | .UnaryOp .Not _ _ => false
  | .BoolOp .. => false
  | .IfExp .. => false
  | .Compare .. => false
  | _ => true
def blkFn (scope : Scope) (x : Str) : Bool := scope.names.lookup x == some .cell
def ownL (own : List Nat) : List (Str × Nat) := own.map fun i => (N.getD i Str.empty, i)
def tupleE : Expr → Bool
  | .Tuple .. => true
  | _ => false
def listE : Expr → Bool
  | .List .. => true
  | _ => false
def optB {α : Type} (o : Option α) (f : α → Bool) : Bool :=
  match o with
  | some a => f a
  | none => false
def asName : Expr → Option Str
  | .Name x _ => some x
  | _ => none
def asConst : Expr → Option Const
  | .Constant c _ _ => some c
  | _ => none
def constB : C → Const → Bool
  | .non, .none => true
  | .bl b, .bool c => b == c
  | .int b, .int c => decide (b = c)
  | .str b, .str c => decide (b = c)
  | _, _ => false
def asBin : Expr → Option (Expr × Operator × Expr)
  | .BinOp a o b _ => some (a, o, b)
  | _ => none
def asUn : Expr → Option (UnaryOp × Expr)
  | .UnaryOp o a _ => some (o, a)
  | _ => none
def asCmp1 : Expr → Option (CmpOp × Expr × Expr)
  | .Compare a [o] [b] _ => some (o, a, b)
  | _ => none
def asCmp2 : Expr → Option (CmpOp × CmpOp × Expr × Expr × Expr)
  | .Compare a [o, o2] [b, c] _ => some (o, o2, a, b, c)
  | _ => none
def asBool : Expr → Option (BoolOp × Expr × Expr × List Expr)
  | .BoolOp o (a :: b :: r) _ => some (o, a, b, r)
  | _ => none
def asIf : Expr → Option (Expr × Expr × Expr)
  | .IfExp c a b _ => some (c, a, b)
  | _ => none
def asTup : Expr → Option (List Expr)
  | .Tuple es _ _ => some es
  | _ => none
def asLst : Expr → Option (List Expr)
  | .List es _ => some es
  | _ => none
def asSub : Expr → Option (Expr × Expr)
  | .Subscript a b _ => some (a, b)
  | _ => none
def asSlc : Expr → Option (Expr × Option Expr × Option Expr)
  | .Subscript a (.Slice lo hi none _) _ => some (a, lo, hi)
  | _ => none
def asSubN : Expr → Option (Str × Expr)
  | .Subscript (.Name x _) b _ => some (x, b)
  | _ => none
def asCall : Expr → Option (Str × List Expr)
  | .Call (.Name x _) es [] _ => some (x, es)
  | _ => none
def asMeth : Expr → Option (Str × Str × Pos × Expr × List Expr × Pos)
  | .Call (.Attribute (.Name x _) m p2) (e :: es) [] pos => some (x, m, p2, e, es, pos)
  | _ => none
def asMethE : Expr → Option (Expr × Str × Pos × Expr × List Expr × Pos)
  | .Call (.Attribute o m p2) (e :: es) [] pos => some (o, m, p2, e, es, pos)
  | _ => none
def notCall : Expr → Bool
  | .Call .. => false
  | _ => true
def asLC : Expr → Option (Expr × Expr × Expr × List Expr × Scope)
  | .ListComp elt [⟨tg, iter, ifs, 0⟩] scope _ => some (elt, tg, iter, ifs, scope)
  | _ => none
def hd1 : List Expr → Option Expr
  | [e] => some e
  | _ => none
def hd2 : List Expr → Option (Expr × Expr)
  | [a, b] => some (a, b)
  | _ => none
def hdc : List Expr → Option (Expr × List Expr)
  | a :: r => some (a, r)
  | _ => none
def hdcc : List Expr → Option (Expr × Expr × List Expr)
  | a :: b :: r => some (a, b, r)
  | _ => none
mutual
def chkE : C → Scope → (Str → Bool) → Expr → Bool
  | .var i, sc, _, e => optB (asName e) fun x => nameB N sc i x
  | .fz i, sc, _, e => optB (asName e) fun x => nameB N sc i x
  | .mv i, sc, _, e => optB (asName e) fun x => nameB N sc i x
  | .non, _, _, e => optB (asConst e) (constB .non)
  | .bl b, _, _, e => optB (asConst e) (constB (.bl b))
  | .int b, _, _, e => optB (asConst e) (constB (.int b))
  | .str b, _, _, e => optB (asConst e) (constB (.str b))
  | .bin o a b, sc, fb, e => optB (asBin e) fun (a', o', b') => decide (o = o') && chkE a sc fb a' && chkE b sc fb b'
  | .neg a, sc, fb, e => optB (asUn e) fun (o, a') => decide (o = .USub) && chkE a sc fb a'
  | .not a, sc, fb, e => optB (asUn e) fun (o, a') => decide (o = .Not) && chkE a sc fb a'
  | .cmp o a b, sc, fb, e => optB (asCmp1 e) fun (o', a', b') => decide (o = o') && chkE a sc fb a' && chkE b sc fb b'
  | .chn o1 o2 a b c, sc, fb, e => optB (asCmp2 e) fun (o1', o2', a', b', c') => decide (o1 = o1') && decide (o2 = o2') && chkE a sc fb a' && chkE b sc fb b' && chkE c sc fb c'
  | .and a b, sc, fb, e => optB (asBool e) fun (o, a', b', r) => decide (o = .And) && chkE a sc fb a' && chkV b sc fb .And (b' :: r)
  | .or a b, sc, fb, e => optB (asBool e) fun (o, a', b', r) => decide (o = .Or) && chkE a sc fb a' && chkV b sc fb .Or (b' :: r)
  | .ite c a b, sc, fb, e => optB (asIf e) fun (c', a', b') => chkT c sc fb c' && chkE a sc fb a' && chkE b sc fb b'
  | .frz a, sc, fb, e => chkE a sc fb e
  | .tup es, sc, fb, e => optB (asTup e) fun es' => chkA es sc fb es'
  | .lst es, sc, fb, e => optB (asLst e) fun es' => chkA es sc fb es'
  | .idx a b, sc, fb, e => optB (asSub e) fun (a', b') => chkE a sc fb a' && chkE b sc fb b'
  | .slc a lo hi, sc, fb, e => optB (asSlc e) fun (a', l', h') => chkE a sc fb a' && chkO lo sc fb l' && chkO hi sc fb h'
  | .isi a t, sc, fb, e => optB (asCall e) fun (f, es) => optB (hd2 es) fun (a', y') => optB (asName y') fun y => decide (f = ("isinstance" : Str)) && glB sc "isinstance" && glB sc y && tyNames.contains t && decide (y = Str.ofString t) && chkE a sc fb a'
  | .call f es, sc, fb, e => optB (asCall e) fun (x, es') => decide (nm[f]? = some x) && glB sc x && okN x && chkA es sc fb es'
  | .blt n es, sc, fb, e => optB (asCall e) fun (x, es') => decide (x = Str.ofString (bltName n)) && glB sc x && !es'.isEmpty && chkA es sc fb es'
  | .lrng1 a, sc, fb, e => optB (asCall e) fun (x, es) => optB (hd1 es) fun r => optB (asCall r) fun (x2, es2) => optB (hd1 es2) fun a' => decide (x = ("list" : Str)) && glB sc "list" && decide (x2 = ("range" : Str)) && glB sc "range" && chkE a sc fb a'
  | .lrng2 a b, sc, fb, e => optB (asCall e) fun (x, es) => optB (hd1 es) fun r => optB (asCall r) fun (x2, es2) => optB (hd2 es2) fun (a', b') => decide (x = ("list" : Str)) && glB sc "list" && decide (x2 = ("range" : Str)) && glB sc "range" && chkE a sc fb a' && chkE b sc fb b'
  | .ixm a b, sc, fb, e => optB (asMethE e) fun (o, m, p2, e', es', pos) => decide (m = ("index" : Str)) && notCall o && es'.isEmpty && (p2.endLine == pos.line) && chkE a sc fb o && chkE b sc fb e'
  | .mut n i es, sc, fb, e => optB (asMeth e) fun (x, m, p2, e', es', pos) => decide (m = Str.ofString (mutName n)) && nameB N sc i x && decide (es'.length < 20) && (p2.endLine == pos.line) && chkA es sc fb (e' :: es')
  | .comp elt tg src cond own, sc, fb, e => optB (asLC e) fun (elt', tg', iter', ifs', scope) =>
      chkI src sc fb iter' tg' && blkC N sc scope (ownL N own) && decide own.Nodup && (tgts tg).all own.contains && chkG tg (relS scope sc) (blkFn scope) tg' && chkC cond (relS scope sc) (blkFn scope) ifs' && chkE elt (relS scope sc) (blkFn scope) elt'
  | _, _, _, _ => false
def chkO : C → Scope → (Str → Bool) → Option Expr → Bool
  | .nil, _, _, o => o.isNone
  | .one a, sc, fb, o => optB o fun e => chkE a sc fb e
  | _, _, _, _ => false
def chkV : C → Scope → (Str → Bool) → BoolOp → List Expr → Bool
  | .one a, sc, fb, _, es => optB (hd1 es) fun e => chkE a sc fb e
  | .and a b, sc, fb, o, es => optB (hdcc es) fun (a', b', r) => decide (o = .And) && chkE a sc fb a' && chkV b sc fb .And (b' :: r)
  | .or a b, sc, fb, o, es => optB (hdcc es) fun (a', b', r) => decide (o = .Or) && chkE a sc fb a' && chkV b sc fb .Or (b' :: r)
  | _, _, _, _, _ => false
def chkA : C → Scope → (Str → Bool) → List Expr → Bool
  | .nil, _, _, es => es.isEmpty
  | .cons a r, sc, fb, es => optB (hdc es) fun (e, es') => chkE a sc fb e && chkA r sc fb es'
  | _, _, _, _ => false
def chkT : C → Scope → (Str → Bool) → Expr → Bool
  | .not a, sc, fb, e => optB (asUn e) fun (o, a') => decide (o = .Not) && chkT a sc fb a'
  | .and a b, sc, fb, e => optB (asBool e) fun (o, a', b', r) => decide (o = .And) && chkT a sc fb a' && chkW b sc fb .And (b' :: r)
  | .or a b, sc, fb, e => optB (asBool e) fun (o, a', b', r) => decide (o = .Or) && chkT a sc fb a' && chkW b sc fb .Or (b' :: r)
  | .cmp o a b, sc, fb, e => optB (asCmp1 e) fun (o', a', b') => decide (o = o') && chkE a sc fb a' && chkE b sc fb b'
  | .chn o1 o2 a b c, sc, fb, e => optB (asCmp2 e) fun (o1', o2', a', b', c') => decide (o1 = o1') && decide (o2 = o2') && chkE a sc fb a' && chkE b sc fb b' && chkE c sc fb c'
  | .tst a, sc, fb, e => plainT e && chkE a sc fb e
  | _, _, _, _ => false
def chkW : C → Scope → (Str → Bool) → BoolOp → List Expr → Bool
  | .one a, sc, fb, _, es => optB (hd1 es) fun e => chkT a sc fb e
  | .and a b, sc, fb, o, es => optB (hdcc es) fun (a', b', r) => decide (o = .And) && chkT a sc fb a' && chkW b sc fb .And (b' :: r)
  | .or a b, sc, fb, o, es => optB (hdcc es) fun (a', b', r) => decide (o = .Or) && chkT a sc fb a' && chkW b sc fb .Or (b' :: r)
  | _, _, _, _, _ => false
/-- a comprehension's tests -/
def chkC : C → Scope → (Str → Bool) → List Expr → Bool
  | .bl b, _, _, es => b && es.isEmpty
  | .one a, sc, fb, es => optB (hd1 es) fun e => chkT a sc fb e
  | _, _, _, _ => false
def chkG : C → Scope → (Str → Bool) → Expr → Bool
  | .tnm i, sc, fb, e => optB (asName e) fun x => decide (N[i]? = some x) && locB sc fb x
  | .ttup ts, sc, fb, e => optB (asTup e) fun es => chkGs ts sc fb es
  | .tsub i k, sc, fb, e => optB (asSubN e) fun (x, b) => nameB N sc i x && chkE k sc fb b
  | _, _, _, _ => false
def chkGs : C → Scope → (Str → Bool) → List Expr → Bool
  | .nil, _, _, es => es.isEmpty
  | .cons a r, sc, fb, es => optB (hdc es) fun (e, es') => chkG a sc fb e && chkGs r sc fb es'
  | _, _, _, _ => false
def chkI : C → Scope → (Str → Bool) → Expr → Expr → Bool
  | .sseq e, sc, fb, it, _ => chkE e sc fb it
  | .srng es, sc, fb, it, _ => optB (asCall it) fun (x, es') => decide (x = ("range" : Str)) && glB sc "range" && (decide (es'.length = 1) || decide (es'.length = 2)) && chkA es sc fb es'
  | .senum e, sc, fb, it, tg => optB (asCall it) fun (x, es') => optB (hd1 es') fun e' => decide (x = ("enumerate" : Str)) && glB sc "enumerate" && tupleE tg && chkE e sc fb e'
  | _, _, _, _, _ => false
end
/-- name = [..] on one line -/
def lcLine (sc : Scope) (tg v : Expr) (t : C) : Bool :=
  match tg, v, t with
  | .Name y py, .ListComp _ _ scope pos, .tnm i => decide (N[i]? = some y) && decide (sc.names.lookup y = some .local) && (py.line == pos.line) && !(scope.names.any fun (n, k) => n == y && (k == .local || k == .cell)) && decide (sc.kind = .function)
  | _, _, _ => false
def starE : Expr → Bool
  | .Starred .. => true
  | _ => false
/-- a, b = x, y -/
def parB (sc : Scope) (i j : Nat) (tg v : Expr) : Bool :=
  match tg, v with
  | .Tuple [.Name x px, .Name y py] _ _, .Tuple [a, b] _ _ => decide (N[i]? = some x) && decide (N[j]? = some y) && decide (i ≠ j) && decide (x ≠ y) && decide (sc.names.lookup x = some .local) && decide (sc.names.lookup y = some .local) && decide (sc.kind = .function) && (px.line == py.line) &&
      !starE a && !starE b && !([a, b].all (foldedForSure 8)) && !([a, b].all (constantsAlone 8))
  | _, _ => false
def parB3 (sc : Scope) (i j l : Nat) (tg v : Expr) : Bool :=
  match tg, v with
  | .Tuple [.Name x px, .Name y py, .Name z pz] _ _, .Tuple [a, b, c] _ _ => decide (N[i]? = some x) && decide (N[j]? = some y) && decide (N[l]? = some z) && decide (i ≠ j) && decide (i ≠ l) && decide (j ≠ l) && decide (x ≠ y) && decide (x ≠ z) && decide (y ≠ z) && decide (sc.names.lookup x = some .local) && decide (sc.names.lookup y = some .local) && decide (sc.names.lookup z = some .local) && decide (sc.kind = .function) && (px.line == py.line) && (px.line == pz.line) &&
      !starE a && !starE b && !starE c && !([a, b, c].all (foldedForSure 8)) && !([a, b, c].all (constantsAlone 8))
  | _, _ => false
/-- a tuple of constants -/
def foldT : Expr → Bool
  | .Tuple vs _ _ => vs.all (foldedForSure 8)
  | _ => false
/-- a name of a block's own that is not a plain local -/
def lcCell (sc : Scope) : Expr → Bool
  | .Name y _ => !decide (sc.names.lookup y = some .local)
  | _ => false
def mixN (sc : Scope) : Expr → Bool
  | .Name x _ => !decide (sc.names.lookup x = some .local)
  | _ => false
def mixT (sc : Scope) : Expr → Bool
  | .Tuple ts _ _ => ts.any (mixN sc)
  | _ => false
/-- a tuple of names that is not swapped -/
def bigT : Expr → Bool
  | .Tuple ts _ _ => !(ts.length == 2 || ts.length == 3)
  | _ => false
def isCompC : C → Bool
  | .comp .. => true
  | _ => false
def asAsg : Stmt → Option (Expr × Expr)
  | .Assign [tg] v _ => some (tg, v)
  | _ => none
def asExp : Stmt → Option Expr
  | .Expr v _ => some v
  | _ => none
def asRet : Stmt → Option (Option Expr)
  | .Return v _ => some v
  | _ => none
def asIfS : Stmt → Option (Expr × List Stmt × List Stmt)
  | .If c a b _ => some (c, a, b)
  | _ => none
def asFor : Stmt → Option (Expr × Expr × List Stmt)
  | .For tg it bs [] _ => some (tg, it, bs)
  | _ => none
def asWhile : Stmt → Option (Expr × List Stmt)
  | .While c bs [] _ => some (c, bs)
  | _ => none
def kindS : Stmt → Nat
  | .Break _ => 1
  | .Continue _ => 2
  | .Pass _ => 3
  | _ => 0
def hdS : List Stmt → Option (Stmt × List Stmt)
  | a :: r => some (a, r)
  | _ => none
mutual
def chkS : C → Scope → (Str → Bool) → Stmt → Bool
  | .asg t e, sc, fb, s => optB (asAsg s) fun (tg, v) => chkG N nm t sc fb tg && chkE N nm e sc fb v && (if isLC v then (lcLine N sc tg v t && isCompC e || lcCell sc tg) else (!(tupleE v && (tupleE tg || listE tg)) || bigT tg || foldT v || mixT sc tg))
  | .par i j es, sc, fb, s => optB (asAsg s) fun (tg, v) => optB (asTup v) fun vs => parB N sc i j tg v && chkA N nm es sc fb vs
  | .par3 i j l es, sc, fb, s => optB (asAsg s) fun (tg, v) => optB (asTup v) fun vs => parB3 N sc i j l tg v && chkA N nm es sc fb vs
  | .exs e, sc, fb, s => optB (asExp s) fun v => !isLC v && chkE N nm e sc fb v
  | .ret e, sc, fb, s => optB (asRet s) fun v => optB v fun v => chkE N nm e sc fb v
  | .retN, _, _, s => optB (asRet s) fun v => v.isNone
  | .cond c a b, sc, fb, s => optB (asIfS s) fun (c', a', b') => chkT N nm c sc fb c' && chkB a sc fb a' && chkB b sc fb b'
  | .for_ t src body, sc, fb, s => optB (asFor s) fun (tg, it, bs) => chkG N nm t sc fb tg && chkI N nm src sc fb it tg && chkB body sc fb bs
  | .whl c body, sc, fb, s => optB (asWhile s) fun (c', bs) => chkT N nm c sc fb c' && chkB body sc fb bs
  | .brk, _, _, s => kindS s == 1
  | .cnt, _, _, s => kindS s == 2
  | .pass, _, _, s => kindS s == 3
  | _, _, _, _ => false
def chkB : C → Scope → (Str → Bool) → List Stmt → Bool
  | .nil, _, _, ss => ss.isEmpty
  | .cons a r, sc, fb, ss => optB (hdS ss) fun (s, ss') => chkS a sc fb s && chkB r sc fb ss'
  | _, _, _, _ => false
end
end
end Co

set_option maxRecDepth 100000
set_option maxHeartbeats 4000000
/-! CoreC: what the look says -/
namespace Co
open PySem PySem.Spec PyProof.Rows L2

/-- the context of a body or a block -/
structure GX (N : List Str) (nm : List Str) (Φ : Nat → List Sl → Option (D × List Sl)) (k : Nat) (X : Cx) (sc : Scope) (fb : Str → Bool) : Prop where
  hN : X.N = N
  sc : X.env.scope = sc
  calm : X.calm = true
  xe : X.xe = fun _ _ => False
  nd : N.Nodup
  fn : ∀ x, fb x = true → X.fn x = true
  room : Room (k + 1) X.A
  blt : ∀ x ∈ bltNames, X.mg x = none
  defs : ∀ j x, nm[j]? = some x → DefAt X (Φ j) (k + 1) x

section
variable {N nm : List Str} {Φ : Nat → List Sl → Option (D × List Sl)} {wf k : Nat} {X : Cx} {sc : Scope} {fb : Str → Bool}
theorem GX.hu (g : GX N nm Φ k X sc fb) : X.A.units + 65 < cLine := by
  have := g.room.un
  omega
theorem GX.gl (g : GX N nm Φ k X sc fb) {x : Str} (h : glB sc x = true) : Gl X x := by
  unfold glB at h
  unfold Gl Env.kindOf
  rw [g.sc]
  exact of_decide_eq_true h
theorem GX.vis (g : GX N nm Φ k X sc fb) {x : Str} (h : visB sc x = true) : Vis X.env.scope x := by
  unfold visB at h
  simp only [Bool.or_eq_true, decide_eq_true_eq] at h
  unfold Vis
  rw [g.sc]
  rcases h with (h | h) | h
  · exact .inl h
  · exact .inr (.inl h)
  · exact .inr (.inr h)
theorem okN_ok {x : Str} (h : okN x = true) : (x == ("__debug__" : Str)) = false ∧ (x == ("__classdict__" : Str)) = false := by
  unfold okN at h
  simpa using h
theorem GX.name (g : GX N nm Φ k X sc fb) {x : Str} {i : Nat} (h : nameB N sc i x = true) : X.N[i]? = some x ∧ Vis X.env.scope x ∧ (x == ("__debug__" : Str)) = false ∧ (x == ("__classdict__" : Str)) = false := by
  unfold nameB at h
  simp only [Bool.and_eq_true, decide_eq_true_eq] at h
  obtain ⟨⟨h1, h2⟩, h3⟩ := h
  exact ⟨by rw [g.hN]; exact h1, g.vis h2, okN_ok h3⟩
theorem GX.loc (g : GX N nm Φ k X sc fb) {x : Str} (h : locB sc fb x = true) : L2.Loc X.env.scope x ∧ (X.fn x = true ∨ X.env.scope.names.lookup x = some .local) := by
  unfold locB at h
  simp only [Bool.or_eq_true, Bool.and_eq_true, decide_eq_true_eq] at h
  unfold L2.Loc
  rw [g.sc]
  rcases h with h | ⟨h, h2⟩
  · exact ⟨.inl h, .inr h⟩
  · exact ⟨.inr h, .inl (g.fn x h2)⟩
/-- a comprehension's block -/
theorem GX.blk (g : GX N nm Φ k X sc fb) {scope : Scope} (s : Shared) (H : Hp) (C : Addr) (cl : List (Str × Addr)) (fp : List Addr) : GX N nm Φ k (X.blk s H scope (compEnvC scope cl C X.env) fp) (relS scope sc) (blkFn scope) :=
  ⟨g.hN, by have := g.sc; subst this; rfl, g.calm, rfl, g.nd, fun x h => h, g.room, g.blt, fun j x h => ⟨(g.defs j x h).ex⟩⟩
theorem boot_ty {t : String} (h : tyNames.contains t = true) : bootBuiltins (Str.ofString t) = some (.type t) ∧ (Str.ofString t) ∈ bltNames ∧ Str.ofString t ≠ "__name__" ∧ (Str.ofString t == ("__debug__" : Str)) = false := by
  have h' : t = "int" ∨ t = "bool" ∨ t = "str" ∨ t = "tuple" ∨ t = "list" := by simpa [tyNames] using h
  rcases h' with rfl | rfl | rfl | rfl | rfl <;> exact ⟨by decide +kernel, by decide +kernel, by decide +kernel, by decide +kernel⟩
/-- what a comprehension's rules ask -/
def CompOk (X : Cx) (Φ : Nat → List Sl → Option (D × List Sl)) (wf : Nat) (v : Expr) (c : C) : Prop :=
  ∃ elt tg iter ifs scope pos celt ctg csrc ccond own, v = .ListComp elt [⟨tg, iter, ifs, 0⟩] scope pos ∧ c = .comp celt ctg csrc ccond (own.map (·.2)) ∧ PI X tg iter (tI X.K Φ wf csrc) ∧ BlkOk X.N X.env.scope scope own ∧
    (∀ (s : Shared) (H : Hp) (C : Addr) (cl : List (Str × Addr)) (fp : List Addr), PG (X.blk s H scope (compEnvC scope cl C X.env) fp) tg (tG X.K Φ wf ctg)) ∧
    (∀ (s : Shared) (H : Hp) (C : Addr) (cl : List (Str × Addr)) (fp : List Addr), PTs (X.blk s H scope (compEnvC scope cl C X.env) fp) ifs (tT X.K Φ wf ccond)) ∧
    (∀ (s : Shared) (H : Hp) (C : Addr) (cl : List (Str × Addr)) (fp : List Addr), PE (X.blk s H scope (compEnvC scope cl C X.env) fp) elt (tE X.K Φ wf celt)) ∧
    (∀ x, foldedSetIterable iter X.env x = pure x) ∧ (∀ j ∈ tgts ctg, j ∈ own.map (·.2)) ∧ (own.map (·.2)).Nodup
theorem plainT_ok {e : Expr} (h : plainT e = true) (env : PySem.Env) : ∀ whole, isTrue e env whole = (do let v ← whole; standAt e.pos; holding [v] (truthy v)) := by
  intro w
  cases e with
  | UnaryOp o a p => cases o <;> first | (cases h; done) | rfl
  | BoolOp => cases h
  | IfExp => cases h
  | Compare => cases h
  | _ => rfl
theorem ownL_map (own : List Nat) : (ownL N own).map (·.2) = own := by
  unfold ownL
  rw [List.map_map]
  exact List.map_id own
theorem and2 {a b : Bool} (h : (a && b) = true) : a = true ∧ b = true := (Bool.and_eq_true a b).mp h
theorem optB_ok {α : Type} {o : Option α} {f : α → Bool} (h : optB o f = true) : ∃ a, o = some a ∧ f a = true := by
  cases o with
  | none => cases h
  | some a => exact ⟨a, rfl, h⟩
theorem asName_ok {e : Expr} {x : Str} (h : asName e = some x) : ∃ p, e = .Name x p := by
  cases e <;> first | (cases h; done) | skip
  cases h; exact ⟨_, rfl⟩
theorem asTup_ok {e : Expr} {es : List Expr} (h : asTup e = some es) : ∃ k p, e = .Tuple es k p := by
  cases e <;> first | (cases h; done) | skip
  cases h; exact ⟨_, _, rfl⟩
theorem asSubN_ok {e : Expr} {x : Str} {b : Expr} (h : asSubN e = some (x, b)) : ∃ p p2, e = .Subscript (.Name x p) b p2 := by
  cases e <;> first | (cases h; done) | skip
  rename_i o _ _
  cases o <;> first | (cases h; done) | skip
  cases h; exact ⟨_, _, rfl⟩
theorem asg_each {tg : Expr} {t : C} {env : PySem.Env} (h : chkG N nm t sc fb tg = true) : ∀ es, assignEach (tg :: es) env = (false, assign tg env) :: assignEach es env := by
  intro es
  cases t with
  | tnm i => simp only [chkG] at h; obtain ⟨x, e1, _⟩ := optB_ok h; obtain ⟨p, rfl⟩ := asName_ok e1; rfl
  | ttup ts => simp only [chkG] at h; obtain ⟨x, e1, _⟩ := optB_ok h; obtain ⟨k, p, rfl⟩ := asTup_ok e1; rfl
  | tsub i k => simp only [chkG] at h; obtain ⟨⟨x, b⟩, e1, _⟩ := optB_ok h; obtain ⟨p, p2, rfl⟩ := asSubN_ok e1; rfl
  | _ => simp only [chkG] at h; cases h
theorem hdc_ok {es : List Expr} {a : Expr} {r : List Expr} (h : hdc es = some (a, r)) : es = a :: r := by
  cases es with
  | nil => cases h
  | cons x y => cases h; rfl
theorem asg_eachs {env : PySem.Env} : ∀ (ts : C) {es : List Expr}, chkGs N nm ts sc fb es = true → (assignEach es env).length = es.length ∧ (assignEach es env).findIdx? (·.1) = none
  | .nil, es, h => by
    simp only [chkGs] at h
    cases es with
    | nil => exact ⟨rfl, rfl⟩
    | cons a r => cases h
  | .cons a r, es, h => by
    simp only [chkGs] at h
    obtain ⟨⟨e, es'⟩, e1, h⟩ := optB_ok h
    have := hdc_ok e1
    subst this
    have h := and2 h
    obtain ⟨q1, q2⟩ := asg_eachs (env := env) r h.2
    rw [asg_each h.1]
    refine ⟨by simp [q1], ?_⟩
    rw [List.findIdx?_cons]
    simp [q2]
  | .var _, _, h | .fz _, _, h | .mv _, _, h | .non, _, h | .bl _, _, h | .int _, _, h | .str _, _, h | .bin _ _ _, _, h | .neg _, _, h | .not _, _, h | .cmp _ _ _, _, h | .chn _ _ _ _ _, _, h | .and _ _, _, h | .or _ _, _, h | .ite _ _ _, _, h | .one _, _, h | .tst _, _, h | .tup _, _, h | .lst _, _, h | .idx _ _, _, h | .isi _ _, _, h | .call _ _, _, h | .blt _ _, _, h | .mut _ _ _, _, h | .comp _ _ _ _ _, _, h | .tnm _, _, h | .ttup _, _, h | .tsub _ _, _, h | .sseq _, _, h | .srng _, _, h | .senum _, _, h | .asg _ _, _, h | .par _ _ _, _, h | .frz _, _, h | .slc _ _ _, _, h | .exs _, _, h | .lrng1 _, _, h | .lrng2 _ _, _, h | .ixm _ _, _, h | .par3 _ _ _ _, _, h | .ret _, _, h | .retN, _, h | .cond _ _ _, _, h | .for_ _ _ _, _, h | .whl _ _, _, h | .brk, _, h | .cnt, _, h | .pass, _, h => Bool.noConfusion (show false = true from h)
theorem gs_len : ∀ (ts : C) {es : List Expr}, chkGs N nm ts sc fb es = true → ∀ ds ρ ρ', evGs Φ wf ts ds ρ = some ρ' → ds.length = es.length
  | .nil, es, h, ds, ρ, ρ', e => by
    simp only [chkGs] at h
    simp only [evGs] at e
    cases es with
    | cons a r => cases h
    | nil =>
      cases ds with
      | nil => rfl
      | cons x y => cases e
  | .cons a r, es, h, ds, ρ, ρ', he => by
    simp only [chkGs] at h
    obtain ⟨⟨e, es'⟩, e1, h⟩ := optB_ok h
    have := hdc_ok e1
    subst this
    have h := and2 h
    simp only [evGs] at he
    cases ds with
    | nil => cases he
    | cons x y =>
      obtain ⟨ρ1, _, h2⟩ := some_bind he
      have := gs_len r h.2 _ _ _ h2
      simp [this]
  | .var _, _, h, _, _, _, _ | .fz _, _, h, _, _, _, _ | .mv _, _, h, _, _, _, _ | .non, _, h, _, _, _, _ | .bl _, _, h, _, _, _, _ | .int _, _, h, _, _, _, _ | .str _, _, h, _, _, _, _ | .bin _ _ _, _, h, _, _, _, _ | .neg _, _, h, _, _, _, _ | .not _, _, h, _, _, _, _ | .cmp _ _ _, _, h, _, _, _, _ | .chn _ _ _ _ _, _, h, _, _, _, _ | .and _ _, _, h, _, _, _, _ | .or _ _, _, h, _, _, _, _ | .ite _ _ _, _, h, _, _, _, _ | .one _, _, h, _, _, _, _ | .tst _, _, h, _, _, _, _ | .tup _, _, h, _, _, _, _ | .lst _, _, h, _, _, _, _ | .idx _ _, _, h, _, _, _, _ | .isi _ _, _, h, _, _, _, _ | .call _ _, _, h, _, _, _, _ | .blt _ _, _, h, _, _, _, _ | .mut _ _ _, _, h, _, _, _, _ | .comp _ _ _ _ _, _, h, _, _, _, _ | .tnm _, _, h, _, _, _, _ | .ttup _, _, h, _, _, _, _ | .tsub _ _, _, h, _, _, _, _ | .sseq _, _, h, _, _, _, _ | .srng _, _, h, _, _, _, _ | .senum _, _, h, _, _, _, _ | .asg _ _, _, h, _, _, _, _ | .par _ _ _, _, h, _, _, _, _ | .frz _, _, h, _, _, _, _ | .slc _ _ _, _, h, _, _, _, _ | .exs _, _, h, _, _, _, _ | .lrng1 _, _, h, _, _, _, _ | .lrng2 _ _, _, h, _, _, _, _ | .ixm _ _, _, h, _, _, _, _ | .par3 _ _ _ _, _, h, _, _, _, _ | .ret _, _, h, _, _, _, _ | .retN, _, h, _, _, _, _ | .cond _ _ _, _, h, _, _, _, _ | .for_ _ _ _, _, h, _, _, _, _ | .whl _ _, _, h, _, _, _, _ | .brk, _, h, _, _, _, _ | .cnt, _, h, _, _, _, _ | .pass, _, h, _, _, _, _ => Bool.noConfusion (show false = true from h)
theorem one_E {X : Cx} {e : Expr} {c : C} (h : SE X Φ wf e c) : SE X Φ wf e (.one c) := ⟨PE.weak h.pe fun σ H Q q => by
  obtain ⟨F, ρ, O, r, ρ', sr, wd, e, k⟩ := q
  simp only [evE] at e
  exact ⟨F, ρ, O, r, ρ', sr, wd, e, k⟩, h.pl⟩
theorem one_T {X : Cx} {e : Expr} {c : C} (h : ST X Φ wf e c) : ST X Φ wf e (.one c) := PT.weak h fun σ H Q q => by
  obtain ⟨F, ρ, O, r, ρ', sr, wd, e, k⟩ := q
  simp only [evT] at e
  exact ⟨F, ρ, O, r, ρ', sr, wd, e, k⟩
theorem cond_one {X : Cx} {e : Expr} {c : C} (h : ST X Φ wf e c) : PTs X [e] (tT X.K Φ wf (.one c)) := pts_one (one_T h)

/-! ### inversions -/
theorem asConst_ok {e : Expr} {c : Const} (h : asConst e = some c) : ∃ k p, e = .Constant c k p := by
  cases e <;> first | (cases h; done) | skip
  cases h; exact ⟨_, _, rfl⟩
theorem asBin_ok {e a b : Expr} {o : Operator} (h : asBin e = some (a, o, b)) : ∃ p, e = .BinOp a o b p := by
  cases e <;> first | (cases h; done) | skip
  cases h; exact ⟨_, rfl⟩
theorem asUn_ok {e a : Expr} {o : UnaryOp} (h : asUn e = some (o, a)) : ∃ p, e = .UnaryOp o a p := by
  cases e <;> first | (cases h; done) | skip
  cases h; exact ⟨_, rfl⟩
theorem asCmp1_ok {e a b : Expr} {o : CmpOp} (h : asCmp1 e = some (o, a, b)) : ∃ p, e = .Compare a [o] [b] p := by
  cases e <;> first | (cases h; done) | skip
  rename_i l os bs p
  rcases os with _ | ⟨o1, _ | ⟨o2, os⟩⟩ <;> rcases bs with _ | ⟨b1, _ | ⟨b2, bs⟩⟩ <;> first | (cases h; done) | skip
  cases h; exact ⟨_, rfl⟩
theorem asCmp2_ok {e a b c : Expr} {o o2 : CmpOp} (h : asCmp2 e = some (o, o2, a, b, c)) : ∃ p, e = .Compare a [o, o2] [b, c] p := by
  cases e <;> first | (cases h; done) | skip
  rename_i l os bs p
  rcases os with _ | ⟨o1, _ | ⟨o2, _ | ⟨o3, os⟩⟩⟩ <;> rcases bs with _ | ⟨b1, _ | ⟨b2, _ | ⟨b3, bs⟩⟩⟩ <;> first | (cases h; done) | skip
  cases h; exact ⟨_, rfl⟩
theorem asBool_ok {e a b : Expr} {r : List Expr} {o : BoolOp} (h : asBool e = some (o, a, b, r)) : ∃ p, e = .BoolOp o (a :: b :: r) p := by
  cases e <;> first | (cases h; done) | skip
  rename_i l os p
  rcases os with _ | ⟨o1, _ | ⟨o2, os⟩⟩ <;> first | (cases h; done) | skip
  cases h; exact ⟨_, rfl⟩
theorem asIf_ok {e c a b : Expr} (h : asIf e = some (c, a, b)) : ∃ p, e = .IfExp c a b p := by
  cases e <;> first | (cases h; done) | skip
  cases h; exact ⟨_, rfl⟩
theorem asLst_ok {e : Expr} {es : List Expr} (h : asLst e = some es) : ∃ p, e = .List es p := by
  cases e <;> first | (cases h; done) | skip
  cases h; exact ⟨_, rfl⟩
theorem asSub_ok {e a b : Expr} (h : asSub e = some (a, b)) : ∃ p, e = .Subscript a b p := by
  cases e <;> first | (cases h; done) | skip
  cases h; exact ⟨_, rfl⟩
theorem asSlc_ok {e a : Expr} {lo hi : Option Expr} (h : asSlc e = some (a, lo, hi)) : ∃ p p2, e = .Subscript a (.Slice lo hi none p) p2 := by
  cases e <;> first | (cases h; done) | skip
  rename_i a' b' p'
  cases b' <;> first | (cases h; done) | skip
  rename_i l u st p
  cases st with
  | some x => cases h
  | none => cases h; exact ⟨_, _, rfl⟩
theorem asCall_ok {e : Expr} {x : Str} {es : List Expr} (h : asCall e = some (x, es)) : ∃ p p2, e = .Call (.Name x p) es [] p2 := by
  cases e <;> first | (cases h; done) | skip
  rename_i f es' ks p
  cases f <;> first | (cases h; done) | skip
  cases ks with
  | cons a b => cases h
  | nil => cases h; exact ⟨_, _, rfl⟩
theorem asMeth_ok {e e' : Expr} {x m : Str} {p2 pos : Pos} {es : List Expr} (h : asMeth e = some (x, m, p2, e', es, pos)) : ∃ p, e = .Call (.Attribute (.Name x p) m p2) (e' :: es) [] pos := by
  cases e <;> first | (cases h; done) | skip
  rename_i f es' ks p
  cases f <;> first | (cases h; done) | skip
  rename_i o m' p3
  cases o <;> first | (cases h; done) | skip
  cases es' with
  | nil => cases h
  | cons e1 es1 =>
    cases ks with
    | cons a b => cases h
    | nil => cases h; exact ⟨_, rfl⟩
theorem asLC_ok {e elt tg iter : Expr} {ifs : List Expr} {scope : Scope} (h : asLC e = some (elt, tg, iter, ifs, scope)) : ∃ p, e = .ListComp elt [⟨tg, iter, ifs, 0⟩] scope p := by
  cases e <;> first | (cases h; done) | skip
  rename_i elt' gs sc' p
  rcases gs with _ | ⟨⟨tg', it', ifs', a⟩, _ | ⟨g2, gs⟩⟩ <;> first | (cases h; done) | skip
  · unfold asLC at h
    split at h
    · rename_i heq
      injection heq with h1 h2 h3 h4
      injection h2 with h5 h6
      injection h5 with q1 q2 q3 q4
      subst h1 h3 q1 q2 q3 q4
      cases h
      exact ⟨_, rfl⟩
    · cases h
  · unfold asLC at h
    split at h
    · rename_i heq
      injection heq with h1 h2 h3 h4
      injection h2 with h5 h6
      cases h6
    · cases h
theorem hd1_ok {es : List Expr} {a : Expr} (h : hd1 es = some a) : es = [a] := by
  rcases es with _ | ⟨x, _ | ⟨y, r⟩⟩ <;> first | (cases h; done) | (cases h; rfl)
theorem hd2_ok {es : List Expr} {a b : Expr} (h : hd2 es = some (a, b)) : es = [a, b] := by
  rcases es with _ | ⟨x, _ | ⟨y, _ | ⟨z, r⟩⟩⟩ <;> first | (cases h; done) | (cases h; rfl)
theorem hdcc_ok {es : List Expr} {a b : Expr} {r : List Expr} (h : hdcc es = some (a, b, r)) : es = a :: b :: r := by
  rcases es with _ | ⟨x, _ | ⟨y, r⟩⟩ <;> first | (cases h; done) | (cases h; rfl)
theorem empty_ok {α : Type} {es : List α} (h : es.isEmpty = true) : es = [] := by
  cases es with
  | nil => rfl
  | cons a b => cases h
end
end Co

set_option maxRecDepth 100000
set_option maxHeartbeats 4000000
/-! CoreD: a text that the look lets does what the evaluator says -/
namespace Co
open PySem PySem.Spec PyProof.Rows L2

section
variable {N nm : List Str} {Φ : Nat → List Sl → Option (D × List Sl)} {wf k : Nat}
theorem GX.bn {X : Cx} {sc : Scope} {fb : Str → Bool} (g : GX N nm Φ k X sc fb) {x : Str} (h : x ∈ bltNames) : X.mg x = none := g.blt x h
theorem se_bltn {X : Cx} {sc : Scope} {fb : Str → Bool} {n : Blt} {x : Str} {p pos : Pos} {e : Expr} {es : List Expr} {cs : C} (g : GX N nm Φ k X sc fb) (hx : x = Str.ofString (bltName n)) (hg : glB sc x = true) (hs : SA X Φ wf (e :: es) cs) (h1 : ∀ env, starEach (e :: es) env = (false, eval e env) :: starEach es env) (h2 : ∀ env, starEach es env = es.map fun e => (false, eval e env)) :
    SE X Φ wf (.Call (.Name x p) (e :: es) [] pos) (.blt n cs) := by
  subst hx
  have hp := plainB (p := pos) (h2 X.env)
  cases n with
  | len => exact se_blt (n := .len) (fun t ht => pe_callB call_lenD (g.gl hg) (g.bn (by decide +kernel)) (by decide +kernel) ht (by decide +kernel) (by decide +kernel) (h1 X.env) hp) hs
  | list => exact se_blt (n := .list) (fun t ht => pe_callTy call_listD (g.gl hg) (g.bn (by decide +kernel)) (by decide +kernel) ht (by decide +kernel) (by decide +kernel) (h1 X.env) hp) hs
  | tuple => exact se_blt (n := .tuple) (fun t ht => pe_callTy call_tupD (g.gl hg) (g.bn (by decide +kernel)) (by decide +kernel) ht (by decide +kernel) (by decide +kernel) (h1 X.env) hp) hs
  | abs => exact se_blt (n := .abs) (fun t ht => pe_callB call_absD (g.gl hg) (g.bn (by decide +kernel)) (by decide +kernel) ht (by decide +kernel) (by decide +kernel) (h1 X.env) hp) hs
  | int => exact se_blt (n := .int) (fun t ht => pe_callTy call_intD (g.gl hg) (g.bn (by decide +kernel)) (by decide +kernel) ht (by decide +kernel) (by decide +kernel) (h1 X.env) hp) hs
  | min => exact se_blt (n := .min) (fun t ht => pe_callB (call_minD g.calm) (g.gl hg) (g.bn (by decide +kernel)) (by decide +kernel) ht (by decide +kernel) (by decide +kernel) (h1 X.env) hp) hs
  | max => exact se_blt (n := .max) (fun t ht => pe_callB (call_maxD g.calm) (g.gl hg) (g.bn (by decide +kernel)) (by decide +kernel) ht (by decide +kernel) (by decide +kernel) (h1 X.env) hp) hs
  | sum => exact se_blt (n := .sum) (fun t ht => pe_callB (call_sumD g.calm) (g.gl hg) (g.bn (by decide +kernel)) (by decide +kernel) ht (by decide +kernel) (by decide +kernel) (h1 X.env) hp) hs
  | any => exact se_blt (n := .any) (fun t ht => pe_callB (call_anyD g.calm) (g.gl hg) (g.bn (by decide +kernel)) (by decide +kernel) ht (by decide +kernel) (by decide +kernel) (h1 X.env) hp) hs
  | all => exact se_blt (n := .all) (fun t ht => pe_callB (call_allD g.calm) (g.gl hg) (g.bn (by decide +kernel)) (by decide +kernel) ht (by decide +kernel) (by decide +kernel) (h1 X.env) hp) hs
  | str => exact se_blt (n := .str) (fun t ht => pe_callTy call_strD (g.gl hg) (g.bn (by decide +kernel)) (by decide +kernel) ht (by decide +kernel) (by decide +kernel) (h1 X.env) hp) hs
/-- the first of a list of expressions -/
theorem SA.head {X : Cx} {e : Expr} {es : List Expr} {cs : C} (hs : SA X Φ wf (e :: es) cs) : (∀ env, starEach (e :: es) env = (false, eval e env) :: starEach es env) ∧ ∀ env, starEach es env = es.map fun e => (false, eval e env) := by
  have key : ∀ env, starEach (e :: es) env = (false, eval e env) :: es.map fun e => (false, eval e env) := fun env => hs.st env
  have st : ∀ env, starEach (e :: es) env = (false, eval e env) :: starEach es env := fun env => by
    cases e with
    | Starred a p =>
      have := key env
      have q : starEach (.Starred a p :: es) env = (true, eval a env) :: starEach es env := rfl
      rw [q] at this
      injection this with h1 _
      injection h1 with h1 _
      cases h1
    | _ => rfl
  refine ⟨st, fun env => ?_⟩
  have := key env
  rw [st env] at this
  injection this
theorem se_comp_of {X : Cx} {v : Expr} {c : C} {sc : Scope} {fb : Str → Bool} (g : GX N nm Φ k X sc fb) (h : CompOk X Φ wf v c) : SE X Φ wf v c := by
  obtain ⟨elt, tg, iter, ifs, scope, pos, celt, ctg, csrc, ccond, own, rfl, rfl, h1, h2, h3, h4, h5, h6, h7, h8⟩ := h
  exact se_comp g.calm (by rw [g.hN]; exact g.nd) h1 h2 h3 h4 h5 h6 h7 h8
theorem comp_mk {X : Cx} {sc : Scope} {fb : Str → Bool} {elt tg iter : Expr} {ifs : List Expr} {scope : Scope} {pos : Pos} {celt ctg csrc ccond : C} {own : List Nat} (g : GX N nm Φ k X sc fb) (h1 : PI X tg iter (tI X.K Φ wf csrc)) (h2 : blkC N sc scope (ownL N own) = true) (h3 : own.Nodup) (h4 : (tgts ctg).all own.contains = true)
    (h5 : ∀ (s : Shared) (H : Hp) (C : Addr) (cl : List (Str × Addr)) (fp : List Addr), PG (X.blk s H scope (compEnvC scope cl C X.env) fp) tg (tG X.K Φ wf ctg)) (h6 : ∀ (s : Shared) (H : Hp) (C : Addr) (cl : List (Str × Addr)) (fp : List Addr), PTs (X.blk s H scope (compEnvC scope cl C X.env) fp) ifs (tT X.K Φ wf ccond))
    (h7 : ∀ (s : Shared) (H : Hp) (C : Addr) (cl : List (Str × Addr)) (fp : List Addr), PE (X.blk s H scope (compEnvC scope cl C X.env) fp) elt (tE X.K Φ wf celt)) (h8 : ∀ x, foldedSetIterable iter X.env x = pure x) : CompOk X Φ wf (.ListComp elt [⟨tg, iter, ifs, 0⟩] scope pos) (.comp celt ctg csrc ccond own) := by
  refine ⟨elt, tg, iter, ifs, scope, pos, celt, ctg, csrc, ccond, ownL N own, rfl, by rw [ownL_map], h1, ?_, h5, h6, h7, h8, ?_, by rw [ownL_map]; exact h3⟩
  · rw [g.hN, g.sc]
    exact blkOk_by h2
  · intro j hj
    rw [ownL_map]
    have := List.all_eq_true.mp h4 j hj
    simpa using this
theorem se_frz {X : Cx} {e : Expr} {c : C} (h : SE X Φ wf e c) : SE X Φ wf e (.frz c) := ⟨PE.weak h.pe fun σ H Q q => by
  obtain ⟨F, ρ, O, r, ρ', sr, wd, e, k⟩ := q
  simp only [evE] at e
  obtain ⟨⟨r1, ρ1⟩, e1, e⟩ := some_bind e
  cases r1 with
  | pl i => cases e
  | d d =>
    cases e
    refine ⟨F, ρ, O, .d d, ρ1, sr, wd, e1, fun v F' H' O' P st sr' rr wd' kp => ?_⟩
    have st0 : Stp F' H' P (fun a => F' a ∨ a ∈ P) H' [] := ⟨fun a o h _ => h, fun a h => .inl h, fun a h => (nomatch h), fun a h => h.elim .inl fun z => .inr (.inl z)⟩
    refine k v (fun a => F' a ∨ a ∈ P) H' O' [] ?_ (SR.stp wd'.right st0 wd'.apart' sr') (frz_ok (fun a h => .inl h) d v P (fun a ha => .inr ha) rr) ?_ kp
    · refine ⟨st.fr, fun a h => .inl (st.mo a h), fun a h => st.ow a (by rw [List.append_nil] at h; exact List.mem_append_left _ h), fun a h => ?_⟩
      rcases h with h | h
      · exact st.nw a h
      · exact .inr (st.ow a (List.mem_append_right _ h))
    · rw [List.append_nil]
      refine ⟨wd'.left.nd, fun a ha z => ?_, wd'.left.ls, fun a z => ?_⟩
      · rcases z with z | z
        · exact wd'.left.nf a ha z
        · exact wd'.apart' a ha z
      · rcases z with z | z
        · exact wd'.ft a z
        · exact wd'.right.ls a z, h.pl⟩
structure SI (X : Cx) (Φ : Nat → List Sl → Option (D × List Sl)) (wf : Nat) (tg e : Expr) (c : C) : Prop where
  pi : PI X tg e (tI X.K Φ wf c)
  fs : ∀ env x, foldedSetIterable e env x = pure x
theorem no_slice {c : C} {sc : Scope} {fb : Str → Bool} {lo hi st : Option Expr} {p : Pos} (h : chkE N nm c sc fb (.Slice lo hi st p) = true) : False := by
  induction c <;> simp only [chkE] at h <;> first | (cases h; done) | (obtain ⟨_, q, _⟩ := optB_ok h; cases q; done) | (rename_i ih; exact ih h)
theorem a_len : ∀ (c : C) {sc : Scope} {fb : Str → Bool} {es : List Expr}, chkA N nm c sc fb es = true → ∀ ρ rs ρ', evA Φ wf c ρ = some (rs, ρ') → rs.length = es.length
  | .nil, sc, fb, es, h, ρ, rs, ρ', e => by
    simp only [chkA] at h
    simp only [evA] at e
    have := empty_ok h
    subst this
    cases e
    rfl
  | .cons a r, sc, fb, es, h, ρ, rs, ρ', e => by
    simp only [chkA] at h
    obtain ⟨⟨e', es'⟩, e1, h⟩ := optB_ok h
    have := hdc_ok e1
    subst this
    simp only [evA] at e
    obtain ⟨⟨ra, ρ1⟩, _, e⟩ := some_bind e
    obtain ⟨⟨rs', ρ2⟩, e3, e⟩ := some_bind e
    cases e
    have := a_len r (and2 h).2 _ _ _ e3
    simp [this]
  | .var _, _, _, _, h, _, _, _, _ | .fz _, _, _, _, h, _, _, _, _ | .mv _, _, _, _, h, _, _, _, _ | .non, _, _, _, h, _, _, _, _ | .bl _, _, _, _, h, _, _, _, _ | .int _, _, _, _, h, _, _, _, _ | .str _, _, _, _, h, _, _, _, _ | .bin _ _ _, _, _, _, h, _, _, _, _ | .neg _, _, _, _, h, _, _, _, _ | .not _, _, _, _, h, _, _, _, _ | .cmp _ _ _, _, _, _, h, _, _, _, _ | .chn _ _ _ _ _, _, _, _, h, _, _, _, _ | .and _ _, _, _, _, h, _, _, _, _ | .or _ _, _, _, _, h, _, _, _, _ | .ite _ _ _, _, _, _, h, _, _, _, _ | .one _, _, _, _, h, _, _, _, _ | .tst _, _, _, _, h, _, _, _, _ | .tup _, _, _, _, h, _, _, _, _ | .lst _, _, _, _, h, _, _, _, _ | .idx _ _, _, _, _, h, _, _, _, _ | .isi _ _, _, _, _, h, _, _, _, _ | .call _ _, _, _, _, h, _, _, _, _ | .blt _ _, _, _, _, h, _, _, _, _ | .mut _ _ _, _, _, _, h, _, _, _, _ | .comp _ _ _ _ _, _, _, _, h, _, _, _, _ | .tnm _, _, _, _, h, _, _, _, _ | .ttup _, _, _, _, h, _, _, _, _ | .tsub _ _, _, _, _, h, _, _, _, _ | .sseq _, _, _, _, h, _, _, _, _ | .srng _, _, _, _, h, _, _, _, _ | .senum _, _, _, _, h, _, _, _, _ | .asg _ _, _, _, _, h, _, _, _, _ | .par _ _ _, _, _, _, h, _, _, _, _ | .frz _, _, _, _, h, _, _, _, _ | .slc _ _ _, _, _, _, h, _, _, _, _ | .exs _, _, _, _, h, _, _, _, _ | .lrng1 _, _, _, _, h, _, _, _, _ | .lrng2 _ _, _, _, _, h, _, _, _, _ | .ixm _ _, _, _, _, h, _, _, _, _ | .par3 _ _ _ _, _, _, _, h, _, _, _, _ | .ret _, _, _, _, h, _, _, _, _ | .retN, _, _, _, h, _, _, _, _ | .cond _ _ _, _, _, _, h, _, _, _, _ | .for_ _ _ _, _, _, _, h, _, _, _, _ | .whl _ _, _, _, _, h, _, _, _, _ | .brk, _, _, _, h, _, _, _, _ | .cnt, _, _, _, h, _, _, _, _ | .pass, _, _, _, h, _, _, _, _ => Bool.noConfusion (show false = true from h)
theorem vals_len : ∀ {rs : List R} {ds : List D}, vals rs = some ds → ds.length = rs.length
  | [], ds, h => by cases h; rfl
  | .pl i :: rs, ds, h => by cases h
  | .d d :: rs, ds, h => by
    cases hh : vals rs with
    | none => rw [show vals (.d d :: rs) = (vals rs).map (d :: ·) from rfl, hh] at h; cases h
    | some dt =>
      rw [show vals (.d d :: rs) = (vals rs).map (d :: ·) from rfl, hh] at h
      cases h
      simp [vals_len hh]
theorem si_rng {X : Cx} {p p2 : Pos} {es : List Expr} {cs : C} {tg : Expr} (hg : Gl X "range") (hm : X.mg "range" = none) (hs : SA X Φ wf es cs) (hl : es.length = 1 ∨ es.length = 2) (hlen : ∀ ρ rs ρ', evA Φ wf cs ρ = some (rs, ρ') → rs.length = es.length) : PI X tg (.Call (.Name "range" p) es [] p2) (tI X.K Φ wf (.srng cs)) := by
  rcases es with _ | ⟨a, _ | ⟨b, _ | ⟨c, r⟩⟩⟩
  · simp at hl
  · refine PI.weak (pi_range1 hg hm hs.pa (hs.st _)) fun σ H R h => ?_
    obtain ⟨F, ρ, O, ds, lk, ρ1, sr, wd, e, k⟩ := h
    simp only [evI] at e
    obtain ⟨⟨rs, ρ2⟩, e1, e⟩ := some_bind e
    obtain ⟨vs, e2, e⟩ := some_bind e
    obtain ⟨l, e3, e⟩ := some_bind e
    cases e
    refine ⟨F, ρ, O, rs, _, sr, wd, e1, fun us F2 H2 O2 P st sr2 rr wd2 kp => ?_⟩
    have hv := vals_ok rr e2
    have ln : vs.length = 1 := by rw [vals_len e2, hlen _ _ _ e1]; rfl
    unfold rngOf at e3
    split at e3
    · split at e3
      · rename_i n hc
        cases e3
        obtain ⟨v, rfl, h1⟩ := vrl1e hv
        refine ⟨_, by rw [vr_i h1], hc.1, hc.2, ?_⟩
        have q := k (Itr 0 (Int.toNat (n - 0))) F2 H2 O2 (sub0 st) sr2 wd2.left kp (fun i hi => (by cases hi)) iter_rng
        simpa using q
      · cases e3
    · simp at ln
    · cases e3
  · have hs1 := hs.head.2 X.env
    refine PI.weak (pi_range2 hg hm hs.pa (by rw [hs.st]; rfl) (by rw [hs1]; rfl)) fun σ H R h => ?_
    obtain ⟨F, ρ, O, ds, lk, ρ1, sr, wd, e, k⟩ := h
    simp only [evI] at e
    obtain ⟨⟨rs, ρ2⟩, e1, e⟩ := some_bind e
    obtain ⟨vs, e2, e⟩ := some_bind e
    obtain ⟨l, e3, e⟩ := some_bind e
    cases e
    refine ⟨F, ρ, O, rs, _, sr, wd, e1, fun us F2 H2 O2 P st sr2 rr wd2 kp => ?_⟩
    have hv := vals_ok rr e2
    have ln : vs.length = 2 := by rw [vals_len e2, hlen _ _ _ e1]; rfl
    unfold rngOf at e3
    split at e3
    · simp at ln
    · split at e3
      · rename_i hc
        cases e3
        obtain ⟨v, w, Q1, Q2, rfl, h1, h2⟩ := vrl2 hv
        exact ⟨_, _, by rw [vr_i h1, vr_i h2], hc, k (Itr _ _) F2 H2 O2 (sub0 st) sr2 wd2.left kp (fun i hi => (by cases hi)) iter_rng⟩
      · cases e3
    · cases e3
  · simp at hl
theorem asMethE_ok {e o e' : Expr} {m : Str} {p2 pos : Pos} {es' : List Expr} (h : asMethE e = some (o, m, p2, e', es', pos)) : e = .Call (.Attribute o m p2) (e' :: es') [] pos := by
  unfold asMethE at h
  split at h
  · cases h; rfl
  · cases h
theorem notCall_ok {o : Expr} {m : Str} {env : PySem.Env} (h : notCall o = true) : attributeBase o m env (eval o env) = eval o env := by
  cases o <;> first | (cases h; done) | rfl
set_option maxRecDepth 100000 in
mutual
theorem sdE : ∀ (c : C) {X : Cx} {sc : Scope} {fb : Str → Bool} {e : Expr}, GX N nm Φ k X sc fb → chkE N nm c sc fb e = true → SE X Φ wf e c
  | .var i, X, sc, fb, e, g, h => by
    simp only [chkE] at h
    obtain ⟨x, e1, h⟩ := optB_ok h
    obtain ⟨p, rfl⟩ := asName_ok e1
    obtain ⟨h1, h2, h3, h4⟩ := g.name h
    exact ⟨se_var h1 h2 h3 h4, plain_Name⟩
  | .fz i, X, sc, fb, e, g, h => by
    simp only [chkE] at h
    obtain ⟨x, e1, h⟩ := optB_ok h
    obtain ⟨p, rfl⟩ := asName_ok e1
    obtain ⟨h1, h2, h3, h4⟩ := g.name h
    exact ⟨se_fz h1 h2 h3 h4, plain_Name⟩
  | .mv i, X, sc, fb, e, g, h => by
    simp only [chkE] at h
    obtain ⟨x, e1, h⟩ := optB_ok h
    obtain ⟨p, rfl⟩ := asName_ok e1
    obtain ⟨h1, h2, h3, h4⟩ := g.name h
    exact ⟨se_mv h1 h2 h3 h4, plain_Name⟩
  | .non, X, sc, fb, e, g, h => by
    simp only [chkE] at h
    obtain ⟨x, e1, h⟩ := optB_ok h
    obtain ⟨kk, p, rfl⟩ := asConst_ok e1
    cases x <;> first | (cases h; done) | exact se_non
  | .bl b, X, sc, fb, e, g, h => by
    simp only [chkE] at h
    obtain ⟨x, e1, h⟩ := optB_ok h
    obtain ⟨kk, p, rfl⟩ := asConst_ok e1
    cases x <;> first | (cases h; done) | skip
    rename_i c h2
    have : b = c := by simpa [constB] using h2
    subst this
    exact se_bl
  | .int b, X, sc, fb, e, g, h => by
    simp only [chkE] at h
    obtain ⟨x, e1, h⟩ := optB_ok h
    obtain ⟨kk, p, rfl⟩ := asConst_ok e1
    cases x <;> first | (cases h; done) | skip
    rename_i c h2
    have : b = c := by simpa [constB] using h2
    subst this
    exact se_int
  | .str b, X, sc, fb, e, g, h => by
    simp only [chkE] at h
    obtain ⟨x, e1, h⟩ := optB_ok h
    obtain ⟨kk, p, rfl⟩ := asConst_ok e1
    cases x <;> first | (cases h; done) | skip
    rename_i c h2
    have : b = c := by simpa [constB] using h2
    subst this
    exact se_str
  | .bin o a b, X, sc, fb, e, g, h => by
    simp only [chkE] at h
    obtain ⟨⟨a', o', b'⟩, e1, h⟩ := optB_ok h
    obtain ⟨p, rfl⟩ := asBin_ok e1
    obtain ⟨h, h3⟩ := and2 h
    obtain ⟨h1, h2⟩ := and2 h
    have := of_decide_eq_true h1
    subst this
    exact se_bin (sdE a g h2) (sdE b g h3)
  | .neg a, X, sc, fb, e, g, h => by
    simp only [chkE] at h
    obtain ⟨⟨o', a'⟩, e1, h⟩ := optB_ok h
    obtain ⟨p, rfl⟩ := asUn_ok e1
    obtain ⟨h1, h2⟩ := and2 h
    have := of_decide_eq_true h1
    subst this
    exact se_neg (sdE a g h2)
  | .not a, X, sc, fb, e, g, h => by
    simp only [chkE] at h
    obtain ⟨⟨o', a'⟩, e1, h⟩ := optB_ok h
    obtain ⟨p, rfl⟩ := asUn_ok e1
    obtain ⟨h1, h2⟩ := and2 h
    have := of_decide_eq_true h1
    subst this
    exact se_not (sdE a g h2)
  | .cmp o a b, X, sc, fb, e, g, h => by
    simp only [chkE] at h
    obtain ⟨⟨o', a', b'⟩, e1, h⟩ := optB_ok h
    obtain ⟨p, rfl⟩ := asCmp1_ok e1
    obtain ⟨h, h3⟩ := and2 h
    obtain ⟨h1, h2⟩ := and2 h
    have := of_decide_eq_true h1
    subst this
    exact se_cmp g.hu (sdE a g h2) (sdE b g h3)
  | .chn o1 o2 a b c, X, sc, fb, e, g, h => by
    simp only [chkE] at h
    obtain ⟨⟨o1', o2', a', b', c'⟩, e1, h⟩ := optB_ok h
    obtain ⟨p, rfl⟩ := asCmp2_ok e1
    obtain ⟨h, h5⟩ := and2 h
    obtain ⟨h, h4⟩ := and2 h
    obtain ⟨h, h3⟩ := and2 h
    obtain ⟨h1, h2⟩ := and2 h
    have := of_decide_eq_true h1
    subst this
    have := of_decide_eq_true h2
    subst this
    exact se_chn g.hu (sdE a g h3) (sdE b g h4) (sdE c g h5)
  | .and a b, X, sc, fb, e, g, h => by
    simp only [chkE] at h
    obtain ⟨⟨o', a', b', r⟩, e1, h⟩ := optB_ok h
    obtain ⟨p, rfl⟩ := asBool_ok e1
    obtain ⟨h, h3⟩ := and2 h
    obtain ⟨h1, h2⟩ := and2 h
    have := of_decide_eq_true h1
    subst this
    exact se_and (sdE a g h2) (sdV b g h3)
  | .or a b, X, sc, fb, e, g, h => by
    simp only [chkE] at h
    obtain ⟨⟨o', a', b', r⟩, e1, h⟩ := optB_ok h
    obtain ⟨p, rfl⟩ := asBool_ok e1
    obtain ⟨h, h3⟩ := and2 h
    obtain ⟨h1, h2⟩ := and2 h
    have := of_decide_eq_true h1
    subst this
    exact se_or (sdE a g h2) (sdV b g h3)
  | .ite c a b, X, sc, fb, e, g, h => by
    simp only [chkE] at h
    obtain ⟨⟨c', a', b'⟩, e1, h⟩ := optB_ok h
    obtain ⟨p, rfl⟩ := asIf_ok e1
    obtain ⟨h, h3⟩ := and2 h
    obtain ⟨h1, h2⟩ := and2 h
    exact se_ite (sdT c g h1) (sdE a g h2) (sdE b g h3)
  | .tup es, X, sc, fb, e, g, h => by
    simp only [chkE] at h
    obtain ⟨es', e1, h⟩ := optB_ok h
    obtain ⟨kk, p, rfl⟩ := asTup_ok e1
    exact se_tup (sdA es g h)
  | .lst es, X, sc, fb, e, g, h => by
    simp only [chkE] at h
    obtain ⟨es', e1, h⟩ := optB_ok h
    obtain ⟨p, rfl⟩ := asLst_ok e1
    exact se_lst (sdA es g h)
  | .idx a b, X, sc, fb, e, g, h => by
    simp only [chkE] at h
    obtain ⟨⟨a', b'⟩, e1, h⟩ := optB_ok h
    obtain ⟨p, rfl⟩ := asSub_ok e1
    obtain ⟨h1, h2⟩ := and2 h
    exact se_idx (sdE a g h1) (sdE b g h2)
  | .isi a t, X, sc, fb, e, g, h => by
    simp only [chkE] at h
    obtain ⟨⟨f, es⟩, e1, h'⟩ := optB_ok h
    clear h
    obtain ⟨⟨a', y'⟩, e2, h⟩ := optB_ok h'
    clear h'
    obtain ⟨p, p2, rfl⟩ := asCall_ok e1
    have := hd2_ok e2
    subst this
    obtain ⟨y, e3, h⟩ := optB_ok h
    obtain ⟨p3, rfl⟩ := asName_ok e3
    obtain ⟨h, h6⟩ := and2 h
    obtain ⟨h, h5⟩ := and2 h
    obtain ⟨h, h4⟩ := and2 h
    obtain ⟨h, h3⟩ := and2 h
    obtain ⟨h1, h2⟩ := and2 h
    have := of_decide_eq_true h1
    subst this
    have := of_decide_eq_true h5
    subst this
    obtain ⟨b1, b2, b3, b4⟩ := boot_ty h4
    exact se_isi (g.gl h2) (g.bn (by decide +kernel)) (g.gl h3) (g.bn b2) b1 b3 b4 (sdE a g h6)
  | .call f es, X, sc, fb, e, g, h => by
    simp only [chkE] at h
    obtain ⟨⟨x, es'⟩, e1, h⟩ := optB_ok h
    obtain ⟨p, p2, rfl⟩ := asCall_ok e1
    obtain ⟨h, h4⟩ := and2 h
    obtain ⟨h, h3⟩ := and2 h
    obtain ⟨h1, h2⟩ := and2 h
    have G := g.defs f x (of_decide_eq_true h1)
    have hs := sdA es g h4
    cases es' with
    | nil =>
      have : es = .nil := by
        cases es <;> first | rfl | (simp only [chkA] at h4; first | (cases h4; done) | (obtain ⟨_, q, _⟩ := optB_ok h4; cases q))
      subst this
      exact se_call0 G g.room (g.gl h2) (okN_ok h3).1
    | cons e' es' => exact se_call G g.room (g.gl h2) (okN_ok h3).1 hs hs.head.2
  | .blt n es, X, sc, fb, e, g, h => by
    simp only [chkE] at h
    obtain ⟨⟨x, es'⟩, e1, h⟩ := optB_ok h
    obtain ⟨p, p2, rfl⟩ := asCall_ok e1
    obtain ⟨h, h4⟩ := and2 h
    obtain ⟨h, h3⟩ := and2 h
    obtain ⟨h1, h2⟩ := and2 h
    have hs := sdA es g h4
    cases es' with
    | nil => cases h3
    | cons e' es' => exact se_bltn g (of_decide_eq_true h1) h2 hs hs.head.1 hs.head.2
  | .mut n i es, X, sc, fb, e, g, h => by
    simp only [chkE] at h
    obtain ⟨⟨x, m, p2, e', es', pos⟩, e1, h⟩ := optB_ok h
    obtain ⟨p, rfl⟩ := asMeth_ok e1
    obtain ⟨h, h5⟩ := and2 h
    obtain ⟨h, h4⟩ := and2 h
    obtain ⟨h, h3⟩ := and2 h
    obtain ⟨h1, h2⟩ := and2 h
    have hs := sdA es g h5
    have := of_decide_eq_true h1
    subst this
    obtain ⟨q1, q2, q3, q4⟩ := g.name h2
    cases n with
    | append => exact se_append q1 q2 q3 q4 h4 (of_decide_eq_true h3) hs hs.head.2
    | extend => exact se_extend q1 q2 q3 q4 h4 (of_decide_eq_true h3) hs hs.head.2
    | pop => exact se_pop q1 q2 q3 q4 h4 (of_decide_eq_true h3) hs hs.head.2
  | .lrng1 a, X, sc, fb, e, g, h => by
    simp only [chkE] at h
    obtain ⟨⟨x, es⟩, e1, h'⟩ := optB_ok h
    clear h
    obtain ⟨r, e2, h⟩ := optB_ok h'
    clear h'
    obtain ⟨⟨x2, es2⟩, e3, h'⟩ := optB_ok h
    clear h
    obtain ⟨a', e4, h⟩ := optB_ok h'
    clear h'
    obtain ⟨p, p2, rfl⟩ := asCall_ok e1
    have := hd1_ok e2
    subst this
    obtain ⟨p3, p4, rfl⟩ := asCall_ok e3
    have := hd1_ok e4
    subst this
    obtain ⟨h, h5⟩ := and2 h
    obtain ⟨h, h4⟩ := and2 h
    obtain ⟨h, h3⟩ := and2 h
    obtain ⟨h1, h2⟩ := and2 h
    have := of_decide_eq_true h1
    subst this
    have := of_decide_eq_true h3
    subst this
    exact se_lrng1 g.calm (g.gl h2) (g.bn (by decide +kernel)) (g.gl h4) (g.bn (by decide +kernel)) (sdE a g h5)
  | .lrng2 a b, X, sc, fb, e, g, h => by
    simp only [chkE] at h
    obtain ⟨⟨x, es⟩, e1, h'⟩ := optB_ok h
    clear h
    obtain ⟨r, e2, h⟩ := optB_ok h'
    clear h'
    obtain ⟨⟨x2, es2⟩, e3, h'⟩ := optB_ok h
    clear h
    obtain ⟨⟨a', b'⟩, e4, h⟩ := optB_ok h'
    clear h'
    obtain ⟨p, p2, rfl⟩ := asCall_ok e1
    have := hd1_ok e2
    subst this
    obtain ⟨p3, p4, rfl⟩ := asCall_ok e3
    have := hd2_ok e4
    subst this
    obtain ⟨h, h6⟩ := and2 h
    obtain ⟨h, h5⟩ := and2 h
    obtain ⟨h, h4⟩ := and2 h
    obtain ⟨h, h3⟩ := and2 h
    obtain ⟨h1, h2⟩ := and2 h
    have := of_decide_eq_true h1
    subst this
    have := of_decide_eq_true h3
    subst this
    exact se_lrng2 g.calm (g.gl h2) (g.bn (by decide +kernel)) (g.gl h4) (g.bn (by decide +kernel)) (sdE a g h5) (sdE b g h6)
  | .ixm a b, X, sc, fb, e, g, h => by
    simp only [chkE] at h
    obtain ⟨⟨o, m, p2, e', es', pos⟩, e1, h'⟩ := optB_ok h
    clear h
    have h := h'
    clear h'
    have := asMethE_ok e1
    subst this
    obtain ⟨h, h6⟩ := and2 h
    obtain ⟨h, h5⟩ := and2 h
    obtain ⟨h, h4⟩ := and2 h
    obtain ⟨h, h3⟩ := and2 h
    obtain ⟨h1, h2⟩ := and2 h
    have := of_decide_eq_true h1
    subst this
    have := empty_ok h3
    subst this
    exact se_ixm h4 (notCall_ok h2) (fewB ((sa_cons (wf := wf) (sdE b g h6) sa_nil).st X.env) (by decide)) (sdE a g h5) (sdE b g h6)
  | .comp elt tg src cond own, X, sc, fb, e, g, h => by
    simp only [chkE] at h
    obtain ⟨⟨elt', tg', iter', ifs', scope⟩, e1, h⟩ := optB_ok h
    obtain ⟨p, rfl⟩ := asLC_ok e1
    obtain ⟨h, h7⟩ := and2 h
    obtain ⟨h, h6⟩ := and2 h
    obtain ⟨h, h5⟩ := and2 h
    obtain ⟨h, h4⟩ := and2 h
    obtain ⟨h, h3⟩ := and2 h
    obtain ⟨h1, h2⟩ := and2 h
    exact se_comp_of g (comp_mk g (sdI src g h1).pi h2 (of_decide_eq_true h3) h4 (fun s H C cl fp => sdG tg (g.blk s H C cl fp) h5) (fun s H C cl fp => sdC cond (g.blk s H C cl fp) h6) (fun s H C cl fp => (sdE elt (g.blk s H C cl fp) h7).pe) ((sdI src g h1).fs _))
  | .frz a, X, sc, fb, e, g, h => by
    simp only [chkE] at h
    exact se_frz (sdE a g h)
  | .slc a lo hi, X, sc, fb, e, g, h => by
    simp only [chkE] at h
    obtain ⟨⟨a', l', u'⟩, e1, h⟩ := optB_ok h
    obtain ⟨p, p2, rfl⟩ := asSlc_ok e1
    obtain ⟨h, h3⟩ := and2 h
    obtain ⟨h1, h2⟩ := and2 h
    exact se_slc (sdE a g h1) (sdO lo g h2) (sdO hi g h3)
  | .one _, _, _, _, _, _, h | .tst _, _, _, _, _, _, h | .nil, _, _, _, _, _, h | .cons _ _, _, _, _, _, _, h | .tnm _, _, _, _, _, _, h | .ttup _, _, _, _, _, _, h | .tsub _ _, _, _, _, _, _, h | .sseq _, _, _, _, _, _, h | .srng _, _, _, _, _, _, h | .senum _, _, _, _, _, _, h | .asg _ _, _, _, _, _, _, h | .par _ _ _, _, _, _, _, _, h | .exs _, _, _, _, _, _, h | .par3 _ _ _ _, _, _, _, _, _, h | .ret _, _, _, _, _, _, h | .retN, _, _, _, _, _, h | .cond _ _ _, _, _, _, _, _, h | .for_ _ _ _, _, _, _, _, _, h | .whl _ _, _, _, _, _, _, h | .brk, _, _, _, _, _, h | .cnt, _, _, _, _, _, h | .pass, _, _, _, _, _, h => Bool.noConfusion (show false = true from h)
theorem sdO : ∀ (c : C) {X : Cx} {sc : Scope} {fb : Str → Bool} {o : Option Expr}, GX N nm Φ k X sc fb → chkO N nm c sc fb o = true → PO X o (tO X.K Φ wf c)
  | .nil, X, sc, fb, o, g, h => by
    simp only [chkO] at h
    cases o with
    | none => exact so_none
    | some e => cases h
  | .one a, X, sc, fb, o, g, h => by
    simp only [chkO] at h
    obtain ⟨e, rfl, h⟩ := optB_ok h
    exact so_some (sdE a g h)
  | .var _, _, _, _, _, _, h | .fz _, _, _, _, _, _, h | .mv _, _, _, _, _, _, h | .non, _, _, _, _, _, h | .int _, _, _, _, _, _, h | .str _, _, _, _, _, _, h | .bin _ _ _, _, _, _, _, _, h | .neg _, _, _, _, _, _, h | .not _, _, _, _, _, _, h | .cmp _ _ _, _, _, _, _, _, h | .chn _ _ _ _ _, _, _, _, _, _, h | .and _ _, _, _, _, _, _, h | .or _ _, _, _, _, _, _, h | .ite _ _ _, _, _, _, _, _, h | .tst _, _, _, _, _, _, h | .tup _, _, _, _, _, _, h | .lst _, _, _, _, _, _, h | .idx _ _, _, _, _, _, _, h | .isi _ _, _, _, _, _, _, h | .call _ _, _, _, _, _, _, h | .blt _ _, _, _, _, _, _, h | .mut _ _ _, _, _, _, _, _, h | .comp _ _ _ _ _, _, _, _, _, _, h | .bl _, _, _, _, _, _, h | .cons _ _, _, _, _, _, _, h | .tnm _, _, _, _, _, _, h | .ttup _, _, _, _, _, _, h | .tsub _ _, _, _, _, _, _, h | .sseq _, _, _, _, _, _, h | .srng _, _, _, _, _, _, h | .senum _, _, _, _, _, _, h | .asg _ _, _, _, _, _, _, h | .par _ _ _, _, _, _, _, _, h | .frz _, _, _, _, _, _, h | .slc _ _ _, _, _, _, _, _, h | .exs _, _, _, _, _, _, h | .lrng1 _, _, _, _, _, _, h | .lrng2 _ _, _, _, _, _, _, h | .ixm _ _, _, _, _, _, _, h | .par3 _ _ _ _, _, _, _, _, _, h | .ret _, _, _, _, _, _, h | .retN, _, _, _, _, _, h | .cond _ _ _, _, _, _, _, _, h | .for_ _ _ _, _, _, _, _, _, h | .whl _ _, _, _, _, _, _, h | .brk, _, _, _, _, _, h | .cnt, _, _, _, _, _, h | .pass, _, _, _, _, _, h => Bool.noConfusion (show false = true from h)
theorem sdV : ∀ (c : C) {X : Cx} {sc : Scope} {fb : Str → Bool} {o : BoolOp} {es : List Expr} {pos : Pos}, GX N nm Φ k X sc fb → chkV N nm c sc fb o es = true → SE X Φ wf (.BoolOp o es pos) c
  | .one a, X, sc, fb, o, es, pos, g, h => by
    simp only [chkV] at h
    obtain ⟨e, e1, h⟩ := optB_ok h
    have := hd1_ok e1
    subst this
    exact one_E (se_and1 (rest := []) (sdE a g h))
  | .and a b, X, sc, fb, o, es, pos, g, h => by
    simp only [chkV] at h
    obtain ⟨⟨a', b', r⟩, e1, h⟩ := optB_ok h
    have := hdcc_ok e1
    subst this
    obtain ⟨h, h3⟩ := and2 h
    obtain ⟨h1, h2⟩ := and2 h
    have := of_decide_eq_true h1
    subst this
    exact se_and (sdE a g h2) (sdV b g h3)
  | .or a b, X, sc, fb, o, es, pos, g, h => by
    simp only [chkV] at h
    obtain ⟨⟨a', b', r⟩, e1, h⟩ := optB_ok h
    have := hdcc_ok e1
    subst this
    obtain ⟨h, h3⟩ := and2 h
    obtain ⟨h1, h2⟩ := and2 h
    have := of_decide_eq_true h1
    subst this
    exact se_or (sdE a g h2) (sdV b g h3)
  | .var _, _, _, _, _, _, _, _, h | .fz _, _, _, _, _, _, _, _, h | .mv _, _, _, _, _, _, _, _, h | .non, _, _, _, _, _, _, _, h | .bl _, _, _, _, _, _, _, _, h | .int _, _, _, _, _, _, _, _, h | .str _, _, _, _, _, _, _, _, h | .bin _ _ _, _, _, _, _, _, _, _, h | .neg _, _, _, _, _, _, _, _, h | .not _, _, _, _, _, _, _, _, h | .cmp _ _ _, _, _, _, _, _, _, _, h | .chn _ _ _ _ _, _, _, _, _, _, _, _, h | .ite _ _ _, _, _, _, _, _, _, _, h | .tst _, _, _, _, _, _, _, _, h | .tup _, _, _, _, _, _, _, _, h | .lst _, _, _, _, _, _, _, _, h | .idx _ _, _, _, _, _, _, _, _, h | .isi _ _, _, _, _, _, _, _, _, h | .call _ _, _, _, _, _, _, _, _, h | .blt _ _, _, _, _, _, _, _, _, h | .mut _ _ _, _, _, _, _, _, _, _, h | .comp _ _ _ _ _, _, _, _, _, _, _, _, h | .nil, _, _, _, _, _, _, _, h | .cons _ _, _, _, _, _, _, _, _, h | .tnm _, _, _, _, _, _, _, _, h | .ttup _, _, _, _, _, _, _, _, h | .tsub _ _, _, _, _, _, _, _, _, h | .sseq _, _, _, _, _, _, _, _, h | .srng _, _, _, _, _, _, _, _, h | .senum _, _, _, _, _, _, _, _, h | .asg _ _, _, _, _, _, _, _, _, h | .par _ _ _, _, _, _, _, _, _, _, h | .frz _, _, _, _, _, _, _, _, h | .slc _ _ _, _, _, _, _, _, _, _, h | .exs _, _, _, _, _, _, _, _, h | .lrng1 _, _, _, _, _, _, _, _, h | .lrng2 _ _, _, _, _, _, _, _, _, h | .ixm _ _, _, _, _, _, _, _, _, h | .par3 _ _ _ _, _, _, _, _, _, _, _, h | .ret _, _, _, _, _, _, _, _, h | .retN, _, _, _, _, _, _, _, h | .cond _ _ _, _, _, _, _, _, _, _, h | .for_ _ _ _, _, _, _, _, _, _, _, h | .whl _ _, _, _, _, _, _, _, _, h | .brk, _, _, _, _, _, _, _, h | .cnt, _, _, _, _, _, _, _, h | .pass, _, _, _, _, _, _, _, h => Bool.noConfusion (show false = true from h)
theorem sdA : ∀ (c : C) {X : Cx} {sc : Scope} {fb : Str → Bool} {es : List Expr}, GX N nm Φ k X sc fb → chkA N nm c sc fb es = true → SA X Φ wf es c
  | .nil, X, sc, fb, es, g, h => by
    simp only [chkA] at h
    have := empty_ok h
    subst this
    exact sa_nil
  | .cons a r, X, sc, fb, es, g, h => by
    simp only [chkA] at h
    obtain ⟨⟨e, es'⟩, e1, h⟩ := optB_ok h
    have := hdc_ok e1
    subst this
    obtain ⟨h1, h2⟩ := and2 h
    exact sa_cons (sdE a g h1) (sdA r g h2)
  | .var _, _, _, _, _, _, h | .fz _, _, _, _, _, _, h | .mv _, _, _, _, _, _, h | .non, _, _, _, _, _, h | .bl _, _, _, _, _, _, h | .int _, _, _, _, _, _, h | .str _, _, _, _, _, _, h | .bin _ _ _, _, _, _, _, _, h | .neg _, _, _, _, _, _, h | .not _, _, _, _, _, _, h | .cmp _ _ _, _, _, _, _, _, h | .chn _ _ _ _ _, _, _, _, _, _, h | .and _ _, _, _, _, _, _, h | .or _ _, _, _, _, _, _, h | .ite _ _ _, _, _, _, _, _, h | .one _, _, _, _, _, _, h | .tst _, _, _, _, _, _, h | .tup _, _, _, _, _, _, h | .lst _, _, _, _, _, _, h | .idx _ _, _, _, _, _, _, h | .isi _ _, _, _, _, _, _, h | .call _ _, _, _, _, _, _, h | .blt _ _, _, _, _, _, _, h | .mut _ _ _, _, _, _, _, _, h | .comp _ _ _ _ _, _, _, _, _, _, h | .tnm _, _, _, _, _, _, h | .ttup _, _, _, _, _, _, h | .tsub _ _, _, _, _, _, _, h | .sseq _, _, _, _, _, _, h | .srng _, _, _, _, _, _, h | .senum _, _, _, _, _, _, h | .asg _ _, _, _, _, _, _, h | .par _ _ _, _, _, _, _, _, h | .frz _, _, _, _, _, _, h | .slc _ _ _, _, _, _, _, _, h | .exs _, _, _, _, _, _, h | .lrng1 _, _, _, _, _, _, h | .lrng2 _ _, _, _, _, _, _, h | .ixm _ _, _, _, _, _, _, h | .par3 _ _ _ _, _, _, _, _, _, h | .ret _, _, _, _, _, _, h | .retN, _, _, _, _, _, h | .cond _ _ _, _, _, _, _, _, h | .for_ _ _ _, _, _, _, _, _, h | .whl _ _, _, _, _, _, _, h | .brk, _, _, _, _, _, h | .cnt, _, _, _, _, _, h | .pass, _, _, _, _, _, h => Bool.noConfusion (show false = true from h)
theorem sdT : ∀ (c : C) {X : Cx} {sc : Scope} {fb : Str → Bool} {e : Expr}, GX N nm Φ k X sc fb → chkT N nm c sc fb e = true → ST X Φ wf e c
  | .not a, X, sc, fb, e, g, h => by
    simp only [chkT] at h
    obtain ⟨⟨o', a'⟩, e1, h⟩ := optB_ok h
    obtain ⟨p, rfl⟩ := asUn_ok e1
    obtain ⟨h1, h2⟩ := and2 h
    have := of_decide_eq_true h1
    subst this
    exact st_not (sdT a g h2)
  | .and a b, X, sc, fb, e, g, h => by
    simp only [chkT] at h
    obtain ⟨⟨o', a', b', r⟩, e1, h⟩ := optB_ok h
    obtain ⟨p, rfl⟩ := asBool_ok e1
    obtain ⟨h, h3⟩ := and2 h
    obtain ⟨h1, h2⟩ := and2 h
    have := of_decide_eq_true h1
    subst this
    exact (sw_and (sdT a g h2) (sdW b g h3)).pt
  | .or a b, X, sc, fb, e, g, h => by
    simp only [chkT] at h
    obtain ⟨⟨o', a', b', r⟩, e1, h⟩ := optB_ok h
    obtain ⟨p, rfl⟩ := asBool_ok e1
    obtain ⟨h, h3⟩ := and2 h
    obtain ⟨h1, h2⟩ := and2 h
    have := of_decide_eq_true h1
    subst this
    exact (sw_or (sdT a g h2) (sdW b g h3)).pt
  | .cmp o a b, X, sc, fb, e, g, h => by
    simp only [chkT] at h
    obtain ⟨⟨o', a', b'⟩, e1, h⟩ := optB_ok h
    obtain ⟨p, rfl⟩ := asCmp1_ok e1
    obtain ⟨h, h3⟩ := and2 h
    obtain ⟨h1, h2⟩ := and2 h
    have := of_decide_eq_true h1
    subst this
    exact st_cmp g.hu (sdE a g h2) (sdE b g h3)
  | .chn o1 o2 a b c, X, sc, fb, e, g, h => by
    simp only [chkT] at h
    obtain ⟨⟨o1', o2', a', b', c'⟩, e1, h⟩ := optB_ok h
    obtain ⟨p, rfl⟩ := asCmp2_ok e1
    obtain ⟨h, h5⟩ := and2 h
    obtain ⟨h, h4⟩ := and2 h
    obtain ⟨h, h3⟩ := and2 h
    obtain ⟨h1, h2⟩ := and2 h
    have := of_decide_eq_true h1
    subst this
    have := of_decide_eq_true h2
    subst this
    exact st_chn g.hu (sdE a g h3) (sdE b g h4) (sdE c g h5)
  | .tst a, X, sc, fb, e, g, h => by
    simp only [chkT] at h
    obtain ⟨h1, h2⟩ := and2 h
    exact st_tst (sdE a g h2) (plainT_ok h1 X.env)
  | .var _, _, _, _, _, _, h | .fz _, _, _, _, _, _, h | .mv _, _, _, _, _, _, h | .non, _, _, _, _, _, h | .bl _, _, _, _, _, _, h | .int _, _, _, _, _, _, h | .str _, _, _, _, _, _, h | .bin _ _ _, _, _, _, _, _, h | .neg _, _, _, _, _, _, h | .ite _ _ _, _, _, _, _, _, h | .one _, _, _, _, _, _, h | .tup _, _, _, _, _, _, h | .lst _, _, _, _, _, _, h | .idx _ _, _, _, _, _, _, h | .isi _ _, _, _, _, _, _, h | .call _ _, _, _, _, _, _, h | .blt _ _, _, _, _, _, _, h | .mut _ _ _, _, _, _, _, _, h | .comp _ _ _ _ _, _, _, _, _, _, h | .nil, _, _, _, _, _, h | .cons _ _, _, _, _, _, _, h | .tnm _, _, _, _, _, _, h | .ttup _, _, _, _, _, _, h | .tsub _ _, _, _, _, _, _, h | .sseq _, _, _, _, _, _, h | .srng _, _, _, _, _, _, h | .senum _, _, _, _, _, _, h | .asg _ _, _, _, _, _, _, h | .par _ _ _, _, _, _, _, _, h | .frz _, _, _, _, _, _, h | .slc _ _ _, _, _, _, _, _, h | .exs _, _, _, _, _, _, h | .lrng1 _, _, _, _, _, _, h | .lrng2 _ _, _, _, _, _, _, h | .ixm _ _, _, _, _, _, _, h | .par3 _ _ _ _, _, _, _, _, _, h | .ret _, _, _, _, _, _, h | .retN, _, _, _, _, _, h | .cond _ _ _, _, _, _, _, _, h | .for_ _ _ _, _, _, _, _, _, h | .whl _ _, _, _, _, _, _, h | .brk, _, _, _, _, _, h | .cnt, _, _, _, _, _, h | .pass, _, _, _, _, _, h => Bool.noConfusion (show false = true from h)
theorem sdW : ∀ (c : C) {X : Cx} {sc : Scope} {fb : Str → Bool} {o : BoolOp} {es : List Expr} {pos : Pos}, GX N nm Φ k X sc fb → chkW N nm c sc fb o es = true → SW X Φ wf (.BoolOp o es pos) c
  | .one a, X, sc, fb, o, es, pos, g, h => by
    simp only [chkW] at h
    obtain ⟨e, e1, h⟩ := optB_ok h
    have := hd1_ok e1
    subst this
    cases o with
    | And => exact sw_and1 (one_T (sdT a g h))
    | Or => exact sw_or1 (one_T (sdT a g h))
  | .and a b, X, sc, fb, o, es, pos, g, h => by
    simp only [chkW] at h
    obtain ⟨⟨a', b', r⟩, e1, h⟩ := optB_ok h
    have := hdcc_ok e1
    subst this
    obtain ⟨h, h3⟩ := and2 h
    obtain ⟨h1, h2⟩ := and2 h
    have := of_decide_eq_true h1
    subst this
    exact sw_and (sdT a g h2) (sdW b g h3)
  | .or a b, X, sc, fb, o, es, pos, g, h => by
    simp only [chkW] at h
    obtain ⟨⟨a', b', r⟩, e1, h⟩ := optB_ok h
    have := hdcc_ok e1
    subst this
    obtain ⟨h, h3⟩ := and2 h
    obtain ⟨h1, h2⟩ := and2 h
    have := of_decide_eq_true h1
    subst this
    exact sw_or (sdT a g h2) (sdW b g h3)
  | .var _, _, _, _, _, _, _, _, h | .fz _, _, _, _, _, _, _, _, h | .mv _, _, _, _, _, _, _, _, h | .non, _, _, _, _, _, _, _, h | .bl _, _, _, _, _, _, _, _, h | .int _, _, _, _, _, _, _, _, h | .str _, _, _, _, _, _, _, _, h | .bin _ _ _, _, _, _, _, _, _, _, h | .neg _, _, _, _, _, _, _, _, h | .not _, _, _, _, _, _, _, _, h | .cmp _ _ _, _, _, _, _, _, _, _, h | .chn _ _ _ _ _, _, _, _, _, _, _, _, h | .ite _ _ _, _, _, _, _, _, _, _, h | .tst _, _, _, _, _, _, _, _, h | .tup _, _, _, _, _, _, _, _, h | .lst _, _, _, _, _, _, _, _, h | .idx _ _, _, _, _, _, _, _, _, h | .isi _ _, _, _, _, _, _, _, _, h | .call _ _, _, _, _, _, _, _, _, h | .blt _ _, _, _, _, _, _, _, _, h | .mut _ _ _, _, _, _, _, _, _, _, h | .comp _ _ _ _ _, _, _, _, _, _, _, _, h | .nil, _, _, _, _, _, _, _, h | .cons _ _, _, _, _, _, _, _, _, h | .tnm _, _, _, _, _, _, _, _, h | .ttup _, _, _, _, _, _, _, _, h | .tsub _ _, _, _, _, _, _, _, _, h | .sseq _, _, _, _, _, _, _, _, h | .srng _, _, _, _, _, _, _, _, h | .senum _, _, _, _, _, _, _, _, h | .asg _ _, _, _, _, _, _, _, _, h | .par _ _ _, _, _, _, _, _, _, _, h | .frz _, _, _, _, _, _, _, _, h | .slc _ _ _, _, _, _, _, _, _, _, h | .exs _, _, _, _, _, _, _, _, h | .lrng1 _, _, _, _, _, _, _, _, h | .lrng2 _ _, _, _, _, _, _, _, _, h | .ixm _ _, _, _, _, _, _, _, _, h | .par3 _ _ _ _, _, _, _, _, _, _, _, h | .ret _, _, _, _, _, _, _, _, h | .retN, _, _, _, _, _, _, _, h | .cond _ _ _, _, _, _, _, _, _, _, h | .for_ _ _ _, _, _, _, _, _, _, _, h | .whl _ _, _, _, _, _, _, _, _, h | .brk, _, _, _, _, _, _, _, h | .cnt, _, _, _, _, _, _, _, h | .pass, _, _, _, _, _, _, _, h => Bool.noConfusion (show false = true from h)
theorem sdC : ∀ (c : C) {X : Cx} {sc : Scope} {fb : Str → Bool} {es : List Expr}, GX N nm Φ k X sc fb → chkC N nm c sc fb es = true → PTs X es (tT X.K Φ wf c)
  | .bl b, X, sc, fb, es, g, h => by
    simp only [chkC] at h
    obtain ⟨h1, h2⟩ := and2 h
    have := empty_ok h2
    subst this
    subst h1
    exact pts_nil_c
  | .one a, X, sc, fb, es, g, h => by
    simp only [chkC] at h
    obtain ⟨e, e1, h⟩ := optB_ok h
    have := hd1_ok e1
    subst this
    exact cond_one (sdT a g h)
  | .var _, _, _, _, _, _, h | .fz _, _, _, _, _, _, h | .mv _, _, _, _, _, _, h | .non, _, _, _, _, _, h | .int _, _, _, _, _, _, h | .str _, _, _, _, _, _, h | .bin _ _ _, _, _, _, _, _, h | .neg _, _, _, _, _, _, h | .not _, _, _, _, _, _, h | .cmp _ _ _, _, _, _, _, _, h | .chn _ _ _ _ _, _, _, _, _, _, h | .and _ _, _, _, _, _, _, h | .or _ _, _, _, _, _, _, h | .ite _ _ _, _, _, _, _, _, h | .tst _, _, _, _, _, _, h | .tup _, _, _, _, _, _, h | .lst _, _, _, _, _, _, h | .idx _ _, _, _, _, _, _, h | .isi _ _, _, _, _, _, _, h | .call _ _, _, _, _, _, _, h | .blt _ _, _, _, _, _, _, h | .mut _ _ _, _, _, _, _, _, h | .comp _ _ _ _ _, _, _, _, _, _, h | .nil, _, _, _, _, _, h | .cons _ _, _, _, _, _, _, h | .tnm _, _, _, _, _, _, h | .ttup _, _, _, _, _, _, h | .tsub _ _, _, _, _, _, _, h | .sseq _, _, _, _, _, _, h | .srng _, _, _, _, _, _, h | .senum _, _, _, _, _, _, h | .asg _ _, _, _, _, _, _, h | .par _ _ _, _, _, _, _, _, h | .frz _, _, _, _, _, _, h | .slc _ _ _, _, _, _, _, _, h | .exs _, _, _, _, _, _, h | .lrng1 _, _, _, _, _, _, h | .lrng2 _ _, _, _, _, _, _, h | .ixm _ _, _, _, _, _, _, h | .par3 _ _ _ _, _, _, _, _, _, h | .ret _, _, _, _, _, _, h | .retN, _, _, _, _, _, h | .cond _ _ _, _, _, _, _, _, h | .for_ _ _ _, _, _, _, _, _, h | .whl _ _, _, _, _, _, _, h | .brk, _, _, _, _, _, h | .cnt, _, _, _, _, _, h | .pass, _, _, _, _, _, h => Bool.noConfusion (show false = true from h)
theorem sdG : ∀ (c : C) {X : Cx} {sc : Scope} {fb : Str → Bool} {e : Expr}, GX N nm Φ k X sc fb → chkG N nm c sc fb e = true → PG X e (tG X.K Φ wf c)
  | .tnm i, X, sc, fb, e, g, h => by
    simp only [chkG] at h
    obtain ⟨x, e1, h⟩ := optB_ok h
    obtain ⟨p, rfl⟩ := asName_ok e1
    obtain ⟨h1, h2⟩ := and2 h
    obtain ⟨q1, q2⟩ := g.loc h2
    exact sg_name (by rw [g.hN]; exact g.nd) (by rw [g.hN]; exact of_decide_eq_true h1) q1 q2
  | .ttup ts, X, sc, fb, e, g, h => by
    simp only [chkG] at h
    obtain ⟨es, e1, h⟩ := optB_ok h
    obtain ⟨kk, p, rfl⟩ := asTup_ok e1
    obtain ⟨q1, q2⟩ := asg_eachs (env := X.env) ts h
    exact sg_tup g.calm (sdGs ts g h) q1 q2 (gs_len ts h)
  | .tsub i kk, X, sc, fb, e, g, h => by
    simp only [chkG] at h
    obtain ⟨⟨x, b⟩, e1, h⟩ := optB_ok h
    obtain ⟨p, p2, rfl⟩ := asSubN_ok e1
    obtain ⟨h1, h2⟩ := and2 h
    obtain ⟨q1, q2, q3, q4⟩ := g.name h1
    have hs := sdE kk g h2
    refine sg_sub q1 q2 q3 q4 hs (fun v => ?_)
    cases b with
    | Slice lo hi st p => exact (no_slice h2).elim
    | _ => rfl
  | .var _, _, _, _, _, _, h | .fz _, _, _, _, _, _, h | .mv _, _, _, _, _, _, h | .non, _, _, _, _, _, h | .bl _, _, _, _, _, _, h | .int _, _, _, _, _, _, h | .str _, _, _, _, _, _, h | .bin _ _ _, _, _, _, _, _, h | .neg _, _, _, _, _, _, h | .not _, _, _, _, _, _, h | .cmp _ _ _, _, _, _, _, _, h | .chn _ _ _ _ _, _, _, _, _, _, h | .and _ _, _, _, _, _, _, h | .or _ _, _, _, _, _, _, h | .ite _ _ _, _, _, _, _, _, h | .one _, _, _, _, _, _, h | .tst _, _, _, _, _, _, h | .tup _, _, _, _, _, _, h | .lst _, _, _, _, _, _, h | .idx _ _, _, _, _, _, _, h | .isi _ _, _, _, _, _, _, h | .call _ _, _, _, _, _, _, h | .blt _ _, _, _, _, _, _, h | .mut _ _ _, _, _, _, _, _, h | .comp _ _ _ _ _, _, _, _, _, _, h | .nil, _, _, _, _, _, h | .cons _ _, _, _, _, _, _, h | .sseq _, _, _, _, _, _, h | .srng _, _, _, _, _, _, h | .senum _, _, _, _, _, _, h | .asg _ _, _, _, _, _, _, h | .par _ _ _, _, _, _, _, _, h | .frz _, _, _, _, _, _, h | .slc _ _ _, _, _, _, _, _, h | .exs _, _, _, _, _, _, h | .lrng1 _, _, _, _, _, _, h | .lrng2 _ _, _, _, _, _, _, h | .ixm _ _, _, _, _, _, _, h | .par3 _ _ _ _, _, _, _, _, _, h | .ret _, _, _, _, _, _, h | .retN, _, _, _, _, _, h | .cond _ _ _, _, _, _, _, _, h | .for_ _ _ _, _, _, _, _, _, h | .whl _ _, _, _, _, _, _, h | .brk, _, _, _, _, _, h | .cnt, _, _, _, _, _, h | .pass, _, _, _, _, _, h => Bool.noConfusion (show false = true from h)
theorem sdGs : ∀ (c : C) {X : Cx} {sc : Scope} {fb : Str → Bool} {es : List Expr}, GX N nm Φ k X sc fb → chkGs N nm c sc fb es = true → PGs X es (tGs X.K Φ wf c)
  | .nil, X, sc, fb, es, g, h => by
    simp only [chkGs] at h
    have := empty_ok h
    subst this
    exact sgs_nil
  | .cons a r, X, sc, fb, es, g, h => by
    simp only [chkGs] at h
    obtain ⟨⟨e, es'⟩, e1, h⟩ := optB_ok h
    have := hdc_ok e1
    subst this
    obtain ⟨h1, h2⟩ := and2 h
    exact sgs_cons (sdG a g h1) (sdGs r g h2) (by rw [asg_each h1]; rfl)
  | .var _, _, _, _, _, _, h | .fz _, _, _, _, _, _, h | .mv _, _, _, _, _, _, h | .non, _, _, _, _, _, h | .bl _, _, _, _, _, _, h | .int _, _, _, _, _, _, h | .str _, _, _, _, _, _, h | .bin _ _ _, _, _, _, _, _, h | .neg _, _, _, _, _, _, h | .not _, _, _, _, _, _, h | .cmp _ _ _, _, _, _, _, _, h | .chn _ _ _ _ _, _, _, _, _, _, h | .and _ _, _, _, _, _, _, h | .or _ _, _, _, _, _, _, h | .ite _ _ _, _, _, _, _, _, h | .one _, _, _, _, _, _, h | .tst _, _, _, _, _, _, h | .tup _, _, _, _, _, _, h | .lst _, _, _, _, _, _, h | .idx _ _, _, _, _, _, _, h | .isi _ _, _, _, _, _, _, h | .call _ _, _, _, _, _, _, h | .blt _ _, _, _, _, _, _, h | .mut _ _ _, _, _, _, _, _, h | .comp _ _ _ _ _, _, _, _, _, _, h | .tnm _, _, _, _, _, _, h | .ttup _, _, _, _, _, _, h | .tsub _ _, _, _, _, _, _, h | .sseq _, _, _, _, _, _, h | .srng _, _, _, _, _, _, h | .senum _, _, _, _, _, _, h | .asg _ _, _, _, _, _, _, h | .par _ _ _, _, _, _, _, _, h | .frz _, _, _, _, _, _, h | .slc _ _ _, _, _, _, _, _, h | .exs _, _, _, _, _, _, h | .lrng1 _, _, _, _, _, _, h | .lrng2 _ _, _, _, _, _, _, h | .ixm _ _, _, _, _, _, _, h | .par3 _ _ _ _, _, _, _, _, _, h | .ret _, _, _, _, _, _, h | .retN, _, _, _, _, _, h | .cond _ _ _, _, _, _, _, _, h | .for_ _ _ _, _, _, _, _, _, h | .whl _ _, _, _, _, _, _, h | .brk, _, _, _, _, _, h | .cnt, _, _, _, _, _, h | .pass, _, _, _, _, _, h => Bool.noConfusion (show false = true from h)
theorem sdI : ∀ (c : C) {X : Cx} {sc : Scope} {fb : Str → Bool} {e tg : Expr}, GX N nm Φ k X sc fb → chkI N nm c sc fb e tg = true → SI X Φ wf tg e c
  | .sseq a, X, sc, fb, e, tg, g, h => by
    simp only [chkI] at h
    have q := sdE a g h
    exact ⟨si_seq q, q.pl.fs⟩
  | .srng es, X, sc, fb, e, tg, g, h => by
    simp only [chkI] at h
    obtain ⟨⟨x, es'⟩, e1, h⟩ := optB_ok h
    obtain ⟨p, p2, rfl⟩ := asCall_ok e1
    obtain ⟨h, h4⟩ := and2 h
    obtain ⟨h, h3⟩ := and2 h
    obtain ⟨h1, h2⟩ := and2 h
    have := of_decide_eq_true h1
    subst this
    exact ⟨si_rng (g.gl h2) (g.bn (by decide +kernel)) (sdA es g h4) (by simpa using h3) (a_len es h4), fun _ _ => rfl⟩
  | .senum a, X, sc, fb, e, tg, g, h => by
    simp only [chkI] at h
    obtain ⟨⟨x, es'⟩, e1, h'⟩ := optB_ok h
    clear h
    obtain ⟨e', e2, h⟩ := optB_ok h'
    clear h'
    obtain ⟨p, p2, rfl⟩ := asCall_ok e1
    have := hd1_ok e2
    subst this
    obtain ⟨h, h4⟩ := and2 h
    obtain ⟨h, h3⟩ := and2 h
    obtain ⟨h1, h2⟩ := and2 h
    have := of_decide_eq_true h1
    subst this
    cases tg <;> first | (cases h3; done) | skip
    exact ⟨si_enum (g.gl h2) (g.bn (by decide +kernel)) (sdE a g h4), fun _ _ => rfl⟩
  | .var _, _, _, _, _, _, _, h | .fz _, _, _, _, _, _, _, h | .mv _, _, _, _, _, _, _, h | .non, _, _, _, _, _, _, h | .bl _, _, _, _, _, _, _, h | .int _, _, _, _, _, _, _, h | .str _, _, _, _, _, _, _, h | .bin _ _ _, _, _, _, _, _, _, h | .neg _, _, _, _, _, _, _, h | .not _, _, _, _, _, _, _, h | .cmp _ _ _, _, _, _, _, _, _, h | .chn _ _ _ _ _, _, _, _, _, _, _, h | .and _ _, _, _, _, _, _, _, h | .or _ _, _, _, _, _, _, _, h | .ite _ _ _, _, _, _, _, _, _, h | .one _, _, _, _, _, _, _, h | .tst _, _, _, _, _, _, _, h | .tup _, _, _, _, _, _, _, h | .lst _, _, _, _, _, _, _, h | .idx _ _, _, _, _, _, _, _, h | .isi _ _, _, _, _, _, _, _, h | .call _ _, _, _, _, _, _, _, h | .blt _ _, _, _, _, _, _, _, h | .mut _ _ _, _, _, _, _, _, _, h | .comp _ _ _ _ _, _, _, _, _, _, _, h | .nil, _, _, _, _, _, _, h | .cons _ _, _, _, _, _, _, _, h | .tnm _, _, _, _, _, _, _, h | .ttup _, _, _, _, _, _, _, h | .tsub _ _, _, _, _, _, _, _, h | .asg _ _, _, _, _, _, _, _, h | .par _ _ _, _, _, _, _, _, _, h | .frz _, _, _, _, _, _, _, h | .slc _ _ _, _, _, _, _, _, _, h | .exs _, _, _, _, _, _, _, h | .lrng1 _, _, _, _, _, _, _, h | .lrng2 _ _, _, _, _, _, _, _, h | .ixm _ _, _, _, _, _, _, _, h | .par3 _ _ _ _, _, _, _, _, _, _, h | .ret _, _, _, _, _, _, _, h | .retN, _, _, _, _, _, _, h | .cond _ _ _, _, _, _, _, _, _, h | .for_ _ _ _, _, _, _, _, _, _, h | .whl _ _, _, _, _, _, _, _, h | .brk, _, _, _, _, _, _, h | .cnt, _, _, _, _, _, _, h | .pass, _, _, _, _, _, _, h => Bool.noConfusion (show false = true from h)
end
end
end Co

set_option maxRecDepth 100000
set_option maxHeartbeats 4000000
/-! CoreE: statements, defs, programs -/
namespace Co
open PySem PySem.Spec PyProof.Rows L2

theorem asAsg_ok {s : Stmt} {tg v : Expr} (h : asAsg s = some (tg, v)) : ∃ p, s = .Assign [tg] v p := by
  cases s <;> first | (cases h; done) | skip
  rename_i ts v' p
  rcases ts with _ | ⟨t, _ | ⟨t2, r⟩⟩ <;> first | (cases h; done) | skip
  cases h; exact ⟨_, rfl⟩
theorem asExp_ok {s : Stmt} {v : Expr} (h : asExp s = some v) : ∃ p, s = .Expr v p := by
  cases s <;> first | (cases h; done) | skip
  cases h; exact ⟨_, rfl⟩
theorem asRet_ok {s : Stmt} {v : Option Expr} (h : asRet s = some v) : ∃ p, s = .Return v p := by
  cases s <;> first | (cases h; done) | skip
  cases h; exact ⟨_, rfl⟩
theorem asIfS_ok {s : Stmt} {c : Expr} {a b : List Stmt} (h : asIfS s = some (c, a, b)) : ∃ p, s = .If c a b p := by
  cases s <;> first | (cases h; done) | skip
  cases h; exact ⟨_, rfl⟩
theorem asFor_ok {s : Stmt} {tg it : Expr} {bs : List Stmt} (h : asFor s = some (tg, it, bs)) : ∃ p, s = .For tg it bs [] p := by
  cases s <;> first | (cases h; done) | skip
  rename_i t i b o p
  cases o <;> first | (cases h; done) | skip
  cases h; exact ⟨_, rfl⟩
theorem asWhile_ok {s : Stmt} {c : Expr} {bs : List Stmt} (h : asWhile s = some (c, bs)) : ∃ p, s = .While c bs [] p := by
  cases s <;> first | (cases h; done) | skip
  rename_i c b o p
  cases o <;> first | (cases h; done) | skip
  cases h; exact ⟨_, rfl⟩
theorem hdS_ok {es : List Stmt} {a : Stmt} {r : List Stmt} (h : hdS es = some (a, r)) : es = a :: r := by
  cases es with
  | nil => cases h
  | cons x y => cases h; rfl
theorem par_sw {x y : Str} {px py pt : Pos} {a b : Expr} {kt k2 pt2} {env : PySem.Env} (hk : env.scope.kind = .function) (hx : env.scope.names.lookup x = some .local) (hy : env.scope.names.lookup y = some .local) (hne : x ≠ y) (hl : (px.line == py.line) = true)
    (h1 : starE a = false) (h1b : starE b = false) (h2 : [a, b].all (foldedForSure 8) = false) (h3 : [a, b].all (constantsAlone 8) = false) : swappedStores [.Tuple [.Name x px, .Name y py] kt pt] (.Tuple [a, b] k2 pt2) env = pure (some [x, y]) := by
  have kx : env.kindOf x = some .local := hx
  have ky : env.kindOf y = some .local := hy
  have hb : env.blockKind = .function := by unfold Env.blockKind; rw [hk]; rfl
  have hl' : py.line = px.line := by simpa using (beq_iff_eq.mp hl).symm
  have nd : ([x, y] : List Str).eraseDups.length = 2 := by
    rw [List.eraseDups_cons, List.filter_cons_of_pos (by simpa using Ne.symm hne)]
    rfl
  unfold swappedStores
  simp only [hb, h2, h3, List.length_cons, List.length_nil, List.filterMap_cons, List.filterMap_nil, List.head?_cons, Option.map_some, Option.getD_some, Expr.pos, kx, ky, hl']
  simp [nd]
  rintro (q | q)
  · cases a <;> first | (cases q; done) | (cases h1; done)
  · cases b <;> first | (cases q; done) | (cases h1b; done)
theorem parB_ok {N : List Str} {sc : Scope} {i j : Nat} {tg v : Expr} (h : parB N sc i j tg v = true) : ∃ x y px py kt pt a b k2 pt2, tg = .Tuple [.Name x px, .Name y py] kt pt ∧ v = .Tuple [a, b] k2 pt2 ∧ N[i]? = some x ∧ N[j]? = some y ∧ i ≠ j ∧ x ≠ y ∧ sc.names.lookup x = some .local ∧ sc.names.lookup y = some .local ∧ sc.kind = .function ∧ (px.line == py.line) = true ∧
    starE a = false ∧ starE b = false ∧ [a, b].all (foldedForSure 8) = false ∧ [a, b].all (constantsAlone 8) = false := by
  unfold parB at h
  split at h
  · obtain ⟨h, h11⟩ := and2 h
    obtain ⟨h, h10⟩ := and2 h
    obtain ⟨h, h9b⟩ := and2 h
    obtain ⟨h, h9⟩ := and2 h
    obtain ⟨h, h8⟩ := and2 h
    obtain ⟨h, h7⟩ := and2 h
    obtain ⟨h, h6⟩ := and2 h
    obtain ⟨h, h5⟩ := and2 h
    obtain ⟨h, h4⟩ := and2 h
    obtain ⟨h, h3⟩ := and2 h
    obtain ⟨h1, h2⟩ := and2 h
    exact ⟨_, _, _, _, _, _, _, _, _, _, rfl, rfl, of_decide_eq_true h1, of_decide_eq_true h2, of_decide_eq_true h3, of_decide_eq_true h4, of_decide_eq_true h5, of_decide_eq_true h6, of_decide_eq_true h7, h8, (Bool.not_eq_true' _).mp h9, (Bool.not_eq_true' _).mp h9b, (Bool.not_eq_true' _).mp h10, (Bool.not_eq_true' _).mp h11⟩
  · cases h
theorem fold_ns {tg : Expr} {vs : List Expr} {k : Nat} {p : Pos} {env : PySem.Env} (h : foldT (.Tuple vs k p) = true) : swappedStores [tg] (.Tuple vs k p) env = pure none := by
  have hb : vs.all (foldedForSure 8) = true := h
  cases tg <;> first | rfl | skip
  all_goals
    unfold swappedStores
    simp only [hb, if_true]
    repeat' split
    all_goals rfl
theorem par_sw3 {x y z : Str} {px py pz pt : Pos} {a b c : Expr} {kt k2 pt2} {env : PySem.Env} (hk : env.scope.kind = .function) (hx : env.scope.names.lookup x = some .local) (hy : env.scope.names.lookup y = some .local) (hz : env.scope.names.lookup z = some .local) (n1 : x ≠ y) (n2 : x ≠ z) (n3 : y ≠ z) (hl : (px.line == py.line) = true) (hl2 : (px.line == pz.line) = true)
    (h1 : starE a = false) (h1b : starE b = false) (h1c : starE c = false) (h2 : [a, b, c].all (foldedForSure 8) = false) (h3 : [a, b, c].all (constantsAlone 8) = false) : swappedStores [.Tuple [.Name x px, .Name y py, .Name z pz] kt pt] (.Tuple [a, b, c] k2 pt2) env = pure (some [x, y, z]) := by
  have kx : env.kindOf x = some .local := hx
  have ky : env.kindOf y = some .local := hy
  have kz : env.kindOf z = some .local := hz
  have hb : env.blockKind = .function := by unfold Env.blockKind; rw [hk]; rfl
  have hl' : py.line = px.line := by simpa using (beq_iff_eq.mp hl).symm
  have hl2' : pz.line = px.line := by simpa using (beq_iff_eq.mp hl2).symm
  have nd : ([x, y, z] : List Str).eraseDups.length = 3 := by
    rw [List.eraseDups_cons, List.filter_cons_of_pos (by simpa using Ne.symm n1), List.filter_cons_of_pos (by simpa using Ne.symm n2), List.filter_nil, List.eraseDups_cons, List.filter_cons_of_pos (by simpa using Ne.symm n3)]
    rfl
  unfold swappedStores
  simp only [hb, h2, h3, List.length_cons, List.length_nil, List.filterMap_cons, List.filterMap_nil, List.head?_cons, Option.map_some, Option.getD_some, Expr.pos, kx, ky, kz, hl', hl2']
  simp [nd]
  rintro (q | q | q)
  · cases a <;> first | (cases q; done) | (cases h1; done)
  · cases b <;> first | (cases q; done) | (cases h1b; done)
  · cases c <;> first | (cases q; done) | (cases h1c; done)
theorem parB3_ok {N : List Str} {sc : Scope} {i j l : Nat} {tg v : Expr} (h : parB3 N sc i j l tg v = true) : ∃ x y z px py pz kt pt a b c k2 pt2, tg = .Tuple [.Name x px, .Name y py, .Name z pz] kt pt ∧ v = .Tuple [a, b, c] k2 pt2 ∧ N[i]? = some x ∧ N[j]? = some y ∧ N[l]? = some z ∧ i ≠ j ∧ i ≠ l ∧ j ≠ l ∧ x ≠ y ∧ x ≠ z ∧ y ≠ z ∧
    sc.names.lookup x = some .local ∧ sc.names.lookup y = some .local ∧ sc.names.lookup z = some .local ∧ sc.kind = .function ∧ (px.line == py.line) = true ∧ (px.line == pz.line) = true ∧
    starE a = false ∧ starE b = false ∧ starE c = false ∧ [a, b, c].all (foldedForSure 8) = false ∧ [a, b, c].all (constantsAlone 8) = false := by
  unfold parB3 at h
  split at h
  · obtain ⟨h, h20⟩ := and2 h
    obtain ⟨h, h19⟩ := and2 h
    obtain ⟨h, h18⟩ := and2 h
    obtain ⟨h, h17⟩ := and2 h
    obtain ⟨h, h16⟩ := and2 h
    obtain ⟨h, h15⟩ := and2 h
    obtain ⟨h, h14⟩ := and2 h
    obtain ⟨h, h13⟩ := and2 h
    obtain ⟨h, h12⟩ := and2 h
    obtain ⟨h, h11⟩ := and2 h
    obtain ⟨h, h10⟩ := and2 h
    obtain ⟨h, h9⟩ := and2 h
    obtain ⟨h, h8⟩ := and2 h
    obtain ⟨h, h7⟩ := and2 h
    obtain ⟨h, h6⟩ := and2 h
    obtain ⟨h, h5⟩ := and2 h
    obtain ⟨h, h4⟩ := and2 h
    obtain ⟨h, h3⟩ := and2 h
    obtain ⟨h1, h2⟩ := and2 h
    exact ⟨_, _, _, _, _, _, _, _, _, _, _, _, _, rfl, rfl, of_decide_eq_true h1, of_decide_eq_true h2, of_decide_eq_true h3, of_decide_eq_true h4, of_decide_eq_true h5, of_decide_eq_true h6, of_decide_eq_true h7, of_decide_eq_true h8, of_decide_eq_true h9, of_decide_eq_true h10, of_decide_eq_true h11, of_decide_eq_true h12, of_decide_eq_true h13, h14, h15, (Bool.not_eq_true' _).mp h16, (Bool.not_eq_true' _).mp h17, (Bool.not_eq_true' _).mp h18, (Bool.not_eq_true' _).mp h19, (Bool.not_eq_true' _).mp h20⟩
  · cases h
theorem lcLine_ok {N : List Str} {sc : Scope} {tg v : Expr} {t : C} (h : lcLine N sc tg v t = true) : ∃ y py elt gs scope pos i, tg = .Name y py ∧ v = .ListComp elt gs scope pos ∧ t = .tnm i ∧ N[i]? = some y ∧ sc.names.lookup y = some .local ∧ (py.line == pos.line) = true ∧ (scope.names.any fun (n, k) => n == y && (k == .local || k == .cell)) = false ∧ sc.kind = .function := by
  unfold lcLine at h
  split at h
  · obtain ⟨h, h5⟩ := and2 h
    obtain ⟨h, h4⟩ := and2 h
    obtain ⟨h, h3⟩ := and2 h
    obtain ⟨h1, h2⟩ := and2 h
    exact ⟨_, _, _, _, _, _, _, rfl, rfl, rfl, of_decide_eq_true h1, of_decide_eq_true h2, h3, by simpa using h4, of_decide_eq_true h5⟩
  · cases h

section
variable {N nm : List Str} {Φ : Nat → List Sl → Option (D × List Sl)} {wf k : Nat}
theorem isLC_as {v : Expr} (h : isLC v = true) : ∃ elt gs scope pos, v = .ListComp elt gs scope pos := by
  cases v <;> first | (cases h; done) | exact ⟨_, _, _, _, rfl⟩
theorem lc_chk {c : C} {X : Cx} {sc : Scope} {fb : Str → Bool} {elt : Expr} {gs : List Comprehension} {scope : Scope} {pos : Pos} (g : GX N nm Φ k X sc fb) (hc : isCompC c = true) (h : chkE N nm c sc fb (.ListComp elt gs scope pos) = true) : CompOk X Φ wf (.ListComp elt gs scope pos) c := by
  cases c with
  | comp celt ctg src cond own =>
    simp only [chkE] at h
    obtain ⟨⟨elt', tg', iter', ifs', scope'⟩, e1, h⟩ := optB_ok h
    obtain ⟨p, e2⟩ := asLC_ok e1
    obtain ⟨h, h7⟩ := and2 h
    obtain ⟨h, h6⟩ := and2 h
    obtain ⟨h, h5⟩ := and2 h
    obtain ⟨h, h4⟩ := and2 h
    obtain ⟨h, h3⟩ := and2 h
    obtain ⟨h1, h2⟩ := and2 h
    rw [e2]
    exact comp_mk g (sdI src g h1).pi h2 (of_decide_eq_true h3) h4 (fun s H C cl fp => sdG ctg (g.blk s H C cl fp) h5) (fun s H C cl fp => sdC cond (g.blk s H C cl fp) h6) (fun s H C cl fp => (sdE celt (g.blk s H C cl fp) h7).pe) ((sdI (wf := wf) src g h1).fs _)
  | _ => cases hc
theorem filt_lt {α β : Type} {f : α → Option β} : ∀ {l : List α}, (∃ a ∈ l, f a = none) → (l.filterMap f).length < l.length
  | [], h => by obtain ⟨a, ha, _⟩ := h; cases ha
  | a :: l, h => by
    cases e : f a with
    | none =>
      rw [List.filterMap_cons_none e, List.length_cons]
      have := List.length_filterMap_le f l
      omega
    | some b =>
      rw [List.filterMap_cons_some e, List.length_cons, List.length_cons]
      obtain ⟨x, hx, hn⟩ := h
      rcases List.mem_cons.mp hx with rfl | hx
      · rw [e] at hn; cases hn
      · have := filt_lt (l := l) ⟨x, hx, hn⟩
        omega
theorem mix_ns {tg : Expr} {vs : List Expr} {k : Nat} {p : Pos} {env : PySem.Env} (h : mixT env.scope tg = true) : swappedStores [tg] (.Tuple vs k p) env = pure none := by
  cases tg <;> first | (cases h; done) | skip
  rename_i ts kt pt
  have h : ts.any (mixN env.scope) = true := h
  obtain ⟨a, ha, hm⟩ := List.any_eq_true.mp h
  have hn : ∀ line : Nat, (match a with
    | .Name id pos => if env.kindOf id == some .local && pos.line == line then some id else none
    | _ => none) = none := by
    intro line
    cases a <;> first | (cases hm; done) | skip
    rename_i x px
    have hm : (!decide (env.scope.names.lookup x = some .local)) = true := hm
    have : (env.kindOf x == some .local) = false := by
      have q : ¬ env.scope.names.lookup x = some .local := by simpa using hm
      cases e : (env.kindOf x == some .local) with
      | false => rfl
      | true => exact absurd (beq_iff_eq.mp e) q
    show (if (env.kindOf x == some .local && px.line == line) = true then some x else none) = none
    rw [this]
    rfl
  unfold swappedStores
  simp only
  split
  · rfl
  · split
    · rfl
    · rw [if_pos]
      have := filt_lt (f := fun (e : Expr) => match e with
        | .Name id pos => if env.kindOf id == some .local && pos.line == ((ts.head?.map (·.pos.line)).getD 0) then some id else none
        | _ => none) (l := ts) ⟨a, ha, hn _⟩
      rw [Bool.or_eq_true]
      left
      simp only [bne_iff_ne, ne_eq]
      exact Nat.ne_of_lt this
theorem sw_cell {tg v : Expr} {l : Nat} {env : PySem.Env} (hv : isLC v = true) (h : lcCell env.scope tg = true) : swapsWith v (some tg) l env = pure false := by
  cases v <;> first | (cases hv; done) | skip
  cases tg <;> first | (cases h; done) | skip
  rename_i y py
  have h : (!decide (env.scope.names.lookup y = some .local)) = true := h
  have : (env.kindOf y == some .local) = false := by
    have q : ¬ env.scope.names.lookup y = some .local := by simpa using h
    cases e : (env.kindOf y == some .local) with
    | false => rfl
    | true => exact absurd (beq_iff_eq.mp e) q
  unfold swapsWith
  simp only [this, Bool.and_false, Bool.false_and]
theorem ns_lc {tg v : Expr} {env : PySem.Env} (hv : isLC v = true) : swappedStores [tg] v env = pure none := by
  cases v <;> first | (cases hv; done) | skip
  cases tg <;> rfl
theorem asg_ok {X : Cx} {sc : Scope} {fb : Str → Bool} {tg v : Expr} {t e : C} {pos : Pos} (g : GX N nm Φ k X sc fb) (h1 : chkG N nm t sc fb tg = true) (h2 : chkE N nm e sc fb v = true) (h3 : (if isLC v then (lcLine N sc tg v t && isCompC e || lcCell sc tg) else (!(tupleE v && (tupleE tg || listE tg)) || bigT tg || foldT v || mixT sc tg)) = true) : SS X Φ wf (.Assign [tg] v pos) (.asg t e) := by
  by_cases hv : isLC v = true
  · rw [if_pos hv] at h3
    rcases Bool.or_eq_true_iff.mp h3 with h3 | h3
    case inr =>
      have hs := sdE (wf := wf) e g h2
      have hg := sdG (wf := wf) t g h1
      have ha : (assignEach [tg] X.env).map (·.2) = [assign tg X.env] := by rw [asg_each h1]; rfl
      exact PS.weak (ps_asg hs.pe hg (sw_cell hv (by rw [g.sc]; exact h3)) (ns_lc hv) ha) fun D0 σ H h => asg_red h
    obtain ⟨h3, h9⟩ := and2 h3
    obtain ⟨y, py, elt, gs, scope, p, i, rfl, rfl, rfl, q1, q2, q3, q4, q5⟩ := lcLine_ok h3
    obtain ⟨elt', tg', iter', ifs', scope', pos', celt, ctg, csrc, ccond, own, e1, rfl, a1, a2, a3, a4, a5, a6, a7, a8⟩ := lc_chk (wf := wf) g h9 h2
    injection e1 with b1 b2 b3 b4
    subst b1 b2 b3 b4
    exact ss_setLc g.calm (by rw [g.hN]; exact g.nd) (by rw [g.hN]; exact q1) (by rw [g.sc]; exact q2) (sw_true (by rw [g.sc]; exact q5) (by rw [g.sc]; exact q2) q3 q4) a1 a2 a3 a4 a5 a6 a7 a8
  · rw [if_neg hv] at h3
    have hv : isLC v = false := by simpa using hv
    have hs := sdE (wf := wf) e g h2
    have hg := sdG (wf := wf) t g h1
    have ha : (assignEach [tg] X.env).map (·.2) = [assign tg X.env] := by rw [asg_each h1]; rfl
    by_cases ht : isTupE v = true
    · refine ss_asgT hs hv ?_ hg ha
      cases v <;> first | (cases ht; done) | skip
      rcases Bool.or_eq_true_iff.mp h3 with q3 | q3
      · clear h3
        cases tg <;> first | rfl | (cases q3; done) | exact fold_ns q3 | skip
        rcases Bool.or_eq_true_iff.mp q3 with hb | hb
        · rename_i elts _ _ ts _ _
          have hb : (!(ts.length == 2 || ts.length == 3)) = true := hb
          unfold swappedStores
          simp only [hb, Bool.true_or, if_true]
        · exact fold_ns hb
      · exact mix_ns (by rw [g.sc]; exact q3)
    · exact ss_asg hs hv (by simpa using ht) hg ha
set_option maxRecDepth 100000 in
mutual
theorem sdS : ∀ (c : C) {X : Cx} {sc : Scope} {fb : Str → Bool} {s : Stmt}, GX N nm Φ k X sc fb → chkS N nm c sc fb s = true → SS X Φ wf s c
  | .asg t e, X, sc, fb, s, g, h => by
    simp only [chkS] at h
    obtain ⟨⟨tg, v⟩, e1, h⟩ := optB_ok h
    obtain ⟨p, rfl⟩ := asAsg_ok e1
    obtain ⟨h, h3⟩ := and2 h
    obtain ⟨h1, h2⟩ := and2 h
    exact asg_ok g h1 h2 h3
  | .par i j es, X, sc, fb, s, g, h => by
    simp only [chkS] at h
    obtain ⟨⟨tg, v⟩, e1, h'⟩ := optB_ok h
    clear h
    obtain ⟨vs, e2, h⟩ := optB_ok h'
    clear h'
    obtain ⟨p, rfl⟩ := asAsg_ok e1
    obtain ⟨h1, h2⟩ := and2 h
    obtain ⟨x, y, px, py, kt, pt, a, b, k2, pt2, rfl, rfl, q1, q2, q3, q4, q5, q6, q7, q8, q9, q9b, q10, q11⟩ := parB_ok h1
    cases e2
    exact ss_par g.calm (by rw [g.hN]; exact g.nd) (by rw [g.hN]; exact q1) (by rw [g.hN]; exact q2) q3 (by rw [g.sc]; exact q5) (by rw [g.sc]; exact q6) (sdA es g h2) (par_sw (by rw [g.sc]; exact q7) (by rw [g.sc]; exact q5) (by rw [g.sc]; exact q6) q4 q8 q9 q9b q10 q11)
  | .par3 i j l es, X, sc, fb, s, g, h => by
    simp only [chkS] at h
    obtain ⟨⟨tg, v⟩, e1, h'⟩ := optB_ok h
    clear h
    obtain ⟨vs, e2, h⟩ := optB_ok h'
    clear h'
    obtain ⟨p, rfl⟩ := asAsg_ok e1
    obtain ⟨h1, h2⟩ := and2 h
    obtain ⟨x, y, z, px, py, pz, kt, pt, a, b, c, k2, pt2, rfl, rfl, q1, q2, q3, n1, n2, n3, n4, n5, n6, m1, m2, m3, hk, l1, l2, s1, s2, s3, t1, t2⟩ := parB3_ok h1
    cases e2
    exact ss_par3 g.calm (by rw [g.hN]; exact g.nd) (by rw [g.hN]; exact q1) (by rw [g.hN]; exact q2) (by rw [g.hN]; exact q3) n1 n2 n3 (by rw [g.sc]; exact m1) (by rw [g.sc]; exact m2) (by rw [g.sc]; exact m3) (sdA es g h2) (par_sw3 (by rw [g.sc]; exact hk) (by rw [g.sc]; exact m1) (by rw [g.sc]; exact m2) (by rw [g.sc]; exact m3) n4 n5 n6 l1 l2 s1 s2 s3 t1 t2)
  | .exs e, X, sc, fb, s, g, h => by
    simp only [chkS] at h
    obtain ⟨v, e1, h⟩ := optB_ok h
    obtain ⟨p, rfl⟩ := asExp_ok e1
    obtain ⟨h1, h2⟩ := and2 h
    exact ss_exs (sdE e g h2) (by simpa using h1)
  | .ret e, X, sc, fb, s, g, h => by
    simp only [chkS] at h
    obtain ⟨v, e1, h'⟩ := optB_ok h
    clear h
    obtain ⟨v', e2, h⟩ := optB_ok h'
    clear h'
    subst e2
    obtain ⟨p, rfl⟩ := asRet_ok e1
    exact ss_ret (sdE e g h)
  | .retN, X, sc, fb, s, g, h => by
    simp only [chkS] at h
    obtain ⟨v, e1, h⟩ := optB_ok h
    obtain ⟨p, rfl⟩ := asRet_ok e1
    cases v with
    | none => exact ss_retN
    | some v => cases h
  | .cond c a b, X, sc, fb, s, g, h => by
    simp only [chkS] at h
    obtain ⟨⟨c', a', b'⟩, e1, h⟩ := optB_ok h
    obtain ⟨p, rfl⟩ := asIfS_ok e1
    obtain ⟨h, h3⟩ := and2 h
    obtain ⟨h1, h2⟩ := and2 h
    exact ss_if (sdT c g h1) (sdB a g h2) (sdB b g h3)
  | .for_ t src body, X, sc, fb, s, g, h => by
    simp only [chkS] at h
    obtain ⟨⟨tg, it, bs⟩, e1, h⟩ := optB_ok h
    obtain ⟨p, rfl⟩ := asFor_ok e1
    obtain ⟨h, h3⟩ := and2 h
    obtain ⟨h1, h2⟩ := and2 h
    exact ss_for g.xe g.calm (sdI src g h2).pi (sdG t g h1) (sdB body g h3) ((sdI (wf := wf) src g h2).fs _)
  | .whl c body, X, sc, fb, s, g, h => by
    simp only [chkS] at h
    obtain ⟨⟨c', bs⟩, e1, h⟩ := optB_ok h
    obtain ⟨p, rfl⟩ := asWhile_ok e1
    obtain ⟨h1, h2⟩ := and2 h
    exact ss_while g.xe (sdT c g h1) (sdB body g h2)
  | .brk, X, sc, fb, s, g, h => by
    simp only [chkS] at h
    cases s <;> first | (cases h; done) | exact ss_brk
  | .cnt, X, sc, fb, s, g, h => by
    simp only [chkS] at h
    cases s <;> first | (cases h; done) | exact ss_cnt
  | .pass, X, sc, fb, s, g, h => by
    simp only [chkS] at h
    cases s <;> first | (cases h; done) | exact ss_pass
  | .var _, _, _, _, _, _, h | .fz _, _, _, _, _, _, h | .mv _, _, _, _, _, _, h | .non, _, _, _, _, _, h | .bl _, _, _, _, _, _, h | .int _, _, _, _, _, _, h | .str _, _, _, _, _, _, h | .bin _ _ _, _, _, _, _, _, h | .neg _, _, _, _, _, _, h | .not _, _, _, _, _, _, h | .cmp _ _ _, _, _, _, _, _, h | .chn _ _ _ _ _, _, _, _, _, _, h | .and _ _, _, _, _, _, _, h | .or _ _, _, _, _, _, _, h | .ite _ _ _, _, _, _, _, _, h | .one _, _, _, _, _, _, h | .tst _, _, _, _, _, _, h | .tup _, _, _, _, _, _, h | .lst _, _, _, _, _, _, h | .idx _ _, _, _, _, _, _, h | .isi _ _, _, _, _, _, _, h | .call _ _, _, _, _, _, _, h | .blt _ _, _, _, _, _, _, h | .mut _ _ _, _, _, _, _, _, h | .comp _ _ _ _ _, _, _, _, _, _, h | .nil, _, _, _, _, _, h | .cons _ _, _, _, _, _, _, h | .tnm _, _, _, _, _, _, h | .ttup _, _, _, _, _, _, h | .tsub _ _, _, _, _, _, _, h | .frz _, _, _, _, _, _, h | .lrng1 _, _, _, _, _, _, h | .lrng2 _ _, _, _, _, _, _, h | .ixm _ _, _, _, _, _, _, h | .slc _ _ _, _, _, _, _, _, h | .sseq _, _, _, _, _, _, h | .srng _, _, _, _, _, _, h | .senum _, _, _, _, _, _, h => Bool.noConfusion (show false = true from h)
theorem sdB : ∀ (c : C) {X : Cx} {sc : Scope} {fb : Str → Bool} {ss : List Stmt}, GX N nm Φ k X sc fb → chkB N nm c sc fb ss = true → SB X Φ wf ss c
  | .nil, X, sc, fb, ss, g, h => by
    simp only [chkB] at h
    have := empty_ok h
    subst this
    exact sb_nil
  | .cons a r, X, sc, fb, ss, g, h => by
    simp only [chkB] at h
    obtain ⟨⟨s, ss'⟩, e1, h⟩ := optB_ok h
    have := hdS_ok e1
    subst this
    obtain ⟨h1, h2⟩ := and2 h
    exact sb_cons (sdS a g h1) (sdB r g h2)
  | .var _, _, _, _, _, _, h | .fz _, _, _, _, _, _, h | .mv _, _, _, _, _, _, h | .non, _, _, _, _, _, h | .bl _, _, _, _, _, _, h | .int _, _, _, _, _, _, h | .str _, _, _, _, _, _, h | .bin _ _ _, _, _, _, _, _, h | .neg _, _, _, _, _, _, h | .not _, _, _, _, _, _, h | .cmp _ _ _, _, _, _, _, _, h | .chn _ _ _ _ _, _, _, _, _, _, h | .and _ _, _, _, _, _, _, h | .or _ _, _, _, _, _, _, h | .ite _ _ _, _, _, _, _, _, h | .one _, _, _, _, _, _, h | .tst _, _, _, _, _, _, h | .tup _, _, _, _, _, _, h | .lst _, _, _, _, _, _, h | .idx _ _, _, _, _, _, _, h | .isi _ _, _, _, _, _, _, h | .call _ _, _, _, _, _, _, h | .blt _ _, _, _, _, _, _, h | .mut _ _ _, _, _, _, _, _, h | .comp _ _ _ _ _, _, _, _, _, _, h | .tnm _, _, _, _, _, _, h | .ttup _, _, _, _, _, _, h | .tsub _ _, _, _, _, _, _, h | .sseq _, _, _, _, _, _, h | .srng _, _, _, _, _, _, h | .senum _, _, _, _, _, _, h | .asg _ _, _, _, _, _, _, h | .par _ _ _, _, _, _, _, _, h | .frz _, _, _, _, _, _, h | .slc _ _ _, _, _, _, _, _, h | .exs _, _, _, _, _, _, h | .lrng1 _, _, _, _, _, _, h | .lrng2 _ _, _, _, _, _, _, h | .ixm _ _, _, _, _, _, _, h | .par3 _ _ _ _, _, _, _, _, _, h | .ret _, _, _, _, _, _, h | .retN, _, _, _, _, _, h | .cond _ _ _, _, _, _, _, _, h | .for_ _ _ _, _, _, _, _, _, h | .whl _ _, _, _, _, _, _, h | .brk, _, _, _, _, _, h | .cnt, _, _, _, _, _, h | .pass, _, _, _, _, _, h => Bool.noConfusion (show false = true from h)
end
end
end Co

set_option maxRecDepth 100000
set_option maxHeartbeats 4000000
/-! CoreF: defs, programs -/
namespace Co
open PySem PySem.Spec PyProof.Rows L2

def scopeB (N ps : List Str) (sc : Scope) : Bool := decide (sc.kind = .function) && !sc.isCoroutine && !sc.isGenerator && decide N.Nodup && decide (N.take ps.length = ps) && ps.all (fun x => decide (sc.names.lookup x = some .local) || decide (sc.names.lookup x = some .cell)) && sc.names.all (fun y => decide (y.2 ≠ .free))
theorem scopeB_ok {N ps : List Str} {sc : Scope} (h : scopeB N ps sc = true) : FnScope N ps sc := by
  unfold scopeB at h
  obtain ⟨h, h7⟩ := and2 h
  obtain ⟨h, h6⟩ := and2 h
  obtain ⟨h, h5⟩ := and2 h
  obtain ⟨h, h4⟩ := and2 h
  obtain ⟨h, h3⟩ := and2 h
  obtain ⟨h1, h2⟩ := and2 h
  refine ⟨of_decide_eq_true h1, by simpa using h2, by simpa using h3, of_decide_eq_true h4, of_decide_eq_true h5, fun x hx => ?_, fun y hy => ?_⟩
  · have := List.all_eq_true.mp h6 x hx
    simpa [Bool.or_eq_true, decide_eq_true_eq] using this
  · exact of_decide_eq_true (List.all_eq_true.mp h7 y hy)
/-- a def's text against its core term -/
def chkD (nm : List Str) (N ps : List Str) (Fi : Fn) (scope : Scope) (body : List Stmt) : Bool := scopeB N ps scope && decide (Fi.np = ps.length) && decide (Fi.ns = N.length) && chkB N nm Fi.body scope (fun _ => true) body

section
variable {K : PySem.W.Frag} {F F' : Addr → Prop} {H H' : Hp}
theorem SR.pad : ∀ {as : List Sl} {σ : List (Option V)} {O : List Addr} (n : Nat), SR K F H as σ O → SR K F H (as ++ List.replicate n .no) (σ ++ List.replicate n none) O
  | [], σ, O, n, h => by
    obtain ⟨rfl, rfl⟩ := h
    induction n with
    | zero => exact ⟨rfl, rfl⟩
    | succ n ih => exact ⟨none, _, [], [], by rw [List.replicate_succ]; rfl, rfl, ih, rfl⟩
  | s :: as, σ, O, n, h => by
    obtain ⟨ov, σ', O1, O2, e, h1, h2, e2⟩ := h
    exact ⟨ov, _, O1, O2, by rw [e]; rfl, h1, SR.pad n h2, e2⟩
theorem outs_ok : ∀ {as ρ : List Sl} {ws σ : List (Option V)} {O : List Addr}, SR K F H ρ σ O → ws.length = as.length → as.length ≤ ρ.length →
    (∀ (i : Nat) (d : D), as[i]? = some (Sl.bo d) → (∃ d' : D, ρ[i]? = some (Sl.bo d')) ∧ σ[i]? = ws[i]?) → (∀ (i : Nat) (d : D), as[i]? = some (Sl.lk d) → ρ[i]? = some (Sl.lk d) ∧ σ[i]? = ws[i]?) →
    ∃ O2, SR K F H (outs as ρ) ws O2 ∧ O2.Sublist O ∧ Ko as (outs as ρ)
  | [], ρ, ws, σ, O, sr, hw, hl, hb, hk => by
    cases ws with
    | nil => exact ⟨[], ⟨rfl, rfl⟩, List.nil_sublist _, .nil⟩
    | cons a b => cases hw
  | a :: as, [], ws, σ, O, sr, hw, hl, hb, hk => by simp at hl
  | a :: as, s :: ρ, [], σ, O, sr, hw, hl, hb, hk => by cases hw
  | a :: as, s :: ρ, w :: ws, σ, O, sr, hw, hl, hb, hk => by
    obtain ⟨ov, σ', O1, O2, e, h1, h2, e2⟩ := sr
    subst e
    subst e2
    obtain ⟨O3, q1, q2, q3⟩ := outs_ok (as := as) (ws := ws) h2 (by simpa using hw) (by simpa using hl) (fun i d h => by simpa using hb (i + 1) d (by simpa using h)) (fun i d h => by simpa using hk (i + 1) d (by simpa using h))
    cases a with
    | no => exact ⟨O3, ⟨w, ws, [], O3, rfl, rfl, q1, rfl⟩, q2.trans (List.sublist_append_right _ _), .no q3⟩
    | v d => exact ⟨O3, ⟨w, ws, [], O3, rfl, rfl, q1, rfl⟩, q2.trans (List.sublist_append_right _ _), .v q3⟩
    | bo d =>
      obtain ⟨⟨d', z⟩, y⟩ := hb 0 d rfl
      have z : s = .bo d' := by simpa using z
      have y : ov = w := by simpa using y
      subst z y
      exact ⟨O1 ++ O3, ⟨ov, ws, O1, O3, rfl, h1, q1, rfl⟩, q2.append_left O1, .bo q3⟩
    | lk d =>
      obtain ⟨z, y⟩ := hk 0 d rfl
      have z : s = .lk d := by simpa using z
      have y : ov = w := by simpa using y
      subst z y
      exact ⟨O1 ++ O3, ⟨ov, ws, O1, O3, rfl, h1, q1, rfl⟩, q2.append_left O1, .lk q3⟩
theorem outs_all {as ρ : List Sl} {vs : List V} {n : Nat} {σ : L2.St} {O : List Addr} (sr : SR K F H ρ σ O) (hl : vs.length = as.length) (kp : Kp (as ++ List.replicate n .no) ρ) (ks : Ks (as ++ List.replicate n .no) (vs.map some ++ List.replicate n none) σ) :
    ∃ O2, SR K F H (outs as ρ) (vs.map some) O2 ∧ O2.Sublist O ∧ Ko as (outs as ρ) := by
  have hin : ∀ {i : Nat} {s : Sl}, as[i]? = some s → (as ++ List.replicate n .no)[i]? = some s := fun {i s} h => by
    rw [List.getElem?_append_left (List.getElem?_eq_some_iff.mp h).1]; exact h
  have hi2 : ∀ {i : Nat} {s : Sl}, as[i]? = some s → (vs.map some ++ List.replicate n (none : Option V))[i]? = (vs.map some)[i]? := fun {i s} h => by
    have := (List.getElem?_eq_some_iff.mp h).1
    rw [List.getElem?_append_left (by simp; omega)]
  refine outs_ok sr (by simpa using hl) (by rw [kp.len]; simp) (fun i d h => ?_) fun i d h => ?_
  · exact ⟨kp.bo i d (hin h), (ks i (.inl ⟨d, hin h⟩)).trans (hi2 h)⟩
  · exact ⟨kp.lk i d (hin h), (ks i (.inr ⟨d, hin h⟩)).trans (hi2 h)⟩
theorem Wd.sl {O O2 P : List Addr} (w : Wd F H (O ++ P)) (h : O2.Sublist O) : Wd F H (O2 ++ P) := w.sub (h.append (List.Sublist.refl P))
end

section
variable {P : Program} {w : World} {K : PySem.W.Frag} {mg : Str → Option Value} {base : Heap}
theorem spF_len {np ns : Nat} {body : C} {T : List Fn} {wf k f : Nat} {vs : List V} {H : Hp} {Q : VK} {E : XK} (hT : T[f]? = some ⟨np, ns, body⟩) (h : spF K (evF T wf k f) vs H Q E) : vs.length = np := by
  obtain ⟨F, as, O, d, os, sr, wd, e, _⟩ := h
  have := SR.length sr
  cases k with
  | zero => simp only [evF] at e; cases e
  | succ k =>
    simp only [evF] at e
    rw [hT] at e
    simp only at e
    split at e
    · rename_i hl
      rw [List.length_map] at this
      exact this.trans hl
    · cases e
theorem fn_step {nm : List Str} {T : List Fn} {wf k fi : Nat} {x qual : Str} {params : Arguments} {body : List Stmt} {scope : Scope} {dvs : List V} {kws : List (Str × V)} {f : Addr} {fd : FuncData} (F : FunD K x qual params body scope dvs kws f fd) {N ps : List Str} {Fi : Fn} (hT : T[fi]? = some Fi) (hc : chkD nm N ps Fi scope body = true)
    (hblt : ∀ x ∈ bltNames, mg x = none) (hd : ∀ j y, nm[j]? = some y → ∃ f fd ps, mg y = some (.ref f) ∧ FnOk P w K mg base CX0 (k + 1) f fd ps (spF K (evF T wf k j)) ∧ PySem.W.keepIn K (.ref f) = true ∧ Binds K fd ps []) :
    FnOk P w K mg base CX0 (k + 2) f fd ps (spF K (evF T wf (k + 1) fi)) := by
  obtain ⟨np, ns, bc⟩ := Fi
  unfold chkD at hc
  obtain ⟨hc, h4⟩ := and2 hc
  obtain ⟨hc, h3⟩ := and2 hc
  obtain ⟨h1, h2⟩ := and2 hc
  have S := scopeB_ok h1
  have h2 : np = ps.length := of_decide_eq_true h2
  have h3 : ns = N.length := of_decide_eq_true h3
  refine F.ok S (fun vs H Q E h => (spF_len hT h).trans h2) fun cdv A outer s H vs Q E hr hsp => ?_
  have g : GX N nm (evF T wf k) k (cxOf CX0 P w K mg base N qual scope f cdv A outer s H E).nox scope (fun _ => true) := ⟨rfl, rfl, rfl, rfl, S.nd, fun _ _ => rfl, hr, hblt, fun j y h => ⟨hd j y h⟩⟩
  refine ⟨_, (sdB (wf := wf) bc g h4).nox, ?_⟩
  obtain ⟨Fz, as, O, d, os, sr, wd, e, post⟩ := hsp
  simp only [evF] at e
  rw [hT] at e
  simp only at e
  split at e
  · rename_i hl
    have hvl : vs.length = as.length := by have := SR.length sr; simpa using this
    have est : L2.start N vs = vs.map some ++ List.replicate (ns - np) none := by
      unfold L2.start
      rw [h3, hvl, hl]
    have post2 : ∀ {ρ σ' F' H' O'}, SR K F' H' ρ σ' O' → Kp (as ++ List.replicate (ns - np) .no) ρ → Ks (as ++ List.replicate (ns - np) .no) (L2.start N vs) σ' → os = outs as ρ → ∃ O2, SR K F' H' os (vs.map some) O2 ∧ O2.Sublist O' ∧ Ko as os := by
      intro ρ σ' F' H' O' a b c e
      subst e
      rw [est] at c
      exact outs_all a hvl b c
    split at e
    · rename_i ρ eb
      cases e
      refine ⟨Fz, _, O, _, by rw [est]; exact SR.pad _ sr, wd, eb, fun σ' F' H' O' st sr' wd' kp ks => ?_⟩
      obtain ⟨O2, a, b, c⟩ := post2 sr' kp ks rfl
      refine post .non F' H' O2 [] (Stp.sub st fun x hx => ?_) a nonV (Wd.sl (nil_w wd') b) c
      rw [List.append_nil] at hx
      exact b.subset hx
    · rename_i dd ρ eb
      cases e
      refine ⟨Fz, _, O, _, by rw [est]; exact SR.pad _ sr, wd, eb, fun σ' v F' H' O' P st sr' vr wd' kp ks => ?_⟩
      obtain ⟨O2, a, b, c⟩ := post2 sr' kp ks rfl
      refine post v F' H' O2 P (Stp.sub st fun x hx => ?_) a vr (Wd.sl wd' b) c
      exact (b.append (List.Sublist.refl P)).subset hx
    · cases e
  · cases e
theorem fn_zero {nm : List Str} {T : List Fn} {wf fi : Nat} {x qual : Str} {params : Arguments} {body : List Stmt} {scope : Scope} {dvs : List V} {kws : List (Str × V)} {f : Addr} {fd : FuncData} (F : FunD K x qual params body scope dvs kws f fd) {N ps : List Str} {Fi : Fn} (hc : chkD nm N ps Fi scope body = true) :
    FnOk P w K mg base CX0 1 f fd ps (spF K (evF T wf 0 fi)) := by
  unfold chkD at hc
  obtain ⟨hc, h4⟩ := and2 hc
  obtain ⟨hc, h3⟩ := and2 hc
  obtain ⟨h1, h2⟩ := and2 hc
  have no : ∀ vs H Q E, ¬ spF K (evF T wf 0 fi) vs H Q E := fun vs H Q E h => by
    obtain ⟨Fz, as, O, d, os, sr, wd, e, post⟩ := h
    simp only [evF] at e
    cases e
  exact F.ok (scopeB_ok h1) (fun vs H Q E h => (no _ _ _ _ h).elim) fun cdv A outer s H vs Q E hr hsp => (no _ _ _ _ hsp).elim
/-- a def in the module -/
def InMod (K : PySem.W.Frag) (mg : Str → Option Value) (nm : List Str) (T : List Fn) (j : Nat) (y : Str) : Prop :=
  ∃ x qual params body scope dvs kws f fd N ps Fi, FunD K x qual params body scope dvs kws f fd ∧ T[j]? = some Fi ∧ chkD nm N ps Fi scope body = true ∧ mg y = some (.ref f) ∧ Binds K fd ps []
theorem prog_ok {nm : List Str} {T : List Fn} {wf : Nat} (hblt : ∀ x ∈ bltNames, mg x = none) (all : ∀ j y, nm[j]? = some y → InMod K mg nm T j y) : ∀ k j y, nm[j]? = some y → ∃ f fd ps, mg y = some (.ref f) ∧ FnOk P w K mg base CX0 (k + 1) f fd ps (spF K (evF T wf k j)) ∧ PySem.W.keepIn K (.ref f) = true ∧ Binds K fd ps []
  | 0, j, y, h => by
    obtain ⟨x, qual, params, body, scope, dvs, kws, f, fd, N, ps, Fi, F, hT, hc, hm, hb⟩ := all j y h
    exact ⟨f, fd, ps, hm, fn_zero F hc, F.kp, hb⟩
  | k + 1, j, y, h => by
    obtain ⟨x, qual, params, body, scope, dvs, kws, f, fd, N, ps, Fi, F, hT, hc, hm, hb⟩ := all j y h
    exact ⟨f, fd, ps, hm, fn_step F hT hc hblt (prog_ok hblt all k), F.kp, hb⟩
/-- the law's def -/
theorem law_ok {nm : List Str} {T : List Fn} {wf k fi : Nat} {x qual : Str} {params : Arguments} {body : List Stmt} {scope : Scope} {dvs : List V} {kws : List (Str × V)} {f : Addr} {fd : FuncData} (F : FunD K x qual params body scope dvs kws f fd) {N ps : List Str} {Fi : Fn} (hT : T[fi]? = some Fi) (hc : chkD nm N ps Fi scope body = true)
    (hblt : ∀ x ∈ bltNames, mg x = none) (all : ∀ j y, nm[j]? = some y → InMod K mg nm T j y)
    (h : ∀ (d : D) (ns : List Int), d = .ro (ns.map D.int) ∨ d = .lst (ns.map D.int) → ∃ os, evF T wf (k + 1) fi [.v d] = some (.bl true, os)) :
    FnOk P w K mg base CX0 (k + 2) f fd ps (fun vs H Q _ => ∃ (a : Addr) (ns : List Int), vs = [.ref a] ∧ SqL K H a (ns.map V.int) ∧ ∀ H', Q (.bl true) H') := by
  have FO := fn_step (P := P) (w := w) (base := base) F hT hc hblt (prog_ok (wf := wf) hblt all k)
  have sub : ∀ vs H Q E, (∃ (a : Addr) (ns : List Int), vs = [.ref a] ∧ SqL K H a (ns.map V.int) ∧ ∀ H', Q (.bl true) H') → spF K (evF T wf (k + 1) fi) vs H Q E := by
    rintro vs H Q E ⟨a, ns, rfl, hs, hq⟩
    have hv : ∀ (Fz : Addr → Prop) (ms : List Int), VRL K Fz H (ms.map D.int) (ms.map V.int) [] := by
      intro Fz ms
      induction ms with
      | nil => show VRL K Fz H [] [] []; unfold VRL; exact ⟨rfl, rfl⟩
      | cons m ms ih => simp only [List.map_cons, VRL]; exact ⟨.int m, ms.map V.int, [], [], rfl, by unfold VR; exact ⟨rfl, rfl⟩, ih, rfl⟩
    have fin : ∀ (Fz : Addr → Prop) (d : D), (d = .ro (ns.map D.int) ∨ d = .lst (ns.map D.int)) → (∀ b, Fz b → ∃ xs, H b = some (.lst xs)) → VR K Fz H d (.ref a) [] → spF K (evF T wf (k + 1) fi) [.ref a] H Q E := by
      intro Fz d hd hf hvr
      obtain ⟨os, e⟩ := h d ns hd
      refine ⟨Fz, [.v d], [], .bl true, os, ⟨some (.ref a), [], [], [], rfl, ⟨.ref a, rfl, hvr⟩, ⟨rfl, rfl⟩, rfl⟩, ⟨List.nodup_nil, fun _ z => (nomatch z), fun _ z => (nomatch z), hf⟩, e, fun v F' H' O' P _ _ vr _ _ => ?_⟩
      unfold VR at vr
      rw [vr.1]
      exact hq H'
    rcases hs with (hs | hs) | hs
    · refine fin (fun b => b = a) (.lst (ns.map D.int)) (.inr rfl) (fun b hb => ⟨ns.map V.int, (congrArg H hb).trans hs⟩) ?_
      unfold VR
      exact ⟨a, _, rfl, rfl, hs, hv _ _, rfl⟩
    · refine fin (fun _ => False) (.ro (ns.map D.int)) (.inl rfl) (fun b hb => hb.elim) ?_
      unfold VR
      exact ⟨a, _, rfl, .inl hs, hv _ _, rfl⟩
    · refine fin (fun _ => False) (.ro (ns.map D.int)) (.inl rfl) (fun b hb => hb.elim) ?_
      unfold VR
      exact ⟨a, _, rfl, .inr hs, hv _ _, rfl⟩
  exact ⟨fun vs H Q E z => FO.len vs H Q E (sub vs H Q E z), fun A outer s H args us vs Q E hr e1 e2 e3 e4 => FO.run A outer s H args us vs Q E hr e1 e2 e3 (sub vs H Q E e4)⟩
end
end Co

set_option maxRecDepth 100000
set_option maxHeartbeats 4000000
/-! CoreG: a law's program joined -/
namespace Co
open PySem PySem.Spec PyProof.Rows L2

/-- the j-th def against its core term -/
def chkAt (fn : List He.DefD) (nm : List Str) (T : List Fn) (slots : List (List Str)) (j : Nat) : Bool := match nm[j]?, fn[j]?, T[j]?, slots[j]? with
  | some y, some d, some F, some N => chkD nm N (N.take F.np) F d.scope d.body && d.at_.2.isNone && decide (d.at_.1 = y) && d.dfl.isEmpty && d.kwd.isEmpty
  | _, _, _, _ => false
/-- how the j-th def's arguments bind -/
def BindAt (fn : List He.DefD) (T : List Fn) (slots : List (List Str)) (j : Nat) : Prop := ∀ d F N, fn[j]? = some d → T[j]? = some F → slots[j]? = some N →
  ∀ (kV doc pm : Value) (an : Option Addr) (cdv ct : Value) (us : List Value), us.length = F.np → bindArgs (PySem.W.fnOf d.name d.qual d.params d.body d.scope .none kV doc pm an cdv ct) ⟨us, []⟩ = pure ((N.take F.np).zip us)
def isFree (x : Str) : He.Fa → Bool
  | .free z => decide (z = x)
  | _ => false
def isGlo (x : Str) : He.Fa → Bool
  | .glo z => decide (z = x)
  | _ => false
theorem free_mem {x : Str} {fa : List He.Fa} (h : fa.any (isFree x) = true) : He.Fa.free x ∈ fa := by
  obtain ⟨f, hf, e⟩ := List.any_eq_true.mp h
  cases f <;> first | (cases e; done) | skip
  have := of_decide_eq_true e
  subst this
  exact hf
theorem glo_mem {x : Str} {fa : List He.Fa} (h : fa.any (isGlo x) = true) : He.Fa.glo x ∈ fa := by
  obtain ⟨f, hf, e⟩ := List.any_eq_true.mp h
  cases f <;> first | (cases e; done) | skip
  have := of_decide_eq_true e
  subst this
  exact hf
section
variable {P : Program} {w : World} {K : PySem.W.Frag} {h : Heap} {mg : Str → Option Value} {fa : List He.Fa} {fn : List He.DefD} {nm : List Str} {T : List Fn} {slots : List (List Str)}
theorem def_at {j : Nat} {y : Str} (X : K.In h) (G : h.Ns mainGlobals mg) (c : He.SaysD fa fn K) (hy : nm[j]? = some y) (hc : chkAt fn nm T slots j = true) (hb : BindAt fn T slots j) (hg : He.Fa.glo y ∈ fa) :
    ∃ d fd F N, fn[j]? = some d ∧ T[j]? = some F ∧ slots[j]? = some N ∧ FunD K d.name d.qual d.params d.body d.scope [] (d.kws K) (He.ga K y) fd ∧ chkD nm N (N.take F.np) F d.scope d.body = true ∧ mg y = some (.ref (He.ga K y)) ∧ Binds K fd (N.take F.np) [] ∧
      ∀ (s : Shared) (us : List Value), us.length = F.np → BindsTo s fd ⟨us, []⟩ ((N.take F.np).zip us) := by
  unfold chkAt at hc
  split at hc
  · rename_i y' d F N e1 e2 e3 e4
    rw [hy] at e1
    cases e1
    obtain ⟨hc, h5⟩ := and2 hc
    obtain ⟨hc, h4⟩ := and2 hc
    obtain ⟨hc, h3⟩ := and2 hc
    obtain ⟨h1, h2⟩ := and2 hc
    have h3 := of_decide_eq_true h3
    obtain ⟨fd, FD⟩ := c.def_ j e2
    have ea : He.fAd K d.at_ = He.ga K y := by
      have : d.at_ = (y, none) := by
        rcases hd : d.at_ with ⟨a, b⟩
        rw [hd] at h2 h3
        cases b with
        | none => cases h3; rfl
        | some b => cases h2
      rw [this]
      rfl
    have ed : d.dvs K = [] := by
      unfold He.DefD.dvs
      rw [empty_ok h4]
      rfl
    rw [ea, ed] at FD
    have hlen : (N.take F.np).length = F.np := by
      have := h1
      unfold chkD at this
      obtain ⟨q, _⟩ := and2 this
      obtain ⟨q, _⟩ := and2 q
      exact (of_decide_eq_true (and2 q).2).symm
    refine ⟨d, fd, F, N, e2, e3, e4, FD, h1, He.glo_ok X G (c.facts hg), FD.bindsN fun kV doc pm an cdv ct us hl => hb d F N e2 e3 e4 kV doc pm an cdv ct us (hl.trans hlen), fun s us hl => ?_⟩
    exact FD.bindsA (fun kV doc pm an cdv ct us hl => hb d F N e2 e3 e4 kV doc pm an cdv ct us (hl.trans hlen)) s us (hl.trans hlen.symm)
  · cases hc
theorem facts_of {wf fi k : Nat} {law sname : Str} {f : Addr} (X : K.In h) (G : h.Ns mainGlobals mg) (hfa : mg law = some (.ref f)) (c : He.SaysD fa fn K)
    (hb' : (bltNames.all fun x => fa.any (isFree x)) = true) (hg' : (nm.all fun x => fa.any (isGlo x)) = true) (hc : (List.range nm.length).all (chkAt fn nm T slots) = true) (hbd : ∀ j, j < nm.length → BindAt fn T slots j)
    (hl : nm[fi]? = some law) (hs : ∀ N F, slots[fi]? = some N → T[fi]? = some F → N.take F.np = [sname] ∧ F.np = 1)
    (hev : ∀ (d : D) (ns : List Int), d = .ro (ns.map D.int) ∨ d = .lst (ns.map D.int) → ∃ os, evF T wf (k + 1) fi [.v d] = some (.bl true, os)) :
    ∃ fd : FuncData, (∀ (s : Shared) (v : Value), BindsTo s fd ⟨[v], []⟩ [(sname, v)]) ∧ ∀ base : Heap, K.In base → base.Ns mainGlobals mg → FnOk P w K mg base CX0 (k + 2) f fd [sname] (fun vs H Q _ => ∃ (a : Addr) (ns : List Int), vs = [.ref a] ∧ SqL K H a (ns.map V.int) ∧ ∀ H', Q (.bl true) H') := by
  have hb : ∀ x ∈ bltNames, He.Fa.free x ∈ fa := fun x hx => free_mem (List.all_eq_true.mp hb' x hx)
  have hg : ∀ y ∈ nm, He.Fa.glo y ∈ fa := fun x hx => glo_mem (List.all_eq_true.mp hg' x hx)
  have lt : ∀ {j : Nat} {y : Str}, nm[j]? = some y → j < nm.length := fun e => (List.getElem?_eq_some_iff.mp e).1
  have ck : ∀ {j : Nat} {y : Str}, nm[j]? = some y → chkAt fn nm T slots j = true := fun e => List.all_eq_true.mp hc _ (List.mem_range.mpr (lt e))
  have mem : ∀ {j : Nat} {y : Str}, nm[j]? = some y → y ∈ nm := fun e => List.mem_of_getElem? e
  have all : ∀ j y, nm[j]? = some y → InMod K mg nm T j y := fun j y e => by
    obtain ⟨d, fd, F, N, e1, e2, e3, FD, h1, h2, h3, h4⟩ := def_at X G c e (ck e) (hbd j (lt e)) (hg y (mem e))
    exact ⟨_, _, _, _, _, _, _, _, fd, N, _, F, FD, e2, h1, h2, h3⟩
  obtain ⟨d, fd, F, N, e1, e2, e3, FD, h1, h2, h3, h4⟩ := def_at X G c hl (ck hl) (hbd fi (lt hl)) (hg law (mem hl))
  obtain ⟨q1, q2⟩ := hs N F e3 e2
  have ef : He.ga K law = f := by rw [hfa] at h2; injection h2 with h2; injection h2 with h2; exact h2.symm
  rw [ef] at FD
  rw [q1] at h1 h4
  refine ⟨fd, fun s v => h4 s [v] (by rw [q2]; rfl), fun base _ _ => law_ok (wf := wf) FD e2 h1 (fun x hx => He.free_ok X G (c.facts (hb x hx))) all hev⟩
end
end Co

set_option maxRecDepth 100000
set_option maxHeartbeats 4000000
/-! CoreP: plain tools (no program in sight) -/
namespace Co
open PySem

/-- a slot that may be written -/
def St (s : Sl) : Prop := s = .no ∨ ∃ d, s = .v d
theorem st_no : St .no := .inl rfl
theorem st_v {d : D} : St (.v d) := .inr ⟨d, rfl⟩
theorem store_zero {s : Sl} {ρ : Env} {d : D} (h : St s) : store (s :: ρ) 0 d = some (.v d :: ρ) := by
  rcases h with rfl | ⟨e, rfl⟩ <;> rfl
theorem store_succ {s : Sl} {ρ : Env} {i : Nat} {d : D} : store (s :: ρ) (i + 1) d = (store ρ i d).map (s :: ·) := by
  unfold store
  rw [List.getElem?_cons_succ]
  cases ρ[i]? with
  | none => rfl
  | some x => cases x <;> rfl
theorem bind_congr1 {α β : Type} {o o' : Option α} {f : α → Option β} (h : o = o') : o.bind f = o'.bind f := by rw [h]
theorem ite_congr1 {α : Type} {c c' : Prop} {_ : Decidable c} {_ : Decidable c'} {a b : α} (h : c = c') : (if c then a else b) = if c' then a else b := by subst h; congr
theorem evF_step {T : List Fn} {wf k f np ns : Nat} {body : C} {as : List Sl} (hT : T[f]? = some ⟨np, ns, body⟩) (hl : as.length = np) {d : D} {os : List Sl}
    (h : ∃ o, evB (evF T wf k) wf body (as ++ List.replicate (ns - np) .no) = some o ∧ ((∃ ρ, o = .nx ρ ∧ d = .non ∧ os = outs as ρ) ∨ (∃ ρ, o = .rt d ρ ∧ os = outs as ρ))) : evF T wf (k + 1) f as = some (d, os) := by
  obtain ⟨o, e, h⟩ := h
  simp only [evF, hT, hl, if_true, e]
  rcases h with ⟨ρ, rfl, rfl, rfl⟩ | ⟨ρ, rfl, rfl⟩ <;> rfl
/-- a def's call, by what its body does -/
def Rets (Q : D → List Sl → Prop) (as : List Sl) : Option Out → Prop
  | some (.nx ρ) => Q .non (outs as ρ)
  | some (.rt d ρ) => Q d (outs as ρ)
  | _ => False
theorem rets_rt {Q : D → List Sl → Prop} {as : List Sl} {d : D} {ρ : Env} : Rets Q as (some (.rt d ρ)) ↔ Q d (outs as ρ) := Iff.rfl
theorem rets_nx {Q : D → List Sl → Prop} {as : List Sl} {ρ : Env} : Rets Q as (some (.nx ρ)) ↔ Q .non (outs as ρ) := Iff.rfl
theorem evF_of {T : List Fn} {wf k f np ns : Nat} {body : C} {as : List Sl} {Q : D → List Sl → Prop} (hT : T[f]? = some ⟨np, ns, body⟩) (hl : as.length = np)
    (h : Rets Q as (evB (evF T wf k) wf body (as ++ List.replicate (ns - np) .no))) : ∃ d os, evF T wf (k + 1) f as = some (d, os) ∧ Q d os := by
  simp only [evF, hT, hl, if_true]
  generalize evB (evF T wf k) wf body (as ++ List.replicate (ns - np) .no) = o at h
  cases o with
  | none => exact h.elim
  | some o =>
    cases o with
    | nx ρ => exact ⟨_, _, rfl, h⟩
    | rt d ρ => exact ⟨_, _, rfl, h⟩
    | bk ρ => exact h.elim
    | ct ρ => exact h.elim
end Co
namespace Co
open PySem
theorem eqD_int {a b : Int} : eqD (.int a) (.int b) = some (decide (a = b)) := by
  unfold eqD
  rw [if_pos (by rfl)]
  rfl
theorem rfl_int {a b : Int} : PyData.eqv (.int a) (.int b) = (decide (a = b)) := rfl
theorem atI_pos {l : List D} {i : Int} (h : 0 ≤ i) : L2.atI l i = l[i.toNat]? := by
  unfold L2.atI L2.ixN
  rw [if_pos h]
  split
  · rfl
  · rename_i q
    rw [List.getElem?_eq_none (by omega)]
    rfl
theorem ixN_pos {n : Nat} {i : Int} (h : 0 ≤ i) (h2 : i < n) : L2.ixN n i = some i.toNat := by
  unfold L2.ixN
  rw [if_pos h, if_pos h2]
theorem fzL_ints (l : List Int) : fzL (l.map D.int) = true := by
  induction l with
  | nil => simp only [List.map_nil, fzL]
  | cons a l ih => simp only [List.map_cons, fzL, D.fz, ih, Bool.and_true]
theorem get_ints {l : List Int} {i : Nat} (h : i < l.length) : (l.map D.int)[i]? = some (D.int (l.getD i 0)) := by
  rw [List.getElem?_map, List.getElem?_eq_getElem h, List.getD_eq_getElem?_getD, List.getElem?_eq_getElem h]
  rfl
end Co
namespace Co
open PySem
abbrev big : Int := 1267650600228229401496703205376
theorem addI {a b : Int} : binD .Add (.int a) (.int b) = some (.int (a + b)) := rfl
theorem subI {a b : Int} : binD .Sub (.int a) (.int b) = some (.int (a - b)) := rfl
theorem log_big {n : Nat} (h : n < 1267650600228229401496703205376) : n.log2 ≤ 100 := by
  by_cases h0 : n = 0
  · subst h0; decide
  · have := (Nat.log2_lt h0 (k := 100)).mpr (by simpa using h)
    omega
theorem mulD {a b : Int} (ha : a.natAbs < 1267650600228229401496703205376) (hb : b.natAbs < 1267650600228229401496703205376) : binD .Mult (.int a) (.int b) = some (.int (a * b)) := by
  have h1 := log_big ha
  have h2 := log_big hb
  unfold binD
  simp only
  rw [if_pos (by omega)]
theorem fdivD {a b : Int} (h0 : 0 < b) (hb : b < 1267650600228229401496703205376) : binD .FloorDiv (.int a) (.int b) = some (.int (a / b)) := by
  have h1 := log_big (n := b.natAbs) (by omega)
  unfold binD
  simp only
  rw [if_pos ⟨h0, by omega⟩]
theorem modD {a b : Int} (h0 : 0 < b) : binD .Mod (.int a) (.int b) = some (.int (a % b)) := by
  unfold binD
  simp only
  rw [if_pos h0]
theorem pow18 : binD .Pow (.int 10) (.int 18) = some (.int 1000000000000000000) := by rfl
theorem absD_int {a : Int} : absD [.int a] = some (.int a.natAbs) := by
  have : (if a < 0 then -a else a) = (a.natAbs : Int) := by split <;> omega
  rw [← this]
  rfl
theorem eqD_in {a : Int} : eqD (.int a) .non = some false := by
  unfold eqD
  rw [if_pos (by rfl)]
  rfl
theorem eqD_ni {a : Int} : eqD .non (.int a) = some false := by
  unfold eqD
  rw [if_pos (by rfl)]
  rfl
theorem eqD_nn : eqD .non .non = some true := by
  unfold eqD
  rw [if_pos (by rfl)]
  rfl
theorem eqD_bb {a b : Bool} : eqD (.bl a) (.bl b) = some (a == b) := by
  unfold eqD
  rw [if_pos (by rfl)]
  cases a <;> cases b <;> rfl
theorem lim_lit : lim = 16777216 := rfl
theorem lenD_items {d : D} : lenD [d] = match d with
    | .str z => if z.length ≤ lim then some (.int z.length) else none
    | .tup l => some (.int l.length)
    | .lst l => some (.int l.length)
    | .ro l => some (.int l.length)
    | .own l => some (.int l.length)
    | _ => none := by cases d <;> rfl
end Co
namespace Co
theorem ix50 : L2.ixN 5 0 = some 0 := by rfl
theorem ix51 : L2.ixN 5 1 = some 1 := by rfl
theorem ix52 : L2.ixN 5 2 = some 2 := by rfl
theorem ix53 : L2.ixN 5 3 = some 3 := by rfl
theorem ix54 : L2.ixN 5 4 = some 4 := by rfl
end Co
namespace Co
open PySem
/-- it gives something, of which P holds -/
def Wp {α : Type} (P : α → Prop) (o : Option α) : Prop := ∃ x, o = some x ∧ P x
section
variable {α β : Type}
theorem wp_some {P : α → Prop} {x : α} : Wp P (some x) ↔ P x := ⟨fun ⟨_, e, h⟩ => by cases e; exact h, fun h => ⟨x, rfl, h⟩⟩
theorem wp_b {P : β → Prop} {o : Option α} {F : α → Option β} (h : Wp (fun x => Wp P (F x)) o) : Wp P (o.bind F) := by
  obtain ⟨x, rfl, y, e, h⟩ := h
  exact ⟨y, e, h⟩
theorem wp_mono {P Q : α → Prop} {o : Option α} (h : Wp Q o) (k : ∀ x, Q x → P x) : Wp P o := by
  obtain ⟨x, e, h⟩ := h
  exact ⟨x, e, k x h⟩
end
def RetQ (Q : D × List Sl → Prop) (as : List Sl) : Out → Prop
  | .nx ρ => Q (.non, outs as ρ)
  | .rt d ρ => Q (d, outs as ρ)
  | _ => False
theorem retq_rt {Q : D × List Sl → Prop} {as : List Sl} {d : D} {ρ : Env} : RetQ Q as (.rt d ρ) ↔ Q (d, outs as ρ) := Iff.rfl
theorem retq_nx {Q : D × List Sl → Prop} {as : List Sl} {ρ : Env} : RetQ Q as (.nx ρ) ↔ Q (.non, outs as ρ) := Iff.rfl
theorem evF_wp {T : List Fn} {wf k f np ns : Nat} {body : C} {as : List Sl} {Q : D × List Sl → Prop} (hT : T[f]? = some ⟨np, ns, body⟩) (hl : as.length = np)
    (h : Wp (RetQ Q as) (evB (evF T wf k) wf body (as ++ List.replicate (ns - np) .no))) : Wp Q (evF T wf (k + 1) f as) := by
  obtain ⟨o, e, h⟩ := h
  simp only [evF, hT, hl, if_true, e]
  cases o with
  | nx ρ => exact ⟨_, rfl, h⟩
  | rt d ρ => exact ⟨_, rfl, h⟩
  | bk ρ => exact h.elim
  | ct ρ => exact h.elim
/-- a loop's turn has ended well -/
def Turn (I : Env → Prop) : Out → Prop
  | .nx ρ => I ρ
  | .ct ρ => I ρ
  | _ => False
theorem turn_nx {I : Env → Prop} {ρ : Env} : Turn I (.nx ρ) ↔ I ρ := Iff.rfl
theorem turn_ct {I : Env → Prop} {ρ : Env} : Turn I (.ct ρ) ↔ I ρ := Iff.rfl
theorem wp_for {step : D → Env → Option Out} {P : Out → Prop} (I : Nat → Env → Prop) : ∀ {ds : List D} {ρ : Env} (_ : I 0 ρ) (_ : ∀ i d ρ, ds[i]? = some d → I i ρ → Wp (Turn (I (i + 1))) (step d ρ)) (_ : ∀ ρ', I ds.length ρ' → P (.nx ρ')), Wp P (forL step ds ρ) := by
  intro ds
  induction ds generalizing I with
  | nil => exact fun h0 _ hk => ⟨_, rfl, hk _ h0⟩
  | cons d ds ih =>
    intro ρ h0 hs hk
    obtain ⟨o, e, h⟩ := hs 0 d ρ rfl h0
    have nxt : ∀ ρ', I 1 ρ' → Wp P (forL step ds ρ') := fun ρ' h => ih (fun i => I (i + 1)) h (fun i d' ρ2 hd hI => hs (i + 1) d' ρ2 (by simpa using hd) hI) fun ρ2 h2 => hk ρ2 h2
    unfold forL
    rw [e]
    cases o with
    | nx ρ' => exact nxt ρ' h
    | ct ρ' => exact nxt ρ' h
    | rt d ρ' => exact h.elim
    | bk ρ' => exact h.elim
theorem wp_comp {step : D → Env → Option (Option D × Env)} {P : List D × Env → Prop} (I : Nat → List D → Env → Prop) : ∀ {ds acc : List D} {ρ : Env} (_ : I 0 acc ρ) (_ : acc.length + ds.length ≤ lim) (_ : ∀ i d acc ρ, ds[i]? = some d → I i acc ρ → Wp (fun x => I (i + 1) (acc ++ x.1.toList) x.2) (step d ρ)) (_ : ∀ acc' ρ', I ds.length acc' ρ' → acc'.length ≤ acc.length + ds.length → P (acc', ρ')), Wp P (compL step ds acc ρ) := by
  intro ds
  induction ds generalizing I with
  | nil => exact fun h0 _ _ hk => ⟨_, rfl, hk _ _ h0 (Nat.le_refl _)⟩
  | cons d ds ih =>
    intro acc ρ h0 hl hs hk
    rw [List.length_cons] at hl
    obtain ⟨⟨o, ρ'⟩, e, h⟩ := hs 0 d acc ρ rfl h0
    have nxt : ∀ acc', acc'.length ≤ acc.length + 1 → I 1 acc' ρ' → Wp P (compL step ds acc' ρ') := fun acc' hl' h => ih (fun i => I (i + 1)) h (by omega) (fun i d' a ρ2 hd hI => hs (i + 1) d' a ρ2 (by simpa using hd) hI) fun a ρ2 h2 h3 => hk a ρ2 h2 (by rw [List.length_cons]; omega)
    unfold compL
    rw [e]
    cases o with
    | none =>
      simp only [Option.toList, List.append_nil] at h
      exact nxt acc (by omega) h
    | some x =>
      simp only [Option.toList] at h
      show Wp P (if acc.length < lim then compL step ds (acc ++ [x]) ρ' else none)
      rw [if_pos (by omega)]
      exact nxt _ (by simp) h
theorem rngd_len {a b : Int} : (rngD a b).length = (b - a).toNat := by unfold rngD; simp
theorem rngd_get {a b : Int} {i : Nat} {d : D} (h : (rngD a b)[i]? = some d) : d = .int (a + i) ∧ a + i < b := by
  unfold rngD at h
  rw [List.getElem?_map] at h
  cases hr : (List.range (b - a).toNat)[i]? with
  | none => rw [hr] at h; cases h
  | some j =>
    rw [hr] at h
    obtain ⟨h1, h2⟩ := List.getElem?_eq_some_iff.mp hr
    rw [List.getElem_range] at h2
    subst h2
    cases h
    rw [List.length_range] at h1
    exact ⟨rfl, by omega⟩
theorem rngOf1 {n : Int} (h : 0 ≤ n) (h2 : n < 1267650600228) : rngOf [.int n] = some (rngD 0 n) := by
  unfold rngOf
  simp only
  rw [if_pos (by omega)]
theorem rngOf2 {a n : Int} (h : 0 ≤ n) (h2 : n < 1267650600228) (h3 : 0 ≤ a) (h4 : a < 1267650600228) : rngOf [.int a, .int n] = some (rngD a n) := by
  unfold rngOf
  simp only
  rw [if_pos (by omega)]
/-- a slot that is free for a block -/
def FSt (s : Sl) : Prop := s = .no ∨ ∃ d, s = .v d ∧ d.fz = true
theorem fst_no : FSt .no := .inl rfl
theorem fst_v {d : D} (h : d.fz = true) : FSt (.v d) := .inr ⟨d, rfl, h⟩
theorem FSt.st {s : Sl} (h : FSt s) : St s := h.elim .inl fun ⟨d, e, _⟩ => .inr ⟨d, e⟩
theorem free_zero {s : Sl} {ρ : Env} (h : FSt s) : freeAt (s :: ρ) 0 = true := by
  rcases h with rfl | ⟨d, rfl, h⟩
  · rfl
  · exact h
theorem free_succ {s : Sl} {ρ : Env} {i : Nat} : freeAt (s :: ρ) (i + 1) = freeAt ρ i := by
  unfold freeAt
  rw [List.getElem?_cons_succ]
theorem fz_tup {l : List D} (h : fzL l = true) : D.fz (.tup l) = true := by simp only [D.fz, h]
theorem kit_bb : L2.kitB "bool" "bool" = some true := by rfl
end Co
namespace Co
theorem frz_ints (l : List Int) : frzL (l.map D.int) = l.map D.int := by
  induction l with
  | nil => rfl
  | cons a l ih => simp only [List.map_cons, frzL, D.frz, ih]
end Co
namespace Co
theorem idx_tup {l : List D} {i : Int} : idxD (.tup l) (.int i) = (L2.atI l i).bind fun d => if d.fz then some d else none := rfl
theorem idx_lst {l : List D} {i : Int} : idxD (.lst l) (.int i) = (L2.atI l i).bind fun d => if d.fz then some d else none := rfl
theorem idx_ro {l : List D} {i : Int} : idxD (.ro l) (.int i) = (L2.atI l i).bind fun d => if d.fz then some d else none := rfl
theorem idx_own {l : List D} {i : Int} : idxD (.own l) (.int i) = (L2.atI l i).bind fun d => if d.fz then some d else none := rfl
end Co
namespace Co
theorem le_lim {n : Nat} (h : n ≤ 16777216) : (n ≤ lim) = True := eq_true h
theorem lt_lim {n : Nat} (h : n < 16777216) : (n < lim) = True := eq_true h
theorem le_0 {n : Nat} : (0 ≤ n) = True := eq_true (Nat.zero_le n)
end Co
namespace Co
open PySem
/-- a loop's turn, that may end the loop -/
def TurnP (P : Out → Prop) (I : Env → Prop) : Out → Prop
  | .nx ρ => I ρ
  | .ct ρ => I ρ
  | .rt d ρ => P (.rt d ρ)
  | .bk ρ => P (.nx ρ)
theorem turnp_nx {P : Out → Prop} {I : Env → Prop} {ρ : Env} : TurnP P I (.nx ρ) ↔ I ρ := Iff.rfl
theorem turnp_ct {P : Out → Prop} {I : Env → Prop} {ρ : Env} : TurnP P I (.ct ρ) ↔ I ρ := Iff.rfl
theorem turnp_rt {P : Out → Prop} {I : Env → Prop} {d : D} {ρ : Env} : TurnP P I (.rt d ρ) ↔ P (.rt d ρ) := Iff.rfl
theorem turnp_bk {P : Out → Prop} {I : Env → Prop} {ρ : Env} : TurnP P I (.bk ρ) ↔ P (.nx ρ) := Iff.rfl
theorem wp_forP {step : D → Env → Option Out} {P : Out → Prop} (I : Nat → Env → Prop) : ∀ {ds : List D} {ρ : Env} (_ : I 0 ρ) (_ : ∀ i d ρ, ds[i]? = some d → I i ρ → Wp (TurnP P (I (i + 1))) (step d ρ)) (_ : ∀ ρ', I ds.length ρ' → P (.nx ρ')), Wp P (forL step ds ρ) := by
  intro ds
  induction ds generalizing I with
  | nil => exact fun h0 _ hk => ⟨_, rfl, hk _ h0⟩
  | cons d ds ih =>
    intro ρ h0 hs hk
    obtain ⟨o, e, h⟩ := hs 0 d ρ rfl h0
    have nxt : ∀ ρ', I 1 ρ' → Wp P (forL step ds ρ') := fun ρ' h => ih (fun i => I (i + 1)) h (fun i d' ρ2 hd hI => hs (i + 1) d' ρ2 (by simpa using hd) hI) fun ρ2 h2 => hk ρ2 h2
    unfold forL
    rw [e]
    cases o with
    | nx ρ' => exact nxt ρ' h
    | ct ρ' => exact nxt ρ' h
    | rt d ρ' => exact ⟨_, rfl, h⟩
    | bk ρ' => exact ⟨_, rfl, h⟩
end Co

set_option maxRecDepth 100000
set_option maxHeartbeats 4000000
/-! CoreQ: the evaluator's equations, at a row of slots that is seen -/
namespace Co
open PySem
section
variable {Φ : Nat → List Sl → Option (D × List Sl)} {wf : Nat} {s : Sl} {ρ : Env}
theorem xE_var {i : Nat} : evE Φ wf (.var i) (s :: ρ) = match (s :: ρ)[i]? with
    | some (.v d) => some (if d.fz then .d d else .pl i, s :: ρ)
    | some (.bo d) => some (if d.fz then .d d else .pl i, s :: ρ)
    | some (.lk _) => some (.pl i, s :: ρ)
    | _ => none := by simp only [evE] <;> rfl
theorem xE_fz {i : Nat} : evE Φ wf (.fz i) (s :: ρ) = match (s :: ρ)[i]? with
    | some (.v d) => some (.d d.frz, (s :: ρ).set i (.v d.frz))
    | some (.bo d) => some (.d d.frz, (s :: ρ).set i (.bo d.frz))
    | _ => none := by simp only [evE] <;> rfl
theorem xE_mv {i : Nat} : evE Φ wf (.mv i) (s :: ρ) = match (s :: ρ)[i]? with
    | some (.v d) => some (.d d, (s :: ρ).set i .no)
    | _ => none := by simp only [evE] <;> rfl
theorem xE_non : evE Φ wf .non (s :: ρ) = some (.d .non, s :: ρ) := by simp only [evE] <;> rfl
theorem xE_bl {b : Bool} : evE Φ wf (.bl b) (s :: ρ) = some (.d (.bl b), s :: ρ) := by simp only [evE] <;> rfl
theorem xE_int {b : Int} : evE Φ wf (.int b) (s :: ρ) = some (.d (.int b), s :: ρ) := by simp only [evE] <;> rfl
theorem xE_str {b : Str} : evE Φ wf (.str b) (s :: ρ) = some (.d (.str b), s :: ρ) := by simp only [evE] <;> rfl
theorem xE_bin {o a b} : evE Φ wf (.bin o a b) (s :: ρ) = (evE Φ wf a (s :: ρ)).bind fun (ra, ρ1) => (evE Φ wf b ρ1).bind fun (rb, ρ2) =>
      (rd ρ2 ra).bind fun x => (rd ρ2 rb).bind fun y => (binD o x y).bind fun z => some (.d z, ρ2) := by simp only [evE] <;> rfl
theorem xE_neg {a} : evE Φ wf (.neg a) (s :: ρ) = (evE Φ wf a (s :: ρ)).bind fun (ra, ρ1) => (rd ρ1 ra).bind fun x => (negD x).bind fun z => some (.d z, ρ1) := by simp only [evE] <;> rfl
theorem xE_not {a} : evE Φ wf (.not a) (s :: ρ) = (evE Φ wf a (s :: ρ)).bind fun (ra, ρ1) => match ra with
    | .d (.bl b) => some (.d (.bl (!b)), ρ1)
    | _ => none := by simp only [evE] <;> rfl
theorem xE_cmp {o a b} : evE Φ wf (.cmp o a b) (s :: ρ) = (evE Φ wf a (s :: ρ)).bind fun (ra, ρ1) => (evE Φ wf b ρ1).bind fun (rb, ρ2) =>
      (rd ρ2 ra).bind fun x => (rd ρ2 rb).bind fun y => (cmpD o x y).bind fun z => some (.d (.bl z), ρ2) := by simp only [evE] <;> rfl
theorem xE_chn {o1 o2 a b c} : evE Φ wf (.chn o1 o2 a b c) (s :: ρ) = ((evE Φ wf a (s :: ρ)).bind fun (ra, ρ1) => (evE Φ wf b ρ1).bind fun (rb, ρ2) =>
      (rd ρ2 ra).bind fun x => (rd ρ2 rb).bind fun y => (cmpD o1 x y).bind fun z =>
        if z then (evE Φ wf c ρ2).bind fun (rc, ρ3) => (rd ρ3 rb).bind fun y' => (rd ρ3 rc).bind fun w => (cmpD o2 y' w).bind fun z2 => some (z2, ρ3)
        else some (false, ρ2)).bind fun (z, ρ4) => some (.d (.bl z), ρ4) := by simp only [evE] <;> rfl
theorem xE_and {a b} : evE Φ wf (.and a b) (s :: ρ) = (evE Φ wf a (s :: ρ)).bind fun (ra, ρ1) => match ra with
    | .d (.bl true) => evE Φ wf b ρ1
    | .d (.bl false) => some (.d (.bl false), ρ1)
    | _ => none := by simp only [evE] <;> rfl
theorem xE_or {a b} : evE Φ wf (.or a b) (s :: ρ) = (evE Φ wf a (s :: ρ)).bind fun (ra, ρ1) => match ra with
    | .d (.bl true) => some (.d (.bl true), ρ1)
    | .d (.bl false) => evE Φ wf b ρ1
    | _ => none := by simp only [evE] <;> rfl
theorem xE_one {a} : evE Φ wf (.one a) (s :: ρ) = evE Φ wf a (s :: ρ) := by simp only [evE] <;> rfl
theorem xE_frz {a} : evE Φ wf (.frz a) (s :: ρ) = (evE Φ wf a (s :: ρ)).bind fun (r, ρ1) => match r with
    | .d d => some (.d d.frz, ρ1)
    | .pl _ => none := by simp only [evE] <;> rfl
theorem xE_ite {c a b} : evE Φ wf (.ite c a b) (s :: ρ) = (evT Φ wf c (s :: ρ)).bind fun (t, ρ1) => if t then evE Φ wf a ρ1 else evE Φ wf b ρ1 := by simp only [evE] <;> rfl
theorem xE_tup {es} : evE Φ wf (.tup es) (s :: ρ) = (evA Φ wf es (s :: ρ)).bind fun (rs, ρ1) => (vals rs).bind fun ds => if ds.length ≤ lim then some (.d (.tup ds), ρ1) else none := by simp only [evE] <;> rfl
theorem xE_lst {es} : evE Φ wf (.lst es) (s :: ρ) = (evA Φ wf es (s :: ρ)).bind fun (rs, ρ1) => (vals rs).bind fun ds => if ds.length ≤ lim then some (.d (.own ds), ρ1) else none := by simp only [evE] <;> rfl
theorem xE_idx {a b} : evE Φ wf (.idx a b) (s :: ρ) = (evE Φ wf a (s :: ρ)).bind fun (ra, ρ1) => (evE Φ wf b ρ1).bind fun (rb, ρ2) =>
      (rd ρ2 ra).bind fun x => (rd ρ2 rb).bind fun y => (idxD x y).bind fun z => some (.d z, ρ2) := by simp only [evE] <;> rfl
theorem xE_slc {a lo hi} : evE Φ wf (.slc a lo hi) (s :: ρ) = (evE Φ wf a (s :: ρ)).bind fun (ra, ρ1) => (evO Φ wf lo ρ1).bind fun (l, ρ2) => (evO Φ wf hi ρ2).bind fun (h, ρ3) =>
      (rd ρ3 ra).bind fun x => (slD x l h).bind fun z => some (.d z, ρ3) := by simp only [evE] <;> rfl
theorem xO_nil : evO Φ wf .nil (s :: ρ) = some (none, s :: ρ) := by simp only [evO] <;> rfl
theorem xO_one {a} : evO Φ wf (.one a) (s :: ρ) = (evE Φ wf a (s :: ρ)).bind fun (r, ρ1) => match r with
    | .d (.int i) => some (some i, ρ1)
    | _ => none := by simp only [evO] <;> rfl
theorem xE_isi {a t} : evE Φ wf (.isi a t) (s :: ρ) = (evE Φ wf a (s :: ρ)).bind fun (ra, ρ1) => (rd ρ1 ra).bind fun x => (L2.kitB (tyD x) t).bind fun b => some (.d (.bl b), ρ1) := by simp only [evE] <;> rfl
theorem xE_lrng1 {a} : evE Φ wf (.lrng1 a) (s :: ρ) = (evE Φ wf a (s :: ρ)).bind fun (r, ρ1) => (vals [r]).bind fun ds => (rngOf ds).bind fun l => if l.length ≤ lim then some (.d (.own l), ρ1) else none := by simp only [evE] <;> rfl
theorem xE_lrng2 {a b} : evE Φ wf (.lrng2 a b) (s :: ρ) = (evE Φ wf a (s :: ρ)).bind fun (ra, ρ1) => (evE Φ wf b ρ1).bind fun (rb, ρ2) => (vals [ra, rb]).bind fun ds => (rngOf ds).bind fun l => if l.length ≤ lim then some (.d (.own l), ρ2) else none := by simp only [evE] <;> rfl
theorem xE_ixm {a b} : evE Φ wf (.ixm a b) (s :: ρ) = (evE Φ wf a (s :: ρ)).bind fun (ra, ρ1) => ((rd ρ1 ra).bind D.lsts).bind fun _ => (evE Φ wf b ρ1).bind fun (rb, ρ2) =>
      (rd ρ2 ra).bind fun x => (rd ρ2 rb).bind fun y => (indexD x y).bind fun z => some (.d z, ρ2) := by simp only [evE] <;> rfl
theorem xE_call {f es} : evE Φ wf (.call f es) (s :: ρ) = (evA Φ wf es (s :: ρ)).bind fun (rs, ρ1) => if (places rs).Nodup then (argsOf ρ1 rs).bind fun as =>
      (Φ f as).bind fun (d, os) => some (.d d, back ρ1 rs os) else none := by simp only [evE] <;> rfl
theorem xE_blt {n es} : evE Φ wf (.blt n es) (s :: ρ) = (evA Φ wf es (s :: ρ)).bind fun (rs, ρ1) => (rds ρ1 rs).bind fun ds => (bltD n ds).bind fun d => some (.d d, ρ1) := by simp only [evE] <;> rfl
theorem xE_mut {n i es} : evE Φ wf (.mut n i es) (s :: ρ) = (ownAt (s :: ρ) i).bind fun _ => (evA Φ wf es (s :: ρ)).bind fun (rs, ρ1) => (mutArgs n ρ1 rs).bind fun ds => (ownAt ρ1 i).bind fun l => (mutD n l ds).bind fun (d, l') =>
      (setL ρ1 i l').bind fun ρ2 => some (.d d, ρ2) := by simp only [evE] <;> rfl
/-- one turn of a comprehension -/
def compTu (Φ : Nat → List Sl → Option (D × List Sl)) (wf : Nat) (elt tg cond : C) (own : List Nat) (d : D) (ρ : Env) : Option (Option D × Env) :=
  (evG Φ wf tg d ρ).bind fun ρ' => (evT Φ wf cond ρ').bind fun (t, ρ2) =>
        if t then (evE Φ wf elt ρ2).bind fun (r, ρ3) => match r with
          | .d x => some (some x, wipeS ρ3 own)
          | .pl _ => none
        else some (none, wipeS ρ2 own)
theorem xE_comp {elt tg src cond own} : evE Φ wf (.comp elt tg src cond own) (s :: ρ) = (evI Φ wf src (s :: ρ)).bind fun (ds, lk, ρ1) => if own.all (freeAt ρ1) then
      (compL (compTu Φ wf elt tg cond own) ds [] (wipeS (lock ρ1 lk) own)).bind fun (acc, ρ4) => some (.d (.own acc), putBack ρ1 (unlock ρ1 lk ρ4) own) else none := by
  simp only [evE] <;> rfl
theorem xA_nil : evA Φ wf .nil (s :: ρ) = some ([], s :: ρ) := by simp only [evA] <;> rfl
theorem xA_cons {a r} : evA Φ wf (.cons a r) (s :: ρ) = (evE Φ wf a (s :: ρ)).bind fun (ra, ρ1) => (evA Φ wf r ρ1).bind fun (rs, ρ2) => some (ra :: rs, ρ2) := by simp only [evA] <;> rfl
theorem xT_not {a} : evT Φ wf (.not a) (s :: ρ) = (evT Φ wf a (s :: ρ)).bind fun (t, ρ1) => some (!t, ρ1) := by simp only [evT] <;> rfl
theorem xT_and {a b} : evT Φ wf (.and a b) (s :: ρ) = (evT Φ wf a (s :: ρ)).bind fun (t, ρ1) => if t then evT Φ wf b ρ1 else some (false, ρ1) := by simp only [evT] <;> rfl
theorem xT_or {a b} : evT Φ wf (.or a b) (s :: ρ) = (evT Φ wf a (s :: ρ)).bind fun (t, ρ1) => if t then some (true, ρ1) else evT Φ wf b ρ1 := by simp only [evT] <;> rfl
theorem xT_cmp {o a b} : evT Φ wf (.cmp o a b) (s :: ρ) = (evE Φ wf a (s :: ρ)).bind fun (ra, ρ1) => (evE Φ wf b ρ1).bind fun (rb, ρ2) =>
      (rd ρ2 ra).bind fun x => (rd ρ2 rb).bind fun y => (cmpD o x y).bind fun z => some (z, ρ2) := by simp only [evT] <;> rfl
theorem xT_chn {o1 o2 a b c} : evT Φ wf (.chn o1 o2 a b c) (s :: ρ) = (evE Φ wf a (s :: ρ)).bind fun (ra, ρ1) => (evE Φ wf b ρ1).bind fun (rb, ρ2) =>
      (rd ρ2 ra).bind fun x => (rd ρ2 rb).bind fun y => (cmpD o1 x y).bind fun z =>
        if z then (evE Φ wf c ρ2).bind fun (rc, ρ3) => (rd ρ3 rb).bind fun y' => (rd ρ3 rc).bind fun w => (cmpD o2 y' w).bind fun z2 => some (z2, ρ3)
        else some (false, ρ2) := by simp only [evT] <;> rfl
theorem xT_tst {a} : evT Φ wf (.tst a) (s :: ρ) = (evE Φ wf a (s :: ρ)).bind fun (ra, ρ1) => (rd ρ1 ra).bind fun x => (truD x).bind fun b => some (b, ρ1) := by simp only [evT] <;> rfl
theorem xT_bl {b} : evT Φ wf (.bl b) (s :: ρ) = some (b, s :: ρ) := by simp only [evT] <;> rfl
theorem xT_one {a} : evT Φ wf (.one a) (s :: ρ) = evT Φ wf a (s :: ρ) := by simp only [evT] <;> rfl
theorem xG_tnm {i d} : evG Φ wf (.tnm i) d (s :: ρ) = store (s :: ρ) i d := by simp only [evG] <;> rfl
theorem xG_ttup {ts l} : evG Φ wf (.ttup ts) (.tup l) (s :: ρ) = evGs Φ wf ts l (s :: ρ) := by simp only [evG] <;> rfl
theorem xG_tsub {i k d} : evG Φ wf (.tsub i k) d (s :: ρ) = (ownAt (s :: ρ) i).bind fun _ => (evE Φ wf k (s :: ρ)).bind fun (rk, ρ1) => match rk with
    | .d (.int j) => (ownAt ρ1 i).bind fun l => (L2.ixN l.length j).bind fun n => setL ρ1 i (l.set n d)
    | _ => none := by simp only [evG] <;> rfl
theorem xGs_nil : evGs Φ wf .nil [] (s :: ρ) = some (s :: ρ) := by simp only [evGs] <;> rfl
theorem xGs_cons {t ts d l} : evGs Φ wf (.cons t ts) (d :: l) (s :: ρ) = (evG Φ wf t d (s :: ρ)).bind fun ρ1 => evGs Φ wf ts l ρ1 := by simp only [evGs] <;> rfl
theorem xI_seq {e} : evI Φ wf (.sseq e) (s :: ρ) = (evE Φ wf e (s :: ρ)).bind fun (r, ρ1) => (srcOf ρ1 r).bind fun (l, k) => some (l, k, ρ1) := by simp only [evI] <;> rfl
theorem xI_enum {e} : evI Φ wf (.senum e) (s :: ρ) = (evE Φ wf e (s :: ρ)).bind fun (r, ρ1) => (srcOf ρ1 r).bind fun (l, k) => some (enumL 0 l, k, ρ1) := by simp only [evI] <;> rfl
theorem xI_rng {es} : evI Φ wf (.srng es) (s :: ρ) = (evA Φ wf es (s :: ρ)).bind fun (rs, ρ1) => (vals rs).bind fun ds => (rngOf ds).bind fun l => some (l, none, ρ1) := by simp only [evI] <;> rfl
theorem xS_asg {t e} : evS Φ wf (.asg t e) (s :: ρ) = (evE Φ wf e (s :: ρ)).bind fun (r, ρ1) => match r with
    | .d d => (evG Φ wf t d ρ1).bind fun ρ2 => some (.nx ρ2)
    | .pl _ => none := by simp only [evS] <;> rfl
theorem xS_par {i j es} : evS Φ wf (.par i j es) (s :: ρ) = (evA Φ wf es (s :: ρ)).bind fun (rs, ρ1) => parS ρ1 i j rs := by simp only [evS] <;> rfl
theorem xS_par3 {i j l es} : evS Φ wf (.par3 i j l es) (s :: ρ) = (evA Φ wf es (s :: ρ)).bind fun (rs, ρ1) => parS3 ρ1 i j l rs := by simp only [evS] <;> rfl
theorem xS_exs {e} : evS Φ wf (.exs e) (s :: ρ) = (evE Φ wf e (s :: ρ)).bind fun (_, ρ1) => some (.nx ρ1) := by simp only [evS] <;> rfl
theorem xS_ret {e} : evS Φ wf (.ret e) (s :: ρ) = (evE Φ wf e (s :: ρ)).bind fun (r, ρ1) => match r with
    | .d d => some (.rt d ρ1)
    | .pl _ => none := by simp only [evS] <;> rfl
theorem xS_retN : evS Φ wf .retN (s :: ρ) = some (.rt .non (s :: ρ)) := by simp only [evS] <;> rfl
theorem xS_cond {c a b} : evS Φ wf (.cond c a b) (s :: ρ) = (evT Φ wf c (s :: ρ)).bind fun (t, ρ1) => if t then evB Φ wf a ρ1 else evB Φ wf b ρ1 := by simp only [evS] <;> rfl
/-- one turn of a for -/
def forTu (Φ : Nat → List Sl → Option (D × List Sl)) (wf : Nat) (t body : C) (d : D) (ρ : Env) : Option Out := (evG Φ wf t d ρ).bind fun ρ' => evB Φ wf body ρ'
theorem xS_for {t src body} : evS Φ wf (.for_ t src body) (s :: ρ) = (evI Φ wf src (s :: ρ)).bind fun (ds, lk, ρ1) =>
      (forL (forTu Φ wf t body) ds (lock ρ1 lk)).bind fun o => some (o.map (unlock ρ1 lk)) := by
  simp only [evS] <;> rfl
theorem xS_whl {c body} : evS Φ wf (.whl c body) (s :: ρ) = whileL (evT Φ wf c) (evB Φ wf body) wf (s :: ρ) := by simp only [evS] <;> rfl
theorem xS_brk : evS Φ wf .brk (s :: ρ) = some (.bk (s :: ρ)) := by simp only [evS] <;> rfl
theorem xS_cnt : evS Φ wf .cnt (s :: ρ) = some (.ct (s :: ρ)) := by simp only [evS] <;> rfl
theorem xS_pass : evS Φ wf .pass (s :: ρ) = some (.nx (s :: ρ)) := by simp only [evS] <;> rfl
theorem xB_nil : evB Φ wf .nil (s :: ρ) = some (.nx (s :: ρ)) := by simp only [evB] <;> rfl
theorem xB_cons {a r} : evB Φ wf (.cons a r) (s :: ρ) = (evS Φ wf a (s :: ρ)).bind fun o => match o with
    | .nx ρ1 => evB Φ wf r ρ1
    | o => some o := by simp only [evB] <;> rfl
end
def xs1 := And.intro @xE_var <| And.intro @xE_fz <| And.intro @xE_mv <| And.intro @xE_non <| And.intro @xE_bl <| And.intro @xE_int <| And.intro @xE_str <| And.intro @xE_bin <| And.intro @xE_neg <| And.intro @xE_not <| And.intro @xE_cmp <| And.intro @xE_chn <| And.intro @xE_and <| And.intro @xE_or <| And.intro @xE_one <| And.intro @xE_frz <| And.intro @xE_ite <| And.intro @xE_tup <| And.intro @xE_lst <| And.intro @xE_idx <| And.intro @xE_isi <| And.intro @xE_slc <| And.intro @xE_lrng1 <| And.intro @xE_lrng2 <| And.intro @xE_ixm <| And.intro @xO_nil <| And.intro @xO_one <| And.intro @xE_call <| And.intro @xE_blt <| And.intro @xE_mut <| And.intro @xE_comp <| And.intro @xA_nil @xA_cons
def xs2 := And.intro @xT_not <| And.intro @xT_and <| And.intro @xT_or <| And.intro @xT_cmp <| And.intro @xT_chn <| And.intro @xT_tst <| And.intro @xT_bl <| And.intro @xT_one <| And.intro @xG_tnm <| And.intro @xG_ttup <| And.intro @xG_tsub <| And.intro @xGs_nil <| And.intro @xGs_cons <| And.intro @xI_seq <| And.intro @xI_enum @xI_rng
def xs3 := And.intro @xS_asg <| And.intro @xS_par <| And.intro @xS_par3 <| And.intro @xS_exs <| And.intro @xS_ret <| And.intro @xS_retN <| And.intro @xS_cond <| And.intro @xS_for <| And.intro @xS_whl <| And.intro @xS_brk <| And.intro @xS_cnt <| And.intro @xS_pass <| And.intro @xB_nil @xB_cons
end Co

set_option maxRecDepth 100000
set_option maxHeartbeats 4000000
/-! CoreR: == of data, typed data, a tactic for the run -/
namespace Co
open PySem
/-- fit for ==, at most n deep -/
def Lay (n : Nat) (d : D) : Prop := d.py.canLay0 = true ∧ d.py.depth ≤ n
theorem Lay.mono {n m : Nat} {d : D} (h : Lay n d) (hm : n ≤ m) : Lay m d := ⟨h.1, Nat.le_trans h.2 hm⟩
theorem lay_non {n : Nat} : Lay n .non := ⟨rfl, Nat.zero_le _⟩
theorem lay_bl {n : Nat} {b : Bool} : Lay n (.bl b) := ⟨rfl, Nat.zero_le _⟩
theorem lay_int {n : Nat} {i : Int} : Lay n (.int i) := ⟨rfl, Nat.zero_le _⟩
theorem lay_str {n : Nat} {x : Str} (h : PyData.strOk x = true) : Lay n (.str x) := ⟨h, Nat.zero_le _⟩
theorem lay_all {n : Nat} : ∀ {l : List D}, (∀ d ∈ l, Lay n d) → PyData.canLayAll0 (pyL l) = true ∧ PyData.depthAll (pyL l) ≤ n
  | [], _ => ⟨rfl, Nat.zero_le _⟩
  | d :: l, h => by
    obtain ⟨h1, h2⟩ := h d (by simp)
    obtain ⟨h3, h4⟩ := lay_all (fun x hx => h x (List.mem_cons_of_mem _ hx))
    simp only [pyL]
    refine ⟨?_, ?_⟩
    · rw [PyData.canLayAll0, h1, h3]; rfl
    · rw [PyData.depthAll]; omega
theorem lay_tup {n : Nat} {l : List D} (h : ∀ d ∈ l, Lay n d) : Lay (n + 1) (.tup l) := by
  obtain ⟨h1, h2⟩ := lay_all h
  refine ⟨?_, ?_⟩
  · show PyData.canLay0 (.tuple (pyL l)) = true
    rw [PyData.canLay0]; exact h1
  · show PyData.depth (.tuple (pyL l)) ≤ _
    rw [PyData.depth]; omega
theorem lay_own {n : Nat} {l : List D} (h : ∀ d ∈ l, Lay n d) : Lay (n + 1) (.own l) := by
  obtain ⟨h1, h2⟩ := lay_all h
  refine ⟨?_, ?_⟩
  · show PyData.canLay0 (.list (pyL l)) = true
    rw [PyData.canLay0]; exact h1
  · show PyData.depth (.list (pyL l)) ≤ _
    rw [PyData.depth]; omega
theorem eqD_self {d : D} (h : Lay 64 d) : eqD d d = some true := by
  unfold eqD
  have sh : SeqAt.shaped d.py = true := Bool.and_eq_true_iff.mpr ⟨h.1, decide_eq_true h.2⟩
  rw [if_pos (Bool.and_eq_true_iff.mpr ⟨sh, sh⟩), SeqAt.eqv_refl _ h.1]
theorem lay_map {α : Type} {n : Nat} {f : α → D} (hf : ∀ a, Lay n (f a)) (l : List α) : ∀ d ∈ l.map f, Lay n d := by
  intro d hd
  obtain ⟨a, _, rfl⟩ := List.mem_map.mp hd
  exact hf a
end Co

set_option maxRecDepth 100000
set_option maxHeartbeats 4000000
/-! CoreS: the run's tactic; loops and comprehensions without a heap of words -/
namespace Co
open PySem
theorem ite_t {α : Type} {c : Prop} {_ : Decidable c} {a b : α} (h : c) : (if c then a else b) = a := if_pos h
theorem ite_f {α : Type} {c : Prop} {_ : Decidable c} {a b : α} (h : ¬ c) : (if c then a else b) = b := if_neg h
theorem dec_t {c : Prop} {_ : Decidable c} (h : c) : decide c = true := decide_eq_true h
theorem dec_f {c : Prop} {_ : Decidable c} (h : ¬ c) : decide c = false := decide_eq_false h
theorem mulI {a b : Int} (h : a.natAbs < 1267650600228229401496703205376 ∧ b.natAbs < 1267650600228229401496703205376) : binD .Mult (.int a) (.int b) = some (.int (a * b)) := mulD h.1 h.2
theorem fdivI {a b : Int} (h : 0 < b ∧ b < 1267650600228229401496703205376) : binD .FloorDiv (.int a) (.int b) = some (.int (a / b)) := fdivD h.1 h.2
theorem rngI1 {n : Int} (h : 0 ≤ n ∧ n < 1267650600228) : rngOf [.int n] = some (rngD 0 n) := rngOf1 h.1 h.2
theorem rngI2 {a n : Int} (h : 0 ≤ n ∧ n < 1267650600228 ∧ 0 ≤ a ∧ a < 1267650600228) : rngOf [.int a, .int n] = some (rngD a n) := rngOf2 h.1 h.2.1 h.2.2.1 h.2.2.2
/-- a comprehension that leaves the slots as they are -/
theorem comp_fm {step : D → Env → Option (Option D × Env)} {ρ : Env} (g : D → Option D) : ∀ {ds acc : List D}, acc.length + ds.length ≤ lim → (∀ d ∈ ds, step d ρ = some (g d, ρ)) → compL step ds acc ρ = some (acc ++ ds.filterMap g, ρ)
  | [], acc, _, _ => by rw [List.filterMap_nil, List.append_nil]; rfl
  | d :: ds, acc, hl, h => by
    rw [List.length_cons] at hl
    unfold compL
    rw [h d (by simp)]
    cases e : g d with
    | none =>
      rw [List.filterMap_cons_none e]
      exact comp_fm g (by omega) fun x hx => h x (List.mem_cons_of_mem _ hx)
    | some x =>
      rw [List.filterMap_cons_some e]
      simp only
      rw [if_pos (by omega), comp_fm g (by rw [List.length_append]; simp; omega) fun x hx => h x (List.mem_cons_of_mem _ hx), List.append_assoc]
      rfl
theorem coMap {step : D → Env → Option (Option D × Env)} {ρ : Env} (g : D → D) {ds : List D} (hl : ds.length ≤ lim) (h : ∀ d ∈ ds, step d ρ = some (some (g d), ρ)) : compL step ds [] ρ = some (ds.map g, ρ) := by
  rw [comp_fm (fun d => some (g d)) (by simpa using hl) h, List.nil_append, show (fun d => some (g d)) = some ∘ g from rfl, List.filterMap_eq_map]
theorem all_bl {l : List D} {p : D → Bool} : allD [.own (l.map fun d => .bl (p d))] = some (.bl (l.all p)) := by
  have h : ∀ l : List D, allBl (l.map fun d => .bl (p d)) = some (l.map p) := by
    intro l
    induction l with
    | nil => rfl
    | cons d l ih => simp only [List.map_cons]; unfold allBl; rw [ih]; rfl
  show ((allBl (l.map fun d => .bl (p d))).map fun bs => D.bl (bs.all id)) = _
  rw [h]
  show some (D.bl _) = _
  rw [List.all_map]
  rfl
theorem fzL_mem {l : List D} (h : ∀ d ∈ l, d.fz = true) : fzL l = true := by
  induction l with
  | nil => rfl
  | cons d l ih => unfold fzL; rw [h d (by simp), ih fun x hx => h x (List.mem_cons_of_mem _ hx)]; rfl
theorem mem_fzL {l : List D} (h : fzL l = true) : ∀ d ∈ l, d.fz = true := by
  induction l with
  | nil => intro d hd; cases hd
  | cons d l ih =>
    unfold fzL at h
    rw [Bool.and_eq_true] at h
    intro x hx
    rcases List.mem_cons.mp hx with rfl | hx
    · exact h.1
    · exact ih h.2 x hx
theorem str_ne {d : D} {w : Str} (h : Lay 64 d) (hw : PyData.strOk w = true) (e : ∀ x, d ≠ .str x) : eqD d (.str w) = some false := by
  unfold eqD
  have s1 : SeqAt.shaped d.py = true := Bool.and_eq_true_iff.mpr ⟨h.1, decide_eq_true h.2⟩
  have s2 : SeqAt.shaped (D.str w).py = true := Bool.and_eq_true_iff.mpr ⟨hw, rfl⟩
  rw [if_pos (Bool.and_eq_true_iff.mpr ⟨s1, s2⟩)]
  congr 1
  cases d <;> first | (exact absurd rfl (e _)) | (simp only [D.py]; rw [PyData.eqv])
theorem str_eq {x w : Str} (hx : PyData.strOk x = true) (hw : PyData.strOk w = true) : eqD (.str x) (.str w) = some (x == w) := by
  unfold eqD
  have s1 : SeqAt.shaped (D.str x).py = true := Bool.and_eq_true_iff.mpr ⟨hx, rfl⟩
  have s2 : SeqAt.shaped (D.str w).py = true := Bool.and_eq_true_iff.mpr ⟨hw, rfl⟩
  rw [if_pos (Bool.and_eq_true_iff.mpr ⟨s1, s2⟩)]
  congr 1
theorem addO {a b : List D} (h : fzL a = true ∧ fzL b = true ∧ a.length + b.length ≤ 16777216) : binD .Add (.own a) (.own b) = some (.own (a ++ b)) := by
  show (if fzL a && fzL b && decide (a.length + b.length ≤ lim) then _ else _) = _
  rw [if_pos (by rw [h.1, h.2.1, decide_eq_true (show a.length + b.length ≤ lim from h.2.2)]; rfl)]
theorem addT {a b : List D} (h : fzL a = true ∧ fzL b = true ∧ a.length + b.length ≤ 16777216) : binD .Add (.tup a) (.tup b) = some (.tup (a ++ b)) := by
  show (if fzL a && fzL b && decide (a.length + b.length ≤ lim) then _ else _) = _
  rw [if_pos (by rw [h.1, h.2.1, decide_eq_true (show a.length + b.length ≤ lim from h.2.2)]; rfl)]
theorem kits : L2.kitB "NoneType" "tuple" = some false ∧ L2.kitB "NoneType" "int" = some false ∧ L2.kitB "NoneType" "bool" = some false ∧ L2.kitB "NoneType" "str" = some false ∧ L2.kitB "NoneType" "list" = some false ∧ L2.kitB "bool" "tuple" = some false ∧ L2.kitB "bool" "bool" = some true ∧ L2.kitB "bool" "str" = some false ∧ L2.kitB "bool" "list" = some false ∧ L2.kitB "int" "tuple" = some false ∧ L2.kitB "int" "int" = some true ∧ L2.kitB "int" "bool" = some false ∧ L2.kitB "int" "str" = some false ∧ L2.kitB "int" "list" = some false ∧ L2.kitB "str" "tuple" = some false ∧ L2.kitB "str" "int" = some false ∧ L2.kitB "str" "bool" = some false ∧ L2.kitB "str" "str" = some true ∧ L2.kitB "str" "list" = some false ∧ L2.kitB "tuple" "tuple" = some true ∧ L2.kitB "tuple" "int" = some false ∧ L2.kitB "tuple" "bool" = some false ∧ L2.kitB "tuple" "str" = some false ∧ L2.kitB "tuple" "list" = some false ∧ L2.kitB "list" "tuple" = some false ∧ L2.kitB "list" "int" = some false ∧ L2.kitB "list" "bool" = some false ∧ L2.kitB "list" "str" = some false ∧ L2.kitB "list" "list" = some true := ⟨rfl, rfl, rfl, rfl, rfl, rfl, rfl, rfl, rfl, rfl, rfl, rfl, rfl, rfl, rfl, rfl, rfl, rfl, rfl, rfl, rfl, rfl, rfl, rfl, rfl, rfl, rfl, rfl, rfl⟩
end Co

set_option maxRecDepth 100000
set_option maxHeartbeats 4000000
namespace K22
open PySem PySem.Spec PyProof.Rows L2 Co
abbrev nm : List Str := [("start_of" : Str), ("end_of" : Str), ("work_of" : Str), ("points_of" : Str), ("point_rows" : Str), ("span_rows" : Str), ("wait_row" : Str), ("basic_rows" : Str), ("is_end" : Str), ("anchor_of" : Str), ("demand_of" : Str), ("printed_demands" : Str), ("fixed_net" : Str), ("demands_at" : Str), ("_law_begin" : Str), ("_law_draw" : Str), ("_law_rare" : Str), ("_law_is_int" : Str), ("_law_ints" : Str), ("_law_spans" : Str), ("_law_pair" : Str), ("_law_tie_rows" : Str), ("_law_net" : Str), ("_law_basic" : Str), ("_law_broken" : Str), ("_law_full_state" : Str), ("_law_lengths" : Str), ("_law_anchor" : Str), ("_law_demand" : Str), ("_law_demands" : Str), ("_law_at" : Str), ("_law_wide_net" : Str), ("_law_odd_bound" : Str), ("_law_odd_wait" : Str), ("_law_odd_net" : Str), ("_law_drawn_lengths" : Str), ("_law_row_kept" : Str), ("_law_are_demands" : Str), ("law" : Str)]
abbrev slots : List (List Str) := [
  [("work" : Str)],
  [("work" : Str)],
  [("point" : Str)],
  [("net" : Str)],
  [("horizon" : Str), ("points" : Str), ("found" : Str), ("point" : Str)],
  [("spans" : Str), ("found" : Str), ("work" : Str), ("least" : Str), ("most" : Str)],
  [("spans" : Str), ("wait" : Str), ("point" : Str), ("work" : Str), ("minutes" : Str)],
  [("net" : Str), ("found" : Str), ("horizon" : Str), ("spans" : Str), ("bounds" : Str), ("waits" : Str), ("wait" : Str), ("a" : Str), ("b" : Str), ("w" : Str)],
  [("point" : Str)],
  [("point" : Str)],
  [("spans" : Str), ("row" : Str), ("a" : Str), ("b" : Str), ("w" : Str)],
  [("net" : Str), ("row" : Str)],
  [("net" : Str), ("lengths" : Str), ("length" : Str)],
  [("net" : Str), ("lengths" : Str)],
  [("script" : Str)],
  [("d" : Str), ("many" : Str), ("value" : Str), ("number" : Str), ("step" : Str), ("mixed" : Str)],
  [("d" : Str), ("many" : Str)],
  [("thing" : Str)],
  [("thing" : Str), ("many" : Str), ("one" : Str)],
  [("d" : Str), ("works" : Str), ("widest" : Str), ("found" : Str), ("work" : Str), ("least" : Str)],
  [("d" : Str), ("works" : Str), ("first" : Str), ("second" : Str)],
  [("d" : Str), ("u" : Str), ("v" : Str), ("kind" : Str), ("low" : Str), ("high" : Str)],
  [("d" : Str), ("works" : Str), ("horizon" : Str), ("many" : Str), ("widest" : Str), ("spans" : Str), ("bounds" : Str), ("waits" : Str), ("points" : Str), ("turn" : Str), ("kind" : Str), ("u" : Str), ("v" : Str), ("a" : Str), ("b" : Str)],
  [("net" : Str), ("found" : Str), ("points" : Str), ("point" : Str), ("work" : Str), ("bound" : Str), ("wait" : Str), ("most" : Str)],
  [("row" : Str), ("state" : Str), ("came" : Str), ("met" : Str), ("ended" : Str)],
  [("horizon" : Str), ("log" : Str), ("times" : Str), ("pair" : Str)],
  [("d" : Str), ("net" : Str), ("span" : Str)],
  [("point" : Str)],
  [("spans" : Str), ("row" : Str), ("w" : Str)],
  [("net" : Str), ("row" : Str)],
  [("net" : Str), ("lengths" : Str), ("one" : Str)],
  [("d" : Str), ("works" : Str), ("spans" : Str), ("work" : Str), ("least" : Str)],
  [("d" : Str), ("works" : Str), ("a" : Str), ("b" : Str)],
  [("d" : Str), ("works" : Str), ("longest" : Str), ("work" : Str), ("point" : Str)],
  [("d" : Str), ("works" : Str), ("net" : Str), ("more" : Str), ("held" : Str), ("bounds" : Str), ("waits" : Str), ("longest" : Str), ("turn" : Str)],
  [("d" : Str), ("net" : Str), ("span" : Str)],
  [("net" : Str), ("row" : Str), ("starts" : Str), ("choice" : Str), ("lengths" : Str), ("log" : Str), ("span" : Str), ("k" : Str)],
  [("net" : Str), ("actual" : Str), ("starts" : Str), ("rows" : Str), ("minutes" : Str), ("k" : Str), ("p" : Str), ("q" : Str)],
  [("script" : Str), ("d" : Str), ("net" : Str), ("lengths" : Str), ("fixed" : Str), ("starts" : Str), ("actual" : Str), ("told" : Str), ("work" : Str)]]
/-- start_of: 0=work -/
def b_start_of : C := (.cons (.ret (.bin .Add (.bin .Mult (.int 2) (.var 0)) (.int 1))) .nil)
/-- end_of: 0=work -/
def b_end_of : C := (.cons (.ret (.bin .Add (.bin .Mult (.int 2) (.var 0)) (.int 2))) .nil)
/-- work_of: 0=point -/
def b_work_of : C := (.cons (.ret (.bin .FloorDiv (.bin .Sub (.var 0) (.int 1)) (.int 2))) .nil)
/-- points_of: 0=net -/
def b_points_of : C := (.cons (.ret (.bin .Add (.bin .Mult (.int 2) (.blt .len (.cons (.idx (.var 0) (.int 2)) .nil))) (.int 1))) .nil)
/-- point_rows: 0=horizon 1=points 2=found 3=point -/
def b_point_rows : C := (.cons (.asg (.tnm 2) (.lst .nil)) (.cons (.for_ (.tnm 3) (.srng (.cons (.int 1) (.cons (.var 1) .nil))) (.cons (.exs (.mut .append 2 (.cons (.tup (.cons (.int 0) (.cons (.var 3) (.cons (.var 0) (.cons .non .nil))))) .nil))) (.cons (.exs (.mut .append 2 (.cons (.tup (.cons (.var 3) (.cons (.int 0) (.cons (.int 0) (.cons .non .nil))))) .nil))) .nil))) (.cons (.ret (.mv 2)) .nil)))
/-- span_rows: 0=spans 1=found 2=work 3=least 4=most -/
def b_span_rows : C := (.cons (.asg (.tnm 1) (.lst .nil)) (.cons (.for_ (.ttup (.cons (.tnm 2) (.cons (.ttup (.cons (.tnm 3) (.cons (.tnm 4) .nil))) .nil))) (.senum (.var 0)) (.cons (.exs (.mut .append 1 (.cons (.tup (.cons (.call 0 (.cons (.var 2) .nil)) (.cons (.call 1 (.cons (.var 2) .nil)) (.cons (.var 4) (.cons .non .nil))))) .nil))) (.cons (.exs (.mut .append 1 (.cons (.tup (.cons (.call 1 (.cons (.var 2) .nil)) (.cons (.call 0 (.cons (.var 2) .nil)) (.cons (.neg (.var 3)) (.cons .non .nil))))) .nil))) .nil))) (.cons (.ret (.mv 1)) .nil)))
/-- wait_row: 0=spans 1=wait 2=point 3=work 4=minutes -/
def b_wait_row : C := (.cons (.asg (.ttup (.cons (.tnm 2) (.cons (.tnm 3) (.cons (.tnm 4) .nil)))) (.var 1)) (.cons (.ret (.tup (.cons (.var 2) (.cons (.call 0 (.cons (.var 3) .nil)) (.cons (.neg (.blt .min (.cons (.var 4) (.cons (.idx (.idx (.var 0) (.var 3)) (.int 1)) .nil)))) (.cons (.var 3) .nil)))))) .nil))
/-- basic_rows: 0=net 1=found 2=horizon 3=spans 4=bounds 5=waits 6=wait 7=a 8=b 9=w -/
def b_basic_rows : C := (.cons (.asg (.ttup (.cons (.tnm 2) (.cons (.tnm 3) (.cons (.tnm 4) (.cons (.tnm 5) .nil))))) (.tup (.cons (.idx (.var 0) (.int 1)) (.cons (.idx (.var 0) (.int 2)) (.cons (.idx (.var 0) (.int 3)) (.cons (.idx (.var 0) (.int 4)) .nil)))))) (.cons (.asg (.tnm 1) (.bin .Add (.call 4 (.cons (.var 2) (.cons (.call 3 (.cons (.var 0) .nil)) .nil))) (.call 5 (.cons (.var 3) .nil)))) (.cons (.exs (.mut .extend 1 (.cons (.comp (.tup (.cons (.var 7) (.cons (.var 8) (.cons (.var 9) (.cons .non .nil))))) (.ttup (.cons (.tnm 7) (.cons (.tnm 8) (.cons (.tnm 9) .nil)))) (.sseq (.var 4)) (.bl true) [7, 8, 9]) .nil))) (.cons (.exs (.mut .extend 1 (.cons (.comp (.call 6 (.cons (.var 3) (.cons (.var 6) .nil))) (.tnm 6) (.sseq (.var 5)) (.bl true) [6]) .nil))) (.cons (.ret (.blt .tuple (.cons (.var 1) .nil))) .nil)))))
/-- is_end: 0=point -/
def b_is_end : C := (.cons (.ret (.and (.cmp .Gt (.var 0) (.int 0)) (.one (.cmp .Eq (.bin .Mod (.var 0) (.int 2)) (.int 0))))) .nil)
/-- anchor_of: 0=point -/
def b_anchor_of : C := (.cons (.cond (.cmp .Eq (.var 0) (.int 0)) (.cons (.ret (.int 0)) .nil) .nil) (.cons (.ret (.call 0 (.cons (.call 2 (.cons (.var 0) .nil)) .nil))) .nil))
/-- demand_of: 0=spans 1=row 2=a 3=b 4=w -/
def b_demand_of : C := (.cons (.asg (.ttup (.cons (.tnm 2) (.cons (.tnm 3) (.cons (.tnm 4) .nil)))) (.slc (.var 1) .nil (.one (.int 3)))) (.cons (.cond (.tst (.call 8 (.cons (.var 2) .nil))) (.cons (.asg (.tnm 4) (.bin .Add (.var 4) (.idx (.idx (.var 0) (.call 2 (.cons (.var 2) .nil))) (.int 0)))) .nil) .nil) (.cons (.cond (.tst (.call 8 (.cons (.var 3) .nil))) (.cons (.asg (.tnm 4) (.bin .Sub (.var 4) (.idx (.idx (.var 0) (.call 2 (.cons (.var 3) .nil))) (.int 1)))) .nil) .nil) (.cons (.ret (.tup (.cons (.call 9 (.cons (.var 2) .nil)) (.cons (.call 9 (.cons (.var 3) .nil)) (.cons (.var 4) .nil))))) .nil))))
/-- printed_demands: 0=net 1=row -/
def b_printed_demands : C := (.cons (.ret (.blt .tuple (.cons (.comp (.call 10 (.cons (.idx (.var 0) (.int 2)) (.cons (.var 1) .nil))) (.tnm 1) (.sseq (.call 7 (.cons (.var 0) .nil))) (.bl true) [1]) .nil))) .nil)
/-- fixed_net: 0=net 1=lengths 2=length -/
def b_fixed_net : C := (.cons (.ret (.tup (.cons (.str "net") (.cons (.idx (.var 0) (.int 1)) (.cons (.blt .tuple (.cons (.comp (.tup (.cons (.var 2) (.cons (.var 2) .nil))) (.tnm 2) (.sseq (.var 1)) (.bl true) [2]) .nil)) (.cons (.idx (.var 0) (.int 3)) (.cons (.idx (.var 0) (.int 4)) .nil))))))) .nil)
/-- demands_at: 0=net 1=lengths -/
def b_demands_at : C := (.cons (.ret (.call 11 (.cons (.call 12 (.cons (.var 0) (.cons (.var 1) .nil))) .nil))) .nil)
/-- _law_begin: 0=script -/
def b__law_begin : C := (.cons (.ret (.lst (.cons (.frz (.blt .list (.cons (.var 0) .nil))) (.cons (.int 0) (.cons (.int 0) (.cons (.int 7) (.cons (.int 0) .nil))))))) .nil)
/-- _law_draw: 0=d 1=many 2=value 3=number 4=step 5=mixed -/
def b__law_draw : C := (.cons (.cond (.cmp .Lt (.var 1) (.int 2)) (.cons (.ret (.int 0)) .nil) .nil) (.cons (.cond (.cmp .Eq (.idx (.var 0) (.int 2)) (.int 0)) (.cons (.asg (.tsub 0 (.int 4)) (.bin .Add (.idx (.var 0) (.int 4)) (.int 1))) (.cons (.asg (.tnm 3) (.bin .Mult (.int 12345) (.idx (.var 0) (.int 4)))) (.cons (.cond (.cmp .Lt (.idx (.var 0) (.int 1)) (.blt .len (.cons (.idx (.var 0) (.int 0)) .nil))) (.cons (.asg (.tnm 3) (.idx (.idx (.var 0) (.int 0)) (.idx (.var 0) (.int 1)))) (.cons (.asg (.tsub 0 (.int 1)) (.bin .Add (.idx (.var 0) (.int 1)) (.int 1))) (.cons (.cond (.cmp .GtE (.blt .abs (.cons (.var 3) .nil)) (.bin .Pow (.int 10) (.int 18))) (.cons (.asg (.tsub 0 (.int 2)) (.blt .abs (.cons (.var 3) .nil))) .nil) .nil) .nil))) .nil) (.cons (.cond (.cmp .Eq (.idx (.var 0) (.int 2)) (.int 0)) (.cons (.asg (.tnm 4) (.bin .Add (.bin .Add (.bin .Add (.bin .Mult (.idx (.var 0) (.int 3)) (.int 1103515245)) (.bin .Mult (.var 3) (.int 69069))) (.int 12345)) (.bin .Mult (.int 7919) (.idx (.var 0) (.int 4))))) (.cons (.asg (.tsub 0 (.int 3)) (.bin .Mod (.blt .int (.cons (.var 4) .nil)) (.int 2305843009213693951))) (.cons (.asg (.tnm 5) (.bin .Add (.bin .Mult (.idx (.var 0) (.int 3)) (.int 48271)) (.bin .FloorDiv (.idx (.var 0) (.int 3)) (.int 8191)))) (.cons (.ret (.bin .Mod (.blt .int (.cons (.bin .FloorDiv (.var 5) (.int 33554393)) .nil)) (.var 1))) .nil)))) .nil) .nil)))) .nil) (.cons (.asg (.tnm 2) (.bin .Mod (.blt .int (.cons (.idx (.var 0) (.int 2)) .nil)) (.var 1))) (.cons (.asg (.tsub 0 (.int 2)) (.bin .FloorDiv (.idx (.var 0) (.int 2)) (.var 1))) (.cons (.ret (.var 2)) .nil)))))
/-- _law_rare: 0=d 1=many -/
def b__law_rare : C := (.cons (.ret (.cmp .Eq (.call 15 (.cons (.var 0) (.cons (.var 1) .nil))) (.bin .Add (.bin .Mult (.bin .FloorDiv (.bin .FloorDiv (.var 1) (.int 2)) (.int 2)) (.int 2)) (.int 1)))) .nil)
/-- _law_is_int: 0=thing -/
def b__law_is_int : C := (.cons (.ret (.and (.isi (.var 0) "int") (.one (.not (.isi (.var 0) "bool"))))) .nil)
/-- _law_ints: 0=thing 1=many 2=one -/
def b__law_ints : C := (.cons (.cond (.or (.not (.tst (.isi (.var 0) "tuple"))) (.one (.and (.cmp .IsNot (.var 1) .non) (.one (.cmp .NotEq (.blt .len (.cons (.var 0) .nil)) (.var 1)))))) (.cons (.ret (.bl false)) .nil) .nil) (.cons (.ret (.blt .all (.cons (.comp (.call 17 (.cons (.var 2) .nil)) (.tnm 2) (.sseq (.var 0)) (.bl true) [2]) .nil))) .nil))
/-- _law_spans: 0=d 1=works 2=widest 3=found 4=work 5=least -/
def b__law_spans : C := (.cons (.asg (.tnm 3) (.lst .nil)) (.cons (.for_ (.tnm 4) (.srng (.cons (.var 1) .nil)) (.cons (.asg (.tnm 5) (.bin .Add (.int 1) (.call 15 (.cons (.var 0) (.cons (.int 3) .nil))))) (.cons (.exs (.mut .append 3 (.cons (.tup (.cons (.var 5) (.cons (.bin .Add (.var 5) (.call 15 (.cons (.var 0) (.cons (.bin .Add (.var 2) (.int 1)) .nil)))) .nil))) .nil))) .nil))) (.cons (.ret (.blt .tuple (.cons (.var 3) .nil))) .nil)))
/-- _law_pair: 0=d 1=works 2=first 3=second -/
def b__law_pair : C := (.cons (.asg (.tnm 2) (.call 15 (.cons (.var 0) (.cons (.var 1) .nil)))) (.cons (.asg (.tnm 3) (.call 15 (.cons (.var 0) (.cons (.bin .Sub (.var 1) (.int 1)) .nil)))) (.cons (.cond (.cmp .GtE (.var 3) (.var 2)) (.cons (.asg (.tnm 3) (.bin .Add (.var 3) (.int 1))) .nil) .nil) (.cons (.ret (.tup (.cons (.var 2) (.cons (.var 3) .nil)))) .nil))))
/-- _law_tie_rows: 0=d 1=u 2=v 3=kind 4=low 5=high -/
def b__law_tie_rows : C := (.cons (.asg (.tnm 4) (.call 15 (.cons (.var 0) (.cons (.int 3) .nil)))) (.cons (.asg (.tnm 5) (.bin .Add (.var 4) (.call 15 (.cons (.var 0) (.cons (.int 5) .nil))))) (.cons (.cond (.cmp .Eq (.var 3) (.int 0)) (.cons (.ret (.lst (.cons (.tup (.cons (.bin .Add (.bin .Mult (.int 2) (.var 2)) (.int 1)) (.cons (.bin .Add (.bin .Mult (.int 2) (.var 1)) (.int 2)) (.cons (.neg (.var 4)) .nil)))) (.cons (.tup (.cons (.bin .Add (.bin .Mult (.int 2) (.var 1)) (.int 2)) (.cons (.bin .Add (.bin .Mult (.int 2) (.var 2)) (.int 1)) (.cons (.var 5) .nil)))) .nil)))) .nil) .nil) (.cons (.cond (.cmp .Eq (.var 3) (.int 1)) (.cons (.ret (.lst (.cons (.tup (.cons (.bin .Add (.bin .Mult (.int 2) (.var 2)) (.int 1)) (.cons (.bin .Add (.bin .Mult (.int 2) (.var 1)) (.int 1)) (.cons (.neg (.var 4)) .nil)))) (.cons (.tup (.cons (.bin .Add (.bin .Mult (.int 2) (.var 1)) (.int 1)) (.cons (.bin .Add (.bin .Mult (.int 2) (.var 2)) (.int 1)) (.cons (.bin .Add (.var 5) (.int 2)) .nil)))) .nil)))) .nil) .nil) (.cons (.cond (.cmp .Eq (.var 3) (.int 2)) (.cons (.ret (.lst (.cons (.tup (.cons (.bin .Add (.bin .Mult (.int 2) (.var 1)) (.int 2)) (.cons (.bin .Add (.bin .Mult (.int 2) (.var 2)) (.int 2)) (.cons (.var 5) .nil)))) (.cons (.tup (.cons (.bin .Add (.bin .Mult (.int 2) (.var 2)) (.int 2)) (.cons (.bin .Add (.bin .Mult (.int 2) (.var 1)) (.int 2)) (.cons (.var 5) .nil)))) .nil)))) .nil) .nil) (.cons (.cond (.cmp .Eq (.var 3) (.int 3)) (.cons (.ret (.lst (.cons (.tup (.cons (.bin .Add (.bin .Mult (.int 2) (.var 2)) (.int 1)) (.cons (.bin .Add (.bin .Mult (.int 2) (.var 1)) (.int 2)) (.cons (.neg (.var 4)) .nil)))) .nil))) .nil) .nil) (.cons (.ret (.lst (.cons (.tup (.cons (.bin .Add (.bin .Mult (.int 2) (.var 1)) (.int 2)) (.cons (.bin .Add (.bin .Mult (.int 2) (.var 2)) (.int 1)) (.cons (.var 5) .nil)))) .nil))) .nil)))))))
/-- _law_net: 0=d 1=works 2=horizon 3=many 4=widest 5=spans 6=bounds 7=waits 8=points 9=turn 10=kind 11=u 12=v 13=a 14=b -/
def b__law_net : C := (.cons (.asg (.tnm 5) (.call 19 (.cons (.var 0) (.cons (.var 1) (.cons (.var 4) .nil))))) (.cons (.asg (.tnm 6) (.lst .nil)) (.cons (.asg (.tnm 7) (.lst .nil)) (.cons (.asg (.tnm 8) (.bin .Add (.bin .Mult (.int 2) (.var 1)) (.int 1))) (.cons (.for_ (.tnm 9) (.srng (.cons (.var 3) .nil)) (.cons (.asg (.tnm 10) (.call 15 (.cons (.var 0) (.cons (.int 9) .nil)))) (.cons (.cond (.and (.cmp .Lt (.var 10) (.int 5)) (.one (.cmp .Gt (.var 1) (.int 1)))) (.cons (.asg (.ttup (.cons (.tnm 11) (.cons (.tnm 12) .nil))) (.call 20 (.cons (.var 0) (.cons (.var 1) .nil)))) (.cons (.exs (.mut .extend 6 (.cons (.call 21 (.cons (.var 0) (.cons (.var 11) (.cons (.var 12) (.cons (.var 10) .nil))))) .nil))) .nil)) (.cons (.cond (.and (.cmp .Eq (.var 10) (.int 5)) (.one (.cmp .Gt (.var 1) (.int 1)))) (.cons (.asg (.ttup (.cons (.tnm 11) (.cons (.tnm 12) .nil))) (.call 20 (.cons (.var 0) (.cons (.var 1) .nil)))) (.cons (.exs (.mut .append 7 (.cons (.tup (.cons (.bin .Add (.bin .Mult (.int 2) (.var 12)) (.int 1)) (.cons (.var 11) (.cons (.bin .Add (.int 1) (.call 15 (.cons (.var 0) (.cons (.bin .Add (.idx (.idx (.var 5) (.var 11)) (.int 1)) (.int 2)) .nil)))) .nil)))) .nil))) .nil)) (.cons (.cond (.cmp .Eq (.var 10) (.int 6)) (.cons (.exs (.mut .append 6 (.cons (.tup (.cons (.int 0) (.cons (.bin .Add (.int 1) (.call 15 (.cons (.var 0) (.cons (.bin .Sub (.var 8) (.int 1)) .nil)))) (.cons (.bin .Sub (.var 2) (.call 15 (.cons (.var 0) (.cons (.bin .Add (.int 1) (.bin .FloorDiv (.var 2) (.int 2))) .nil)))) .nil)))) .nil))) .nil) (.cons (.cond (.cmp .Eq (.var 10) (.int 7)) (.cons (.exs (.mut .append 6 (.cons (.tup (.cons (.bin .Add (.bin .Mult (.int 2) (.call 15 (.cons (.var 0) (.cons (.var 1) .nil)))) (.int 1)) (.cons (.int 0) (.cons (.neg (.call 15 (.cons (.var 0) (.cons (.int 4) .nil)))) .nil)))) .nil))) .nil) (.cons (.asg (.tnm 13) (.call 15 (.cons (.var 0) (.cons (.var 8) .nil)))) (.cons (.asg (.tnm 14) (.call 15 (.cons (.var 0) (.cons (.bin .Sub (.var 8) (.int 1)) .nil)))) (.cons (.cond (.cmp .GtE (.var 14) (.var 13)) (.cons (.asg (.tnm 14) (.bin .Add (.var 14) (.int 1))) .nil) .nil) (.cons (.exs (.mut .append 6 (.cons (.tup (.cons (.var 13) (.cons (.var 14) (.cons (.bin .Sub (.call 15 (.cons (.var 0) (.cons (.int 14) .nil))) (.int 4)) .nil)))) .nil))) .nil))))) .nil)) .nil)) .nil)) .nil))) (.cons (.ret (.tup (.cons (.str "net") (.cons (.var 2) (.cons (.var 5) (.cons (.blt .tuple (.cons (.var 6) .nil)) (.cons (.blt .tuple (.cons (.var 7) .nil)) .nil))))))) .nil))))))
/-- _law_basic: 0=net 1=found 2=points 3=point 4=work 5=bound 6=wait 7=most -/
def b__law_basic : C := (.cons (.asg (.tnm 1) (.lst .nil)) (.cons (.asg (.tnm 2) (.bin .Add (.bin .Mult (.int 2) (.blt .len (.cons (.idx (.var 0) (.int 2)) .nil))) (.int 1))) (.cons (.for_ (.tnm 3) (.srng (.cons (.int 1) (.cons (.var 2) .nil))) (.cons (.exs (.mut .append 1 (.cons (.tup (.cons (.int 0) (.cons (.var 3) (.cons (.idx (.var 0) (.int 1)) (.cons .non .nil))))) .nil))) (.cons (.exs (.mut .append 1 (.cons (.tup (.cons (.var 3) (.cons (.int 0) (.cons (.int 0) (.cons .non .nil))))) .nil))) .nil))) (.cons (.for_ (.tnm 4) (.srng (.cons (.blt .len (.cons (.idx (.var 0) (.int 2)) .nil)) .nil)) (.cons (.exs (.mut .append 1 (.cons (.tup (.cons (.bin .Add (.bin .Mult (.int 2) (.var 4)) (.int 1)) (.cons (.bin .Add (.bin .Mult (.int 2) (.var 4)) (.int 2)) (.cons (.idx (.idx (.idx (.var 0) (.int 2)) (.var 4)) (.int 1)) (.cons .non .nil))))) .nil))) (.cons (.exs (.mut .append 1 (.cons (.tup (.cons (.bin .Add (.bin .Mult (.int 2) (.var 4)) (.int 2)) (.cons (.bin .Add (.bin .Mult (.int 2) (.var 4)) (.int 1)) (.cons (.neg (.idx (.idx (.idx (.var 0) (.int 2)) (.var 4)) (.int 0))) (.cons .non .nil))))) .nil))) .nil))) (.cons (.for_ (.tnm 5) (.sseq (.idx (.var 0) (.int 3))) (.cons (.exs (.mut .append 1 (.cons (.tup (.cons (.idx (.var 5) (.int 0)) (.cons (.idx (.var 5) (.int 1)) (.cons (.idx (.var 5) (.int 2)) (.cons .non .nil))))) .nil))) .nil)) (.cons (.for_ (.tnm 6) (.sseq (.idx (.var 0) (.int 4))) (.cons (.asg (.tnm 7) (.idx (.idx (.idx (.var 0) (.int 2)) (.idx (.var 6) (.int 1))) (.int 1))) (.cons (.exs (.mut .append 1 (.cons (.tup (.cons (.idx (.var 6) (.int 0)) (.cons (.bin .Add (.bin .Mult (.int 2) (.idx (.var 6) (.int 1))) (.int 1)) (.cons (.neg (.blt .min (.cons (.idx (.var 6) (.int 2)) (.cons (.var 7) .nil)))) (.cons (.idx (.var 6) (.int 1)) .nil))))) .nil))) .nil))) (.cons (.ret (.mv 1)) .nil)))))))
/-- _law_broken: 0=row 1=state 2=came 3=met 4=ended -/
def b__law_broken : C := (.cons (.asg (.tnm 2) (.idx (.idx (.var 1) (.int 1)) (.idx (.var 0) (.int 0)))) (.cons (.cond (.cmp .Is (.var 2) .non) (.cons (.ret (.bl false)) .nil) .nil) (.cons (.cond (.cmp .IsNot (.idx (.var 0) (.int 3)) .non) (.cons (.asg (.tnm 4) (.idx (.idx (.var 1) (.int 1)) (.bin .Add (.bin .Mult (.int 2) (.idx (.var 0) (.int 3))) (.int 2)))) (.cons (.cond (.and (.cmp .IsNot (.var 4) .non) (.one (.cmp .LtE (.var 4) (.var 2)))) (.cons (.ret (.bl false)) .nil) .nil) .nil)) .nil) (.cons (.asg (.tnm 3) (.idx (.idx (.var 1) (.int 1)) (.idx (.var 0) (.int 1)))) (.cons (.cond (.cmp .Is (.var 3) .non) (.cons (.ret (.cmp .GtE (.idx (.var 1) (.int 0)) (.bin .Add (.var 2) (.idx (.var 0) (.int 2))))) .nil) .nil) (.cons (.ret (.cmp .Gt (.var 3) (.bin .Add (.var 2) (.idx (.var 0) (.int 2))))) .nil))))))
/-- _law_full_state: 0=horizon 1=log 2=times 3=pair -/
def b__law_full_state : C := (.cons (.asg (.tnm 2) (.lst (.cons (.int 0) .nil))) (.cons (.for_ (.tnm 3) (.sseq (.var 1)) (.cons (.exs (.mut .extend 2 (.cons (.lst (.cons (.idx (.var 3) (.int 0)) (.cons (.idx (.var 3) (.int 1)) .nil))) .nil))) .nil)) (.cons (.ret (.tup (.cons (.var 0) (.cons (.blt .tuple (.cons (.var 2) .nil)) .nil)))) .nil)))
/-- _law_lengths: 0=d 1=net 2=span -/
def b__law_lengths : C := (.cons (.ret (.blt .tuple (.cons (.comp (.bin .Add (.idx (.var 2) (.int 0)) (.call 15 (.cons (.var 0) (.cons (.bin .Add (.bin .Sub (.idx (.var 2) (.int 1)) (.idx (.var 2) (.int 0))) (.int 1)) .nil)))) (.tnm 2) (.sseq (.idx (.var 1) (.int 2))) (.bl true) [2]) .nil))) .nil)
/-- _law_anchor: 0=point -/
def b__law_anchor : C := (.cons (.cond (.cmp .Eq (.var 0) (.int 0)) (.cons (.ret (.int 0)) .nil) .nil) (.cons (.ret (.bin .Add (.bin .Sub (.var 0) (.int 1)) (.bin .BitAnd (.var 0) (.int 1)))) .nil))
/-- _law_demand: 0=spans 1=row 2=w -/
def b__law_demand : C := (.cons (.asg (.tnm 2) (.idx (.var 1) (.int 2))) (.cons (.cond (.and (.cmp .Gt (.idx (.var 1) (.int 0)) (.int 0)) (.one (.not (.tst (.bin .BitAnd (.idx (.var 1) (.int 0)) (.int 1)))))) (.cons (.asg (.tnm 2) (.bin .Add (.var 2) (.idx (.idx (.var 0) (.bin .Sub (.bin .FloorDiv (.idx (.var 1) (.int 0)) (.int 2)) (.int 1))) (.int 0)))) .nil) .nil) (.cons (.cond (.and (.cmp .Gt (.idx (.var 1) (.int 1)) (.int 0)) (.one (.not (.tst (.bin .BitAnd (.idx (.var 1) (.int 1)) (.int 1)))))) (.cons (.asg (.tnm 2) (.bin .Sub (.var 2) (.idx (.idx (.var 0) (.bin .Sub (.bin .FloorDiv (.idx (.var 1) (.int 1)) (.int 2)) (.int 1))) (.int 1)))) .nil) .nil) (.cons (.ret (.tup (.cons (.call 27 (.cons (.idx (.var 1) (.int 0)) .nil)) (.cons (.call 27 (.cons (.idx (.var 1) (.int 1)) .nil)) (.cons (.var 2) .nil))))) .nil))))
/-- _law_demands: 0=net 1=row -/
def b__law_demands : C := (.cons (.ret (.comp (.call 28 (.cons (.idx (.var 0) (.int 2)) (.cons (.var 1) .nil))) (.tnm 1) (.sseq (.call 23 (.cons (.var 0) .nil))) (.bl true) [1])) .nil)
/-- _law_at: 0=net 1=lengths 2=one -/
def b__law_at : C := (.cons (.ret (.tup (.cons (.str "net") (.cons (.idx (.var 0) (.int 1)) (.cons (.blt .tuple (.cons (.comp (.tup (.cons (.var 2) (.cons (.var 2) .nil))) (.tnm 2) (.sseq (.var 1)) (.bl true) [2]) .nil)) (.cons (.idx (.var 0) (.int 3)) (.cons (.idx (.var 0) (.int 4)) .nil))))))) .nil)
/-- _law_wide_net: 0=d 1=works 2=spans 3=work 4=least -/
def b__law_wide_net : C := (.cons (.asg (.tnm 2) (.lst .nil)) (.cons (.for_ (.tnm 3) (.srng (.cons (.var 1) .nil)) (.cons (.asg (.tnm 4) (.bin .Add (.int 1) (.call 15 (.cons (.var 0) (.cons (.int 480) .nil))))) (.cons (.exs (.mut .append 2 (.cons (.tup (.cons (.var 4) (.cons (.bin .Add (.var 4) (.call 15 (.cons (.var 0) (.cons (.bin .Sub (.int 481) (.var 4)) .nil)))) .nil))) .nil))) .nil))) (.cons (.ret (.tup (.cons (.str "net") (.cons (.bin .Add (.int 1) (.call 15 (.cons (.var 0) (.cons (.int 480) .nil)))) (.cons (.blt .tuple (.cons (.var 2) .nil)) (.cons (.tup .nil) (.cons (.tup .nil) .nil))))))) .nil)))
/-- _law_odd_bound: 0=d 1=works 2=a 3=b -/
def b__law_odd_bound : C := (.cons (.asg (.tnm 2) (.call 15 (.cons (.var 0) (.cons (.bin .Add (.bin .Mult (.int 2) (.var 1)) (.int 1)) .nil)))) (.cons (.asg (.tnm 3) (.call 15 (.cons (.var 0) (.cons (.bin .Mult (.int 2) (.var 1)) .nil)))) (.cons (.cond (.cmp .GtE (.var 3) (.var 2)) (.cons (.asg (.tnm 3) (.bin .Add (.var 3) (.int 1))) .nil) .nil) (.cons (.cond (.cmp .Eq (.call 15 (.cons (.var 0) (.cons (.int 5) .nil))) (.int 1)) (.cons (.ret (.tup (.cons (.var 2) (.cons (.var 3) (.cons (.bin .Sub (.call 15 (.cons (.var 0) (.cons (.int 2001) .nil))) (.int 1000)) .nil))))) .nil) .nil) (.cons (.ret (.tup (.cons (.var 2) (.cons (.var 3) (.cons (.bin .Sub (.call 15 (.cons (.var 0) (.cons (.int 41) .nil))) (.int 20)) .nil))))) .nil)))))
/-- _law_odd_wait: 0=d 1=works 2=longest 3=work 4=point -/
def b__law_odd_wait : C := (.cons (.asg (.tnm 3) (.call 15 (.cons (.var 0) (.cons (.var 1) .nil)))) (.cons (.asg (.tnm 4) (.call 15 (.cons (.var 0) (.cons (.bin .Add (.bin .Mult (.int 2) (.var 1)) (.int 1)) .nil)))) (.cons (.cond (.cmp .Eq (.var 4) (.bin .Add (.bin .Mult (.int 2) (.var 3)) (.int 2))) (.cons (.asg (.tnm 4) (.bin .Add (.bin .Mult (.int 2) (.var 3)) (.int 1))) .nil) .nil) (.cons (.ret (.tup (.cons (.var 4) (.cons (.var 3) (.cons (.bin .Add (.int 1) (.call 15 (.cons (.var 0) (.cons (.var 2) .nil)))) .nil))))) .nil))))
/-- _law_odd_net: 0=d 1=works 2=net 3=more 4=held 5=bounds 6=waits 7=longest 8=turn -/
def b__law_odd_net : C := (.cons (.asg (.tnm 1) (.bin .Add (.int 1) (.call 15 (.cons (.var 0) (.cons (.int 4) .nil))))) (.cons (.asg (.tnm 2) (.call 22 (.cons (.var 0) (.cons (.var 1) (.cons (.bin .Add (.int 5) (.call 15 (.cons (.var 0) (.cons (.int 40) .nil)))) (.cons (.call 15 (.cons (.var 0) (.cons (.int 6) .nil))) (.cons (.int 6) .nil))))))) (.cons (.asg (.ttup (.cons (.tnm 5) (.cons (.tnm 6) (.cons (.tnm 7) .nil)))) (.tup (.cons (.call 15 (.cons (.var 0) (.cons (.int 6) .nil))) (.cons (.call 15 (.cons (.var 0) (.cons (.int 4) .nil))) (.cons (.int 12) .nil))))) (.cons (.cond (.tst (.call 16 (.cons (.var 0) (.cons (.int 16) .nil)))) (.cons (.asg (.tnm 1) (.bin .Add (.int 9) (.call 15 (.cons (.var 0) (.cons (.int 4) .nil))))) (.cons (.asg (.tnm 2) (.call 31 (.cons (.var 0) (.cons (.var 1) .nil)))) (.cons (.asg (.ttup (.cons (.tnm 5) (.cons (.tnm 6) (.cons (.tnm 7) .nil)))) (.tup (.cons (.bin .Add (.int 20) (.call 15 (.cons (.var 0) (.cons (.int 381) .nil)))) (.cons (.int 40) (.cons (.int 480) .nil))))) .nil))) .nil) (.cons (.asg (.tnm 3) (.comp (.call 32 (.cons (.var 0) (.cons (.var 1) .nil))) (.tnm 8) (.srng (.cons (.var 5) .nil)) (.bl true) [8])) (.cons (.asg (.tnm 4) (.comp (.call 33 (.cons (.var 0) (.cons (.var 1) (.cons (.var 7) .nil)))) (.tnm 8) (.srng (.cons (.var 6) .nil)) (.bl true) [8])) (.cons (.ret (.tup (.cons (.str "net") (.cons (.idx (.var 2) (.int 1)) (.cons (.idx (.var 2) (.int 2)) (.cons (.bin .Add (.idx (.var 2) (.int 3)) (.blt .tuple (.cons (.var 3) .nil))) (.cons (.bin .Add (.idx (.var 2) (.int 4)) (.blt .tuple (.cons (.var 4) .nil))) .nil))))))) .nil)))))))
/-- _law_drawn_lengths: 0=d 1=net 2=span -/
def b__law_drawn_lengths : C := (.cons (.cond (.cmp .Eq (.call 15 (.cons (.var 0) (.cons (.int 2) .nil))) (.int 0)) (.cons (.ret (.call 26 (.cons (.var 0) (.cons (.var 1) .nil)))) .nil) .nil) (.cons (.ret (.blt .tuple (.cons (.comp (.idx (.var 2) (.call 15 (.cons (.var 0) (.cons (.int 2) .nil)))) (.tnm 2) (.sseq (.idx (.var 1) (.int 2))) (.bl true) [2]) .nil))) .nil))
/-- _law_row_kept: 0=net 1=row 2=starts 3=choice 4=lengths 5=log 6=span 7=k -/
def b__law_row_kept : C := (.cons (.for_ (.tnm 3) (.srng (.cons (.int 4) .nil)) (.cons (.asg (.tnm 4) (.comp (.idx (.var 6) (.int 0)) (.tnm 6) (.sseq (.idx (.var 0) (.int 2))) (.bl true) [6])) (.cons (.cond (.cmp .Gt (.idx (.var 1) (.int 0)) (.int 0)) (.cons (.asg (.tsub 4 (.bin .FloorDiv (.bin .Sub (.idx (.var 1) (.int 0)) (.int 1)) (.int 2))) (.idx (.idx (.idx (.var 0) (.int 2)) (.bin .FloorDiv (.bin .Sub (.idx (.var 1) (.int 0)) (.int 1)) (.int 2))) (.bin .BitAnd (.var 3) (.int 1)))) .nil) .nil) (.cons (.cond (.cmp .Gt (.idx (.var 1) (.int 1)) (.int 0)) (.cons (.asg (.tsub 4 (.bin .FloorDiv (.bin .Sub (.idx (.var 1) (.int 1)) (.int 1)) (.int 2))) (.idx (.idx (.idx (.var 0) (.int 2)) (.bin .FloorDiv (.bin .Sub (.idx (.var 1) (.int 1)) (.int 1)) (.int 2))) (.bin .RShift (.var 3) (.int 1)))) .nil) .nil) (.cons (.asg (.tnm 5) (.comp (.tup (.cons (.idx (.var 2) (.var 7)) (.cons (.bin .Add (.idx (.var 2) (.var 7)) (.idx (.var 4) (.var 7))) .nil))) (.tnm 7) (.srng (.cons (.blt .len (.cons (.var 2) .nil)) .nil)) (.bl true) [7])) (.cons (.cond (.tst (.call 24 (.cons (.var 1) (.cons (.call 25 (.cons (.idx (.var 0) (.int 1)) (.cons (.var 5) .nil))) .nil)))) (.cons (.ret (.bl false)) .nil) .nil) .nil)))))) (.cons (.ret (.bl true)) .nil))
/-- _law_are_demands: 0=net 1=actual 2=starts 3=rows 4=minutes 5=k 6=p 7=q -/
def b__law_are_demands : C := (.cons (.asg (.tnm 3) (.call 23 (.cons (.var 0) .nil))) (.cons (.cond (.or (.not (.tst (.isi (.var 1) "tuple"))) (.one (.cmp .NotEq (.blt .len (.cons (.var 1) .nil)) (.blt .len (.cons (.var 3) .nil))))) (.cons (.ret (.bl false)) .nil) .nil) (.cons (.asg (.tnm 4) (.bin .Add (.tup (.cons (.int 0) .nil)) (.blt .tuple (.cons (.var 2) .nil)))) (.cons (.for_ (.tnm 5) (.srng (.cons (.blt .len (.cons (.var 3) .nil)) .nil)) (.cons (.cond (.or (.not (.tst (.call 18 (.cons (.idx (.var 1) (.var 5)) (.cons (.int 3) .nil))))) (.one (.cmp .NotEq (.idx (.var 1) (.var 5)) (.call 28 (.cons (.idx (.var 0) (.int 2)) (.cons (.idx (.var 3) (.var 5)) .nil)))))) (.cons (.ret (.bl false)) .nil) .nil) (.cons (.par 6 7 (.cons (.bin .FloorDiv (.bin .Add (.idx (.idx (.var 1) (.var 5)) (.int 0)) (.int 1)) (.int 2)) (.cons (.bin .FloorDiv (.bin .Add (.idx (.idx (.var 1) (.var 5)) (.int 1)) (.int 1)) (.int 2)) .nil))) (.cons (.cond (.cmp .NotEq (.cmp .LtE (.idx (.var 4) (.var 7)) (.bin .Add (.idx (.var 4) (.var 6)) (.idx (.idx (.var 1) (.var 5)) (.int 2)))) (.call 36 (.cons (.var 0) (.cons (.idx (.var 3) (.var 5)) (.cons (.var 2) .nil))))) (.cons (.ret (.bl false)) .nil) .nil) .nil)))) (.cons (.ret (.bl true)) .nil)))))
/-- law: 0=script 1=d 2=net 3=lengths 4=fixed 5=starts 6=actual 7=told 8=work -/
def b_law : C := (.cons (.asg (.tnm 1) (.call 14 (.cons (.var 0) .nil))) (.cons (.asg (.tnm 2) (.call 34 (.cons (.var 1) .nil))) (.cons (.asg (.tnm 3) (.call 35 (.cons (.var 1) (.cons (.var 2) .nil)))) (.cons (.asg (.tnm 4) (.call 30 (.cons (.var 2) (.cons (.var 3) .nil)))) (.cons (.asg (.tnm 5) (.comp (.call 15 (.cons (.var 1) (.cons (.bin .Add (.int 1) (.idx (.var 2) (.int 1))) .nil))) (.tnm 8) (.sseq (.idx (.var 2) (.int 2))) (.bl true) [8])) (.cons (.asg (.tnm 6) (.call 11 (.cons (.var 2) .nil))) (.cons (.cond (.not (.tst (.call 37 (.cons (.var 2) (.cons (.var 6) (.cons (.var 5) .nil)))))) (.cons (.ret (.bl false)) .nil) .nil) (.cons (.asg (.tnm 7) (.call 13 (.cons (.var 2) (.cons (.var 3) .nil)))) (.cons (.cond (.not (.tst (.call 37 (.cons (.var 4) (.cons (.var 7) (.cons (.var 5) .nil)))))) (.cons (.ret (.bl false)) .nil) .nil) (.cons (.cond (.or (.cmp .NotEq (.call 11 (.cons (.var 4) .nil)) (.var 7)) (.one (.cmp .NotEq (.call 13 (.cons (.var 4) (.cons (.var 3) .nil))) (.var 7)))) (.cons (.ret (.bl false)) .nil) .nil) (.cons (.ret (.and (.cmp .Eq (.call 11 (.cons (.var 2) .nil)) (.var 6)) (.and (.cmp .Eq (.blt .list (.cons (.var 6) .nil)) (.call 29 (.cons (.var 2) .nil))) (.one (.cmp .Eq (.call 13 (.cons (.var 2) (.cons (.var 3) .nil))) (.var 7)))))) .nil)))))))))))
def T : List Fn := [⟨1, 1, b_start_of⟩, ⟨1, 1, b_end_of⟩, ⟨1, 1, b_work_of⟩, ⟨1, 1, b_points_of⟩, ⟨2, 4, b_point_rows⟩, ⟨1, 5, b_span_rows⟩, ⟨2, 5, b_wait_row⟩, ⟨1, 10, b_basic_rows⟩, ⟨1, 1, b_is_end⟩, ⟨1, 1, b_anchor_of⟩, ⟨2, 5, b_demand_of⟩, ⟨1, 2, b_printed_demands⟩, ⟨2, 3, b_fixed_net⟩, ⟨2, 2, b_demands_at⟩, ⟨1, 1, b__law_begin⟩, ⟨2, 6, b__law_draw⟩, ⟨2, 2, b__law_rare⟩, ⟨1, 1, b__law_is_int⟩, ⟨2, 3, b__law_ints⟩, ⟨3, 6, b__law_spans⟩, ⟨2, 4, b__law_pair⟩, ⟨4, 6, b__law_tie_rows⟩, ⟨5, 15, b__law_net⟩, ⟨1, 8, b__law_basic⟩, ⟨2, 5, b__law_broken⟩, ⟨2, 4, b__law_full_state⟩, ⟨2, 3, b__law_lengths⟩, ⟨1, 1, b__law_anchor⟩, ⟨2, 3, b__law_demand⟩, ⟨1, 2, b__law_demands⟩, ⟨2, 3, b__law_at⟩, ⟨2, 5, b__law_wide_net⟩, ⟨2, 4, b__law_odd_bound⟩, ⟨3, 5, b__law_odd_wait⟩, ⟨1, 9, b__law_odd_net⟩, ⟨2, 3, b__law_drawn_lengths⟩, ⟨3, 8, b__law_row_kept⟩, ⟨3, 8, b__law_are_demands⟩, ⟨1, 9, b_law⟩]
theorem T_start_of : T[0]? = some ⟨1, 1, b_start_of⟩ := rfl
theorem T_end_of : T[1]? = some ⟨1, 1, b_end_of⟩ := rfl
theorem T_work_of : T[2]? = some ⟨1, 1, b_work_of⟩ := rfl
theorem T_points_of : T[3]? = some ⟨1, 1, b_points_of⟩ := rfl
theorem T_point_rows : T[4]? = some ⟨2, 4, b_point_rows⟩ := rfl
theorem T_span_rows : T[5]? = some ⟨1, 5, b_span_rows⟩ := rfl
theorem T_wait_row : T[6]? = some ⟨2, 5, b_wait_row⟩ := rfl
theorem T_basic_rows : T[7]? = some ⟨1, 10, b_basic_rows⟩ := rfl
theorem T_is_end : T[8]? = some ⟨1, 1, b_is_end⟩ := rfl
theorem T_anchor_of : T[9]? = some ⟨1, 1, b_anchor_of⟩ := rfl
theorem T_demand_of : T[10]? = some ⟨2, 5, b_demand_of⟩ := rfl
theorem T_printed_demands : T[11]? = some ⟨1, 2, b_printed_demands⟩ := rfl
theorem T_fixed_net : T[12]? = some ⟨2, 3, b_fixed_net⟩ := rfl
theorem T_demands_at : T[13]? = some ⟨2, 2, b_demands_at⟩ := rfl
theorem T__law_begin : T[14]? = some ⟨1, 1, b__law_begin⟩ := rfl
theorem T__law_draw : T[15]? = some ⟨2, 6, b__law_draw⟩ := rfl
theorem T__law_rare : T[16]? = some ⟨2, 2, b__law_rare⟩ := rfl
theorem T__law_is_int : T[17]? = some ⟨1, 1, b__law_is_int⟩ := rfl
theorem T__law_ints : T[18]? = some ⟨2, 3, b__law_ints⟩ := rfl
theorem T__law_spans : T[19]? = some ⟨3, 6, b__law_spans⟩ := rfl
theorem T__law_pair : T[20]? = some ⟨2, 4, b__law_pair⟩ := rfl
theorem T__law_tie_rows : T[21]? = some ⟨4, 6, b__law_tie_rows⟩ := rfl
theorem T__law_net : T[22]? = some ⟨5, 15, b__law_net⟩ := rfl
theorem T__law_basic : T[23]? = some ⟨1, 8, b__law_basic⟩ := rfl
theorem T__law_broken : T[24]? = some ⟨2, 5, b__law_broken⟩ := rfl
theorem T__law_full_state : T[25]? = some ⟨2, 4, b__law_full_state⟩ := rfl
theorem T__law_lengths : T[26]? = some ⟨2, 3, b__law_lengths⟩ := rfl
theorem T__law_anchor : T[27]? = some ⟨1, 1, b__law_anchor⟩ := rfl
theorem T__law_demand : T[28]? = some ⟨2, 3, b__law_demand⟩ := rfl
theorem T__law_demands : T[29]? = some ⟨1, 2, b__law_demands⟩ := rfl
theorem T__law_at : T[30]? = some ⟨2, 3, b__law_at⟩ := rfl
theorem T__law_wide_net : T[31]? = some ⟨2, 5, b__law_wide_net⟩ := rfl
theorem T__law_odd_bound : T[32]? = some ⟨2, 4, b__law_odd_bound⟩ := rfl
theorem T__law_odd_wait : T[33]? = some ⟨3, 5, b__law_odd_wait⟩ := rfl
theorem T__law_odd_net : T[34]? = some ⟨1, 9, b__law_odd_net⟩ := rfl
theorem T__law_drawn_lengths : T[35]? = some ⟨2, 3, b__law_drawn_lengths⟩ := rfl
theorem T__law_row_kept : T[36]? = some ⟨3, 8, b__law_row_kept⟩ := rfl
theorem T__law_are_demands : T[37]? = some ⟨3, 8, b__law_are_demands⟩ := rfl
theorem T_law : T[38]? = some ⟨1, 9, b_law⟩ := rfl
end K22

set_option maxRecDepth 100000
set_option maxHeartbeats 4000000
namespace K22
open PySem Co
/-- the drawer -/
def Dd (B : Nat) (d : D) : Prop := ∃ (l : List Int) (p v s c : Int), d = .own [.lst (l.map D.int), .int p, .int v, .int s, .int c] ∧ 0 ≤ p ∧ 0 ≤ v ∧ 0 ≤ s ∧ s < 2305843009213693951 ∧ 0 ≤ c ∧ c ≤ B
theorem Dd.mono {B B' : Nat} {d : D} (h : Dd B d) (hb : B ≤ B') : Dd B' d := by
  obtain ⟨l, p, v, s, c, e, h1, h2, h3, h4, h5, h6⟩ := h
  exact ⟨l, p, v, s, c, e, h1, h2, h3, h4, h5, by omega⟩
def DrawQ (B : Nat) (m : Int) (r : D × List Sl) : Prop := ∃ x d', r = (.int x, [.bo d', .no]) ∧ 0 ≤ x ∧ (1 ≤ m → x < m) ∧ Dd (B + 1) d'
theorem Dd.fz {B : Nat} {d : D} (h : Dd B d) : d.fz = false := by
  obtain ⟨l, p, v, s, c, rfl, _⟩ := h
  rfl
theorem drawQ_mk {B : Nat} {m x : Int} {l : List Int} {p v s c : Int} (h0 : 0 ≤ x) (h1 : 1 ≤ m → x < m) (h2 : 0 ≤ p) (h3 : 0 ≤ v) (h4 : 0 ≤ s) (h5 : s < 2305843009213693951) (h6 : 0 ≤ c) (h7 : c ≤ B + 1) :
    DrawQ B m (.int x, [.bo (.own [.lst (l.map D.int), .int p, .int v, .int s, .int c]), .no]) := ⟨x, _, rfl, h0, h1, l, p, v, s, c, rfl, h2, h3, h4, h5, h6, by omega⟩
theorem draw_ok {k B : Nat} {d : D} {m : Int} (hd : Dd B d) (hB : B ≤ 1000000000) (hm : m ≤ 1000000000) : Wp (DrawQ B m) (evF T 1000 (k + 1) 15 [.bo d, .v (.int m)]) := by
  obtain ⟨l, p, v, s, c, rfl, h1, h2, h3, h4, h5, h6⟩ := hd
  refine evF_wp T__law_draw rfl ?_
  by_cases hm2 : m < 2
  · simp -implicitDefEqProofs only [xs1, xs2, xs3, rd, rds, vals, cont, Sl.cont, D.fz, fzL, cmpD, ordD, eqD_int, eqD_in, eqD_ni, eqD_nn, eqD_bb, isD, D.isNon, idx_tup, idx_lst, idx_ro, idx_own, addI, subI, fdivD, modD, negD, truD, bltD, lenD_items, listD, tupleD, absD_int, intD, tyD, D.items, D.isL, mutD, appD, extD, mutArgs, argsOf, argOf, lentS, places, back, backOne, outs, setL, ownAt, parS, lock, unlock, wipeS, putBack, free_zero, free_succ, fst_no, fst_v, rngOf1, rngOf2, srcOf, kit_bb, wp_some, retq_rt, retq_nx, turn_nx, turn_ct, turnp_nx, turnp_ct, turnp_rt, turnp_bk, Option.toList, Int.zero_add, Int.sub_zero, List.getElem?_cons_succ, List.getElem?_cons_zero, List.set_cons_succ, List.set_cons_zero, Option.bind_some, Option.map_some, if_true, if_false, decide_true, decide_false, Bool.false_eq_true, store_zero, store_succ, st_no, st_v, atI_pos, ix50, ix51, ix52, ix53, ix54, ixN_pos, Option.bind_some, List.nodup_nil, List.nodup_cons, List.mem_cons, List.not_mem_nil, or_false, or_true, false_or, not_false_eq_true, not_true, and_self, and_true, true_and, Bool.and_true, Bool.true_and, Bool.and_self, Bool.and_false, Bool.false_and, Bool.not_true, Bool.not_false, List.length_cons, List.length_nil, List.cons_append, List.nil_append, List.replicate, Out.map, List.append_eq, List.all_cons, List.all_nil, decide_not, ne_eq, lim_lit, List.length_map, Int.reduceLE, Int.reduceLT, Int.reduceToNat, Nat.reduceAdd, Nat.reduceSub, Nat.reduceLeDiff, Nat.reduceEqDiff, Int.reduceNeg, Int.reduceEq, Nat.reduceLT, Nat.reduceMul, b__law_draw, hm2]
    exact drawQ_mk (by omega) (by omega) h1 h2 h3 h4 h5 (by omega)
  have hm0 : 0 < m := by omega
  have hm3 : m < 1267650600228229401496703205376 := by omega
  by_cases hv : v = 0
  · subst hv
    have e1 : binD .Mult (.int 12345) (.int (c + 1)) = _ := mulD (by omega) (by omega)
    have e2 : binD .Mult (.int 7919) (.int (c + 1)) = _ := mulD (by omega) (by omega)
    have e3 : binD .Mult (.int s) (.int 1103515245) = _ := mulD (by omega) (by omega)
    have fin : ∀ n : Int, n.natAbs < 1000000000000000000000 → ∃ q, 0 ≤ q ∧ q < 2305843009213693951 ∧ q = (s * 1103515245 + n * 69069 + 12345 + 7919 * (c + 1)) % 2305843009213693951 := fun n _ => ⟨_, Int.emod_nonneg _ (by decide), Int.emod_lt_of_pos _ (by decide), rfl⟩
    by_cases hp : p < l.length
    · have hp2 : p.toNat < l.length := by omega
      have e4 : (l.map D.int)[p.toNat]? = _ := get_ints hp2
      by_cases hn : 1000000000000000000 ≤ ((l.getD p.toNat 0).natAbs : Int)
      · have hz : ¬ ((l.getD p.toNat 0).natAbs : Int) = 0 := by omega
        simp -implicitDefEqProofs only [xs1, xs2, xs3, rd, rds, vals, cont, Sl.cont, D.fz, fzL, cmpD, ordD, eqD_int, eqD_in, eqD_ni, eqD_nn, eqD_bb, isD, D.isNon, idx_tup, idx_lst, idx_ro, idx_own, addI, subI, fdivD, modD, negD, truD, bltD, lenD_items, listD, tupleD, absD_int, intD, tyD, D.items, D.isL, mutD, appD, extD, mutArgs, argsOf, argOf, lentS, places, back, backOne, outs, setL, ownAt, parS, lock, unlock, wipeS, putBack, free_zero, free_succ, fst_no, fst_v, rngOf1, rngOf2, srcOf, kit_bb, wp_some, retq_rt, retq_nx, turn_nx, turn_ct, turnp_nx, turnp_ct, turnp_rt, turnp_bk, Option.toList, Int.zero_add, Int.sub_zero, List.getElem?_cons_succ, List.getElem?_cons_zero, List.set_cons_succ, List.set_cons_zero, Option.bind_some, Option.map_some, if_true, if_false, decide_true, decide_false, Bool.false_eq_true, store_zero, store_succ, st_no, st_v, atI_pos, ix50, ix51, ix52, ix53, ix54, ixN_pos, Option.bind_some, List.nodup_nil, List.nodup_cons, List.mem_cons, List.not_mem_nil, or_false, or_true, false_or, not_false_eq_true, not_true, and_self, and_true, true_and, Bool.and_true, Bool.true_and, Bool.and_self, Bool.and_false, Bool.false_and, Bool.not_true, Bool.not_false, List.length_cons, List.length_nil, List.cons_append, List.nil_append, List.replicate, Out.map, List.append_eq, List.all_cons, List.all_nil, decide_not, ne_eq, lim_lit, List.length_map, Int.reduceLE, Int.reduceLT, Int.reduceToNat, Nat.reduceAdd, Nat.reduceSub, Nat.reduceLeDiff, Nat.reduceEqDiff, Int.reduceNeg, Int.reduceEq, Nat.reduceLT, Nat.reduceMul, b__law_draw, hm2, e1, h1, hp, e4, pow18, hn, hz, hm0, hm3, fzL_ints]
        exact drawQ_mk (Int.emod_nonneg _ (by omega)) (fun _ => Int.emod_lt_of_pos _ hm0) (by omega) (Int.ediv_nonneg (by omega) (by omega)) h3 h4 (by omega) (by omega)
      · obtain ⟨q, q1, q2, q3⟩ := fin (l.getD p.toNat 0) (by omega)
        have e5 : binD .Mult (.int (l.getD p.toNat 0)) (.int 69069) = _ := mulD (by omega) (by omega)
        have e6 : binD .Mult (.int q) (.int 48271) = _ := mulD (by omega) (by omega)
        simp -implicitDefEqProofs only [xs1, xs2, xs3, rd, rds, vals, cont, Sl.cont, D.fz, fzL, cmpD, ordD, eqD_int, eqD_in, eqD_ni, eqD_nn, eqD_bb, isD, D.isNon, idx_tup, idx_lst, idx_ro, idx_own, addI, subI, fdivD, modD, negD, truD, bltD, lenD_items, listD, tupleD, absD_int, intD, tyD, D.items, D.isL, mutD, appD, extD, mutArgs, argsOf, argOf, lentS, places, back, backOne, outs, setL, ownAt, parS, lock, unlock, wipeS, putBack, free_zero, free_succ, fst_no, fst_v, rngOf1, rngOf2, srcOf, kit_bb, wp_some, retq_rt, retq_nx, turn_nx, turn_ct, turnp_nx, turnp_ct, turnp_rt, turnp_bk, Option.toList, Int.zero_add, Int.sub_zero, List.getElem?_cons_succ, List.getElem?_cons_zero, List.set_cons_succ, List.set_cons_zero, Option.bind_some, Option.map_some, if_true, if_false, decide_true, decide_false, Bool.false_eq_true, store_zero, store_succ, st_no, st_v, atI_pos, ix50, ix51, ix52, ix53, ix54, ixN_pos, Option.bind_some, List.nodup_nil, List.nodup_cons, List.mem_cons, List.not_mem_nil, or_false, or_true, false_or, not_false_eq_true, not_true, and_self, and_true, true_and, Bool.and_true, Bool.true_and, Bool.and_self, Bool.and_false, Bool.false_and, Bool.not_true, Bool.not_false, List.length_cons, List.length_nil, List.cons_append, List.nil_append, List.replicate, Out.map, List.append_eq, List.all_cons, List.all_nil, decide_not, ne_eq, lim_lit, List.length_map, Int.reduceLE, Int.reduceLT, Int.reduceToNat, Nat.reduceAdd, Nat.reduceSub, Nat.reduceLeDiff, Nat.reduceEqDiff, Int.reduceNeg, Int.reduceEq, Nat.reduceLT, Nat.reduceMul, b__law_draw, hm2, e1, e2, e3, e5, ←q3, e6, h1, hp, e4, pow18, hn, hm0, hm3, fzL_ints]
        exact drawQ_mk (Int.emod_nonneg _ (by omega)) (fun _ => Int.emod_lt_of_pos _ hm0) (by omega) (by omega) q1 q2 (by omega) (by omega)
    · obtain ⟨q, q1, q2, q3⟩ := fin (12345 * (c + 1)) (by omega)
      have e5 : binD .Mult (.int (12345 * (c + 1))) (.int 69069) = _ := mulD (by omega) (by omega)
      have e6 : binD .Mult (.int q) (.int 48271) = _ := mulD (by omega) (by omega)
      simp -implicitDefEqProofs only [xs1, xs2, xs3, rd, rds, vals, cont, Sl.cont, D.fz, fzL, cmpD, ordD, eqD_int, eqD_in, eqD_ni, eqD_nn, eqD_bb, isD, D.isNon, idx_tup, idx_lst, idx_ro, idx_own, addI, subI, fdivD, modD, negD, truD, bltD, lenD_items, listD, tupleD, absD_int, intD, tyD, D.items, D.isL, mutD, appD, extD, mutArgs, argsOf, argOf, lentS, places, back, backOne, outs, setL, ownAt, parS, lock, unlock, wipeS, putBack, free_zero, free_succ, fst_no, fst_v, rngOf1, rngOf2, srcOf, kit_bb, wp_some, retq_rt, retq_nx, turn_nx, turn_ct, turnp_nx, turnp_ct, turnp_rt, turnp_bk, Option.toList, Int.zero_add, Int.sub_zero, List.getElem?_cons_succ, List.getElem?_cons_zero, List.set_cons_succ, List.set_cons_zero, Option.bind_some, Option.map_some, if_true, if_false, decide_true, decide_false, Bool.false_eq_true, store_zero, store_succ, st_no, st_v, atI_pos, ix50, ix51, ix52, ix53, ix54, ixN_pos, Option.bind_some, List.nodup_nil, List.nodup_cons, List.mem_cons, List.not_mem_nil, or_false, or_true, false_or, not_false_eq_true, not_true, and_self, and_true, true_and, Bool.and_true, Bool.true_and, Bool.and_self, Bool.and_false, Bool.false_and, Bool.not_true, Bool.not_false, List.length_cons, List.length_nil, List.cons_append, List.nil_append, List.replicate, Out.map, List.append_eq, List.all_cons, List.all_nil, decide_not, ne_eq, lim_lit, List.length_map, Int.reduceLE, Int.reduceLT, Int.reduceToNat, Nat.reduceAdd, Nat.reduceSub, Nat.reduceLeDiff, Nat.reduceEqDiff, Int.reduceNeg, Int.reduceEq, Nat.reduceLT, Nat.reduceMul, b__law_draw, hm2, e1, e2, e3, e5, ←q3, e6, h1, hp, hm0, hm3, fzL_ints]
      exact drawQ_mk (Int.emod_nonneg _ (by omega)) (fun _ => Int.emod_lt_of_pos _ hm0) (by omega) (by omega) q1 q2 (by omega) (by omega)
  · simp -implicitDefEqProofs only [xs1, xs2, xs3, rd, rds, vals, cont, Sl.cont, D.fz, fzL, cmpD, ordD, eqD_int, eqD_in, eqD_ni, eqD_nn, eqD_bb, isD, D.isNon, idx_tup, idx_lst, idx_ro, idx_own, addI, subI, fdivD, modD, negD, truD, bltD, lenD_items, listD, tupleD, absD_int, intD, tyD, D.items, D.isL, mutD, appD, extD, mutArgs, argsOf, argOf, lentS, places, back, backOne, outs, setL, ownAt, parS, lock, unlock, wipeS, putBack, free_zero, free_succ, fst_no, fst_v, rngOf1, rngOf2, srcOf, kit_bb, wp_some, retq_rt, retq_nx, turn_nx, turn_ct, turnp_nx, turnp_ct, turnp_rt, turnp_bk, Option.toList, Int.zero_add, Int.sub_zero, List.getElem?_cons_succ, List.getElem?_cons_zero, List.set_cons_succ, List.set_cons_zero, Option.bind_some, Option.map_some, if_true, if_false, decide_true, decide_false, Bool.false_eq_true, store_zero, store_succ, st_no, st_v, atI_pos, ix50, ix51, ix52, ix53, ix54, ixN_pos, Option.bind_some, List.nodup_nil, List.nodup_cons, List.mem_cons, List.not_mem_nil, or_false, or_true, false_or, not_false_eq_true, not_true, and_self, and_true, true_and, Bool.and_true, Bool.true_and, Bool.and_self, Bool.and_false, Bool.false_and, Bool.not_true, Bool.not_false, List.length_cons, List.length_nil, List.cons_append, List.nil_append, List.replicate, Out.map, List.append_eq, List.all_cons, List.all_nil, decide_not, ne_eq, lim_lit, List.length_map, Int.reduceLE, Int.reduceLT, Int.reduceToNat, Nat.reduceAdd, Nat.reduceSub, Nat.reduceLeDiff, Nat.reduceEqDiff, Int.reduceNeg, Int.reduceEq, Nat.reduceLT, Nat.reduceMul, b__law_draw, hm2, hv, hm0, hm3]
    exact drawQ_mk (Int.emod_nonneg _ (by omega)) (fun _ => Int.emod_lt_of_pos _ hm0) h1 (Int.ediv_nonneg h2 (by omega)) h3 h4 h5 (by omega)


/-! ### simple ones -/
theorem begin_ok {k : Nat} {d : D} {l : List Int} (hd : d = .ro (l.map D.int) ∨ d = .lst (l.map D.int)) : Wp (fun r => ∃ d', r = (d', [.no]) ∧ Dd 0 d') (evF T 1000 (k + 1) 14 [.v d]) := by
  refine evF_wp T__law_begin rfl ?_
  have fin : Dd 0 (.own [.lst (l.map D.int), .int 0, .int 0, .int 7, .int 0]) := ⟨l, 0, 0, 7, 0, rfl, by decide, by decide, by decide, by decide, by decide, by decide⟩
  rcases hd with rfl | rfl
  · simp -implicitDefEqProofs only [xs1, xs2, xs3, rd, rds, vals, cont, Sl.cont, D.fz, fzL, cmpD, ordD, eqD_int, eqD_in, eqD_ni, eqD_nn, eqD_bb, isD, D.isNon, idx_tup, idx_lst, idx_ro, idx_own, addI, subI, fdivD, modD, negD, truD, bltD, lenD_items, listD, tupleD, absD_int, intD, tyD, D.items, D.isL, mutD, appD, extD, mutArgs, argsOf, argOf, lentS, places, back, backOne, outs, setL, ownAt, parS, lock, unlock, wipeS, putBack, free_zero, free_succ, fst_no, fst_v, rngOf1, rngOf2, srcOf, kit_bb, wp_some, retq_rt, retq_nx, turn_nx, turn_ct, turnp_nx, turnp_ct, turnp_rt, turnp_bk, Option.toList, Int.zero_add, Int.sub_zero, List.getElem?_cons_succ, List.getElem?_cons_zero, List.set_cons_succ, List.set_cons_zero, Option.bind_some, Option.map_some, if_true, if_false, decide_true, decide_false, Bool.false_eq_true, store_zero, store_succ, st_no, st_v, atI_pos, ix50, ix51, ix52, ix53, ix54, ixN_pos, Option.bind_some, List.nodup_nil, List.nodup_cons, List.mem_cons, List.not_mem_nil, or_false, or_true, false_or, not_false_eq_true, not_true, and_self, and_true, true_and, Bool.and_true, Bool.true_and, Bool.and_self, Bool.and_false, Bool.false_and, Bool.not_true, Bool.not_false, List.length_cons, List.length_nil, List.cons_append, List.nil_append, List.replicate, Out.map, List.append_eq, List.all_cons, List.all_nil, decide_not, ne_eq, lim_lit, List.length_map, Int.reduceLE, Int.reduceLT, Int.reduceToNat, Nat.reduceAdd, Nat.reduceSub, Nat.reduceLeDiff, Nat.reduceEqDiff, Int.reduceNeg, Int.reduceEq, Nat.reduceLT, Nat.reduceMul, b__law_begin, fzL_ints, Option.bind, D.frz, frz_ints]
    exact ⟨_, rfl, fin⟩
  · simp -implicitDefEqProofs only [xs1, xs2, xs3, rd, rds, vals, cont, Sl.cont, D.fz, fzL, cmpD, ordD, eqD_int, eqD_in, eqD_ni, eqD_nn, eqD_bb, isD, D.isNon, idx_tup, idx_lst, idx_ro, idx_own, addI, subI, fdivD, modD, negD, truD, bltD, lenD_items, listD, tupleD, absD_int, intD, tyD, D.items, D.isL, mutD, appD, extD, mutArgs, argsOf, argOf, lentS, places, back, backOne, outs, setL, ownAt, parS, lock, unlock, wipeS, putBack, free_zero, free_succ, fst_no, fst_v, rngOf1, rngOf2, srcOf, kit_bb, wp_some, retq_rt, retq_nx, turn_nx, turn_ct, turnp_nx, turnp_ct, turnp_rt, turnp_bk, Option.toList, Int.zero_add, Int.sub_zero, List.getElem?_cons_succ, List.getElem?_cons_zero, List.set_cons_succ, List.set_cons_zero, Option.bind_some, Option.map_some, if_true, if_false, decide_true, decide_false, Bool.false_eq_true, store_zero, store_succ, st_no, st_v, atI_pos, ix50, ix51, ix52, ix53, ix54, ixN_pos, Option.bind_some, List.nodup_nil, List.nodup_cons, List.mem_cons, List.not_mem_nil, or_false, or_true, false_or, not_false_eq_true, not_true, and_self, and_true, true_and, Bool.and_true, Bool.true_and, Bool.and_self, Bool.and_false, Bool.false_and, Bool.not_true, Bool.not_false, List.length_cons, List.length_nil, List.cons_append, List.nil_append, List.replicate, Out.map, List.append_eq, List.all_cons, List.all_nil, decide_not, ne_eq, lim_lit, List.length_map, Int.reduceLE, Int.reduceLT, Int.reduceToNat, Nat.reduceAdd, Nat.reduceSub, Nat.reduceLeDiff, Nat.reduceEqDiff, Int.reduceNeg, Int.reduceEq, Nat.reduceLT, Nat.reduceMul, b__law_begin, fzL_ints, Option.bind, D.frz, frz_ints]
    exact ⟨_, rfl, fin⟩
end K22


set_option maxRecDepth 100000
set_option maxHeartbeats 4000000
namespace K22
open PySem Co
/-! ### nets -/
def spD (p : Int × Int) : D := .tup [.int p.1, .int p.2]
theorem fz_sp (l : List (Int × Int)) : fzL (l.map spD) = true := by
  induction l with
  | nil => rfl
  | cons a l ih => simp only [List.map_cons, spD, fzL, D.fz, ih, Bool.and_true]
/-- loops over range: the shape of their turns -/
theorem spans_ok {k B n : Nat} {d : D} (hd : Dd B d) (hB : B ≤ 100000000) (hn : n ≤ 12) : Wp (fun r => ∃ (sp : List (Int × Int)) (d' : D), r = (.tup (sp.map spD), [.bo d', .no, .no]) ∧ sp.length = n ∧ (∀ p ∈ sp, 1 ≤ p.1 ∧ p.1 ≤ p.2 ∧ p.1 < 1000 ∧ p.2 < 1000) ∧ Dd (B + 24) d') (evF T 1000 (k + 2) 19 [.bo d, .v (.int n), .v (.int 6)]) := by
  refine evF_wp T__law_spans rfl ?_
  have r1 : rngOf [.int (n : Int)] = _ := rngOf1 (by omega) (by omega)
  simp -implicitDefEqProofs only [xs1, xs2, xs3, rd, rds, vals, cont, Sl.cont, D.fz, fzL, cmpD, ordD, eqD_int, eqD_in, eqD_ni, eqD_nn, eqD_bb, isD, D.isNon, idx_tup, idx_lst, idx_ro, idx_own, addI, subI, fdivD, modD, negD, truD, bltD, lenD_items, listD, tupleD, absD_int, intD, tyD, D.items, D.isL, mutD, appD, extD, mutArgs, argsOf, argOf, lentS, places, back, backOne, outs, setL, ownAt, parS, lock, unlock, wipeS, putBack, free_zero, free_succ, fst_no, fst_v, rngOf1, rngOf2, srcOf, kit_bb, wp_some, retq_rt, retq_nx, turn_nx, turn_ct, turnp_nx, turnp_ct, turnp_rt, turnp_bk, Option.toList, Int.zero_add, Int.sub_zero, List.getElem?_cons_succ, List.getElem?_cons_zero, List.set_cons_succ, List.set_cons_zero, Option.bind_some, Option.map_some, if_true, if_false, decide_true, decide_false, Bool.false_eq_true, store_zero, store_succ, st_no, st_v, atI_pos, ix50, ix51, ix52, ix53, ix54, ixN_pos, Option.bind_some, List.nodup_nil, List.nodup_cons, List.mem_cons, List.not_mem_nil, or_false, or_true, false_or, not_false_eq_true, not_true, and_self, and_true, true_and, Bool.and_true, Bool.true_and, Bool.and_self, Bool.and_false, Bool.false_and, Bool.not_true, Bool.not_false, List.length_cons, List.length_nil, List.cons_append, List.nil_append, List.replicate, Out.map, List.append_eq, List.all_cons, List.all_nil, decide_not, ne_eq, lim_lit, List.length_map, Int.reduceLE, Int.reduceLT, Int.reduceToNat, Nat.reduceAdd, Nat.reduceSub, Nat.reduceLeDiff, Nat.reduceEqDiff, Int.reduceNeg, Int.reduceEq, Nat.reduceLT, Nat.reduceMul, b__law_spans, r1]
  repeat with_reducible refine wp_b ?_
  refine wp_for (fun i ρ => ∃ (sp : List (Int × Int)) (d' : D) (s4 s5 : Sl), ρ = [.bo d', .v (.int n), .v (.int 6), .v (.own (sp.map spD)), s4, s5] ∧ St s4 ∧ St s5 ∧ sp.length = i ∧ (∀ p ∈ sp, 1 ≤ p.1 ∧ p.1 ≤ p.2 ∧ p.1 < 1000 ∧ p.2 < 1000) ∧ Dd (B + 2 * i) d') ?_ ?_ ?_
  · exact ⟨[], d, .no, .no, rfl, st_no, st_no, rfl, fun p hp => (nomatch hp), hd⟩
  · rintro i v _ hi ⟨sp, d', s4, s5, rfl, h4, h5, hl, hp, hd'⟩
    obtain ⟨rfl, hlt⟩ := rngd_get hi
    have hf := hd'.fz
    simp -implicitDefEqProofs only [xs1, xs2, xs3, rd, rds, vals, cont, Sl.cont, D.fz, fzL, cmpD, ordD, eqD_int, eqD_in, eqD_ni, eqD_nn, eqD_bb, isD, D.isNon, idx_tup, idx_lst, idx_ro, idx_own, addI, subI, fdivD, modD, negD, truD, bltD, lenD_items, listD, tupleD, absD_int, intD, tyD, D.items, D.isL, mutD, appD, extD, mutArgs, argsOf, argOf, lentS, places, back, backOne, outs, setL, ownAt, parS, lock, unlock, wipeS, putBack, free_zero, free_succ, fst_no, fst_v, rngOf1, rngOf2, srcOf, kit_bb, wp_some, retq_rt, retq_nx, turn_nx, turn_ct, turnp_nx, turnp_ct, turnp_rt, turnp_bk, Option.toList, Int.zero_add, Int.sub_zero, List.getElem?_cons_succ, List.getElem?_cons_zero, List.set_cons_succ, List.set_cons_zero, Option.bind_some, Option.map_some, if_true, if_false, decide_true, decide_false, Bool.false_eq_true, store_zero, store_succ, st_no, st_v, atI_pos, ix50, ix51, ix52, ix53, ix54, ixN_pos, Option.bind_some, List.nodup_nil, List.nodup_cons, List.mem_cons, List.not_mem_nil, or_false, or_true, false_or, not_false_eq_true, not_true, and_self, and_true, true_and, Bool.and_true, Bool.true_and, Bool.and_self, Bool.and_false, Bool.false_and, Bool.not_true, Bool.not_false, List.length_cons, List.length_nil, List.cons_append, List.nil_append, List.replicate, Out.map, List.append_eq, List.all_cons, List.all_nil, decide_not, ne_eq, lim_lit, List.length_map, Int.reduceLE, Int.reduceLT, Int.reduceToNat, Nat.reduceAdd, Nat.reduceSub, Nat.reduceLeDiff, Nat.reduceEqDiff, Int.reduceNeg, Int.reduceEq, Nat.reduceLT, Nat.reduceMul, forTu, h4, h5, hf]
    repeat with_reducible refine wp_b ?_
    refine wp_mono (draw_ok hd' (by omega) (by omega)) ?_
    rintro _ ⟨x, d2, rfl, x0, x1, hd2⟩
    have hf2 := hd2.fz
    simp -implicitDefEqProofs only [xs1, xs2, xs3, rd, rds, vals, cont, Sl.cont, D.fz, fzL, cmpD, ordD, eqD_int, eqD_in, eqD_ni, eqD_nn, eqD_bb, isD, D.isNon, idx_tup, idx_lst, idx_ro, idx_own, addI, subI, fdivD, modD, negD, truD, bltD, lenD_items, listD, tupleD, absD_int, intD, tyD, D.items, D.isL, mutD, appD, extD, mutArgs, argsOf, argOf, lentS, places, back, backOne, outs, setL, ownAt, parS, lock, unlock, wipeS, putBack, free_zero, free_succ, fst_no, fst_v, rngOf1, rngOf2, srcOf, kit_bb, wp_some, retq_rt, retq_nx, turn_nx, turn_ct, turnp_nx, turnp_ct, turnp_rt, turnp_bk, Option.toList, Int.zero_add, Int.sub_zero, List.getElem?_cons_succ, List.getElem?_cons_zero, List.set_cons_succ, List.set_cons_zero, Option.bind_some, Option.map_some, if_true, if_false, decide_true, decide_false, Bool.false_eq_true, store_zero, store_succ, st_no, st_v, atI_pos, ix50, ix51, ix52, ix53, ix54, ixN_pos, Option.bind_some, List.nodup_nil, List.nodup_cons, List.mem_cons, List.not_mem_nil, or_false, or_true, false_or, not_false_eq_true, not_true, and_self, and_true, true_and, Bool.and_true, Bool.true_and, Bool.and_self, Bool.and_false, Bool.false_and, Bool.not_true, Bool.not_false, List.length_cons, List.length_nil, List.cons_append, List.nil_append, List.replicate, Out.map, List.append_eq, List.all_cons, List.all_nil, decide_not, ne_eq, lim_lit, List.length_map, Int.reduceLE, Int.reduceLT, Int.reduceToNat, Nat.reduceAdd, Nat.reduceSub, Nat.reduceLeDiff, Nat.reduceEqDiff, Int.reduceNeg, Int.reduceEq, Nat.reduceLT, Nat.reduceMul, h4, h5, hf2]
    repeat with_reducible refine wp_b ?_
    refine wp_mono (draw_ok hd2 (by omega) (by omega)) ?_
    rintro _ ⟨y, d3, rfl, y0, y1, hd3⟩
    have hf3 := hd3.fz
    have hl2 : sp.length < 16777216 := by omega
    simp -implicitDefEqProofs only [xs1, xs2, xs3, rd, rds, vals, cont, Sl.cont, D.fz, fzL, cmpD, ordD, eqD_int, eqD_in, eqD_ni, eqD_nn, eqD_bb, isD, D.isNon, idx_tup, idx_lst, idx_ro, idx_own, addI, subI, fdivD, modD, negD, truD, bltD, lenD_items, listD, tupleD, absD_int, intD, tyD, D.items, D.isL, mutD, appD, extD, mutArgs, argsOf, argOf, lentS, places, back, backOne, outs, setL, ownAt, parS, lock, unlock, wipeS, putBack, free_zero, free_succ, fst_no, fst_v, rngOf1, rngOf2, srcOf, kit_bb, wp_some, retq_rt, retq_nx, turn_nx, turn_ct, turnp_nx, turnp_ct, turnp_rt, turnp_bk, Option.toList, Int.zero_add, Int.sub_zero, List.getElem?_cons_succ, List.getElem?_cons_zero, List.set_cons_succ, List.set_cons_zero, Option.bind_some, Option.map_some, if_true, if_false, decide_true, decide_false, Bool.false_eq_true, store_zero, store_succ, st_no, st_v, atI_pos, ix50, ix51, ix52, ix53, ix54, ixN_pos, Option.bind_some, List.nodup_nil, List.nodup_cons, List.mem_cons, List.not_mem_nil, or_false, or_true, false_or, not_false_eq_true, not_true, and_self, and_true, true_and, Bool.and_true, Bool.true_and, Bool.and_self, Bool.and_false, Bool.false_and, Bool.not_true, Bool.not_false, List.length_cons, List.length_nil, List.cons_append, List.nil_append, List.replicate, Out.map, List.append_eq, List.all_cons, List.all_nil, decide_not, ne_eq, lim_lit, List.length_map, Int.reduceLE, Int.reduceLT, Int.reduceToNat, Nat.reduceAdd, Nat.reduceSub, Nat.reduceLeDiff, Nat.reduceEqDiff, Int.reduceNeg, Int.reduceEq, Nat.reduceLT, Nat.reduceMul, h4, h5, hf3, hl2]
    refine ⟨sp ++ [(1 + x, 1 + x + y)], d3, _, _, by simp only [List.map_append, List.map_cons, List.map_nil, spD]; rfl, st_v, st_v, by simp [hl], ?_, hd3.mono (by omega)⟩
    intro p hp2
    rcases List.mem_append.mp hp2 with z | z
    · exact hp p z
    · have z : p = (1 + x, 1 + x + y) := by simpa using z
      subst z
      have := x1 (by omega)
      have := y1 (by omega)
      simp only
      omega
  · rintro _ ⟨sp, d', s4, s5, rfl, h4, h5, hl, hp, hd'⟩
    have hlen : (rngD 0 (n : Int)).length = n := by rw [rngd_len]; omega
    simp -implicitDefEqProofs only [xs1, xs2, xs3, rd, rds, vals, cont, Sl.cont, D.fz, fzL, cmpD, ordD, eqD_int, eqD_in, eqD_ni, eqD_nn, eqD_bb, isD, D.isNon, idx_tup, idx_lst, idx_ro, idx_own, addI, subI, fdivD, modD, negD, truD, bltD, lenD_items, listD, tupleD, absD_int, intD, tyD, D.items, D.isL, mutD, appD, extD, mutArgs, argsOf, argOf, lentS, places, back, backOne, outs, setL, ownAt, parS, lock, unlock, wipeS, putBack, free_zero, free_succ, fst_no, fst_v, rngOf1, rngOf2, srcOf, kit_bb, wp_some, retq_rt, retq_nx, turn_nx, turn_ct, turnp_nx, turnp_ct, turnp_rt, turnp_bk, Option.toList, Int.zero_add, Int.sub_zero, List.getElem?_cons_succ, List.getElem?_cons_zero, List.set_cons_succ, List.set_cons_zero, Option.bind_some, Option.map_some, if_true, if_false, decide_true, decide_false, Bool.false_eq_true, store_zero, store_succ, st_no, st_v, atI_pos, ix50, ix51, ix52, ix53, ix54, ixN_pos, Option.bind_some, List.nodup_nil, List.nodup_cons, List.mem_cons, List.not_mem_nil, or_false, or_true, false_or, not_false_eq_true, not_true, and_self, and_true, true_and, Bool.and_true, Bool.true_and, Bool.and_self, Bool.and_false, Bool.false_and, Bool.not_true, Bool.not_false, List.length_cons, List.length_nil, List.cons_append, List.nil_append, List.replicate, Out.map, List.append_eq, List.all_cons, List.all_nil, decide_not, ne_eq, lim_lit, List.length_map, Int.reduceLE, Int.reduceLT, Int.reduceToNat, Nat.reduceAdd, Nat.reduceSub, Nat.reduceLeDiff, Nat.reduceEqDiff, Int.reduceNeg, Int.reduceEq, Nat.reduceLT, Nat.reduceMul, fz_sp, Option.bind]
    exact ⟨sp, d', rfl, hl.trans hlen, hp, hd'.mono (by rw [hlen]; omega)⟩
theorem pair_ok {k B n : Nat} {d : D} (hd : Dd B d) (hB : B ≤ 100000000) (hn : n ≤ 12) (hn2 : 2 ≤ n) : Wp (fun r => ∃ (u v : Int) (d' : D), r = (.tup [.int u, .int v], [.bo d', .no]) ∧ 0 ≤ u ∧ u < n ∧ 0 ≤ v ∧ v < n ∧ u ≠ v ∧ Dd (B + 2) d') (evF T 1000 (k + 2) 20 [.bo d, .v (.int n)]) := by
  refine evF_wp T__law_pair rfl ?_
  have hf := hd.fz
  simp -implicitDefEqProofs only [xs1, xs2, xs3, rd, rds, vals, cont, Sl.cont, D.fz, fzL, cmpD, ordD, eqD_int, eqD_in, eqD_ni, eqD_nn, eqD_bb, isD, D.isNon, idx_tup, idx_lst, idx_ro, idx_own, addI, subI, fdivD, modD, negD, truD, bltD, lenD_items, listD, tupleD, absD_int, intD, tyD, D.items, D.isL, mutD, appD, extD, mutArgs, argsOf, argOf, lentS, places, back, backOne, outs, setL, ownAt, parS, lock, unlock, wipeS, putBack, free_zero, free_succ, fst_no, fst_v, rngOf1, rngOf2, srcOf, kit_bb, wp_some, retq_rt, retq_nx, turn_nx, turn_ct, turnp_nx, turnp_ct, turnp_rt, turnp_bk, Option.toList, Int.zero_add, Int.sub_zero, List.getElem?_cons_succ, List.getElem?_cons_zero, List.set_cons_succ, List.set_cons_zero, Option.bind_some, Option.map_some, if_true, if_false, decide_true, decide_false, Bool.false_eq_true, store_zero, store_succ, st_no, st_v, atI_pos, ix50, ix51, ix52, ix53, ix54, ixN_pos, Option.bind_some, List.nodup_nil, List.nodup_cons, List.mem_cons, List.not_mem_nil, or_false, or_true, false_or, not_false_eq_true, not_true, and_self, and_true, true_and, Bool.and_true, Bool.true_and, Bool.and_self, Bool.and_false, Bool.false_and, Bool.not_true, Bool.not_false, List.length_cons, List.length_nil, List.cons_append, List.nil_append, List.replicate, Out.map, List.append_eq, List.all_cons, List.all_nil, decide_not, ne_eq, lim_lit, List.length_map, Int.reduceLE, Int.reduceLT, Int.reduceToNat, Nat.reduceAdd, Nat.reduceSub, Nat.reduceLeDiff, Nat.reduceEqDiff, Int.reduceNeg, Int.reduceEq, Nat.reduceLT, Nat.reduceMul, b__law_pair, hf]
  repeat with_reducible refine wp_b ?_
  refine wp_mono (draw_ok hd (by omega) (by omega)) ?_
  rintro _ ⟨x, d2, rfl, x0, x1, hd2⟩
  have hf2 := hd2.fz
  simp -implicitDefEqProofs only [xs1, xs2, xs3, rd, rds, vals, cont, Sl.cont, D.fz, fzL, cmpD, ordD, eqD_int, eqD_in, eqD_ni, eqD_nn, eqD_bb, isD, D.isNon, idx_tup, idx_lst, idx_ro, idx_own, addI, subI, fdivD, modD, negD, truD, bltD, lenD_items, listD, tupleD, absD_int, intD, tyD, D.items, D.isL, mutD, appD, extD, mutArgs, argsOf, argOf, lentS, places, back, backOne, outs, setL, ownAt, parS, lock, unlock, wipeS, putBack, free_zero, free_succ, fst_no, fst_v, rngOf1, rngOf2, srcOf, kit_bb, wp_some, retq_rt, retq_nx, turn_nx, turn_ct, turnp_nx, turnp_ct, turnp_rt, turnp_bk, Option.toList, Int.zero_add, Int.sub_zero, List.getElem?_cons_succ, List.getElem?_cons_zero, List.set_cons_succ, List.set_cons_zero, Option.bind_some, Option.map_some, if_true, if_false, decide_true, decide_false, Bool.false_eq_true, store_zero, store_succ, st_no, st_v, atI_pos, ix50, ix51, ix52, ix53, ix54, ixN_pos, Option.bind_some, List.nodup_nil, List.nodup_cons, List.mem_cons, List.not_mem_nil, or_false, or_true, false_or, not_false_eq_true, not_true, and_self, and_true, true_and, Bool.and_true, Bool.true_and, Bool.and_self, Bool.and_false, Bool.false_and, Bool.not_true, Bool.not_false, List.length_cons, List.length_nil, List.cons_append, List.nil_append, List.replicate, Out.map, List.append_eq, List.all_cons, List.all_nil, decide_not, ne_eq, lim_lit, List.length_map, Int.reduceLE, Int.reduceLT, Int.reduceToNat, Nat.reduceAdd, Nat.reduceSub, Nat.reduceLeDiff, Nat.reduceEqDiff, Int.reduceNeg, Int.reduceEq, Nat.reduceLT, Nat.reduceMul, hf2]
  repeat with_reducible refine wp_b ?_
  refine wp_mono (draw_ok hd2 (by omega) (by omega)) ?_
  rintro _ ⟨y, d3, rfl, y0, y1, hd3⟩
  have := x1 (by omega)
  have := y1 (by omega)
  by_cases hc : x ≤ y
  · simp -implicitDefEqProofs only [xs1, xs2, xs3, rd, rds, vals, cont, Sl.cont, D.fz, fzL, cmpD, ordD, eqD_int, eqD_in, eqD_ni, eqD_nn, eqD_bb, isD, D.isNon, idx_tup, idx_lst, idx_ro, idx_own, addI, subI, fdivD, modD, negD, truD, bltD, lenD_items, listD, tupleD, absD_int, intD, tyD, D.items, D.isL, mutD, appD, extD, mutArgs, argsOf, argOf, lentS, places, back, backOne, outs, setL, ownAt, parS, lock, unlock, wipeS, putBack, free_zero, free_succ, fst_no, fst_v, rngOf1, rngOf2, srcOf, kit_bb, wp_some, retq_rt, retq_nx, turn_nx, turn_ct, turnp_nx, turnp_ct, turnp_rt, turnp_bk, Option.toList, Int.zero_add, Int.sub_zero, List.getElem?_cons_succ, List.getElem?_cons_zero, List.set_cons_succ, List.set_cons_zero, Option.bind_some, Option.map_some, if_true, if_false, decide_true, decide_false, Bool.false_eq_true, store_zero, store_succ, st_no, st_v, atI_pos, ix50, ix51, ix52, ix53, ix54, ixN_pos, Option.bind_some, List.nodup_nil, List.nodup_cons, List.mem_cons, List.not_mem_nil, or_false, or_true, false_or, not_false_eq_true, not_true, and_self, and_true, true_and, Bool.and_true, Bool.true_and, Bool.and_self, Bool.and_false, Bool.false_and, Bool.not_true, Bool.not_false, List.length_cons, List.length_nil, List.cons_append, List.nil_append, List.replicate, Out.map, List.append_eq, List.all_cons, List.all_nil, decide_not, ne_eq, lim_lit, List.length_map, Int.reduceLE, Int.reduceLT, Int.reduceToNat, Nat.reduceAdd, Nat.reduceSub, Nat.reduceLeDiff, Nat.reduceEqDiff, Int.reduceNeg, Int.reduceEq, Nat.reduceLT, Nat.reduceMul, hc]
    exact ⟨_, _, _, rfl, x0, by omega, by omega, by omega, by omega, hd3⟩
  · simp -implicitDefEqProofs only [xs1, xs2, xs3, rd, rds, vals, cont, Sl.cont, D.fz, fzL, cmpD, ordD, eqD_int, eqD_in, eqD_ni, eqD_nn, eqD_bb, isD, D.isNon, idx_tup, idx_lst, idx_ro, idx_own, addI, subI, fdivD, modD, negD, truD, bltD, lenD_items, listD, tupleD, absD_int, intD, tyD, D.items, D.isL, mutD, appD, extD, mutArgs, argsOf, argOf, lentS, places, back, backOne, outs, setL, ownAt, parS, lock, unlock, wipeS, putBack, free_zero, free_succ, fst_no, fst_v, rngOf1, rngOf2, srcOf, kit_bb, wp_some, retq_rt, retq_nx, turn_nx, turn_ct, turnp_nx, turnp_ct, turnp_rt, turnp_bk, Option.toList, Int.zero_add, Int.sub_zero, List.getElem?_cons_succ, List.getElem?_cons_zero, List.set_cons_succ, List.set_cons_zero, Option.bind_some, Option.map_some, if_true, if_false, decide_true, decide_false, Bool.false_eq_true, store_zero, store_succ, st_no, st_v, atI_pos, ix50, ix51, ix52, ix53, ix54, ixN_pos, Option.bind_some, List.nodup_nil, List.nodup_cons, List.mem_cons, List.not_mem_nil, or_false, or_true, false_or, not_false_eq_true, not_true, and_self, and_true, true_and, Bool.and_true, Bool.true_and, Bool.and_self, Bool.and_false, Bool.false_and, Bool.not_true, Bool.not_false, List.length_cons, List.length_nil, List.cons_append, List.nil_append, List.replicate, Out.map, List.append_eq, List.all_cons, List.all_nil, decide_not, ne_eq, lim_lit, List.length_map, Int.reduceLE, Int.reduceLT, Int.reduceToNat, Nat.reduceAdd, Nat.reduceSub, Nat.reduceLeDiff, Nat.reduceEqDiff, Int.reduceNeg, Int.reduceEq, Nat.reduceLT, Nat.reduceMul, hc]
    exact ⟨_, _, _, rfl, x0, by omega, by omega, by omega, by omega, hd3⟩
def trD (t : Int × Int × Int) : D := .tup [.int t.1, .int t.2.1, .int t.2.2]
theorem fz_tr (l : List (Int × Int × Int)) : fzL (l.map trD) = true := by
  induction l with
  | nil => rfl
  | cons a l ih => simp only [List.map_cons, trD, fzL, D.fz, ih, Bool.and_true]
/-- a bound between points -/
def PtB (n : Nat) (t : Int × Int × Int) : Prop := 0 ≤ t.1 ∧ t.1 ≤ 2 * n ∧ 0 ≤ t.2.1 ∧ t.2.1 ≤ 2 * n ∧ t.2.2.natAbs < 100000 ∧ t.1 ≠ t.2.1
/-- a wait -/
def PtW (n : Nat) (t : Int × Int × Int) : Prop := 0 ≤ t.1 ∧ t.1 ≤ 2 * n ∧ 0 ≤ t.2.1 ∧ t.2.1 < n ∧ 1 ≤ t.2.2 ∧ t.2.2 < 100000 ∧ t.1 ≠ 2 * t.2.1 + 2
theorem tie_ok {k B n : Nat} {u v kk : Int} {d : D} (hd : Dd B d) (hB : B ≤ 100000000) (hn : n ≤ 12) (u0 : 0 ≤ u) (u1 : u < n) (v0 : 0 ≤ v) (v1 : v < n) (uv : u ≠ v) : Wp (fun r => ∃ (l : List (Int × Int × Int)) (d' : D), r = (.own (l.map trD), [.bo d', .no, .no, .no]) ∧ (∀ t ∈ l, PtB n t) ∧ l.length ≤ 2 ∧ Dd (B + 2) d') (evF T 1000 (k + 2) 21 [.bo d, .v (.int u), .v (.int v), .v (.int kk)]) := by
  refine evF_wp T__law_tie_rows rfl ?_
  have hf := hd.fz
  simp -implicitDefEqProofs only [xs1, xs2, xs3, rd, rds, vals, cont, Sl.cont, D.fz, fzL, cmpD, ordD, eqD_int, eqD_in, eqD_ni, eqD_nn, eqD_bb, isD, D.isNon, idx_tup, idx_lst, idx_ro, idx_own, addI, subI, fdivD, modD, negD, truD, bltD, lenD_items, listD, tupleD, absD_int, intD, tyD, D.items, D.isL, mutD, appD, extD, mutArgs, argsOf, argOf, lentS, places, back, backOne, outs, setL, ownAt, parS, lock, unlock, wipeS, putBack, free_zero, free_succ, fst_no, fst_v, rngOf1, rngOf2, srcOf, kit_bb, wp_some, retq_rt, retq_nx, turn_nx, turn_ct, turnp_nx, turnp_ct, turnp_rt, turnp_bk, Option.toList, Int.zero_add, Int.sub_zero, List.getElem?_cons_succ, List.getElem?_cons_zero, List.set_cons_succ, List.set_cons_zero, Option.bind_some, Option.map_some, if_true, if_false, decide_true, decide_false, Bool.false_eq_true, store_zero, store_succ, st_no, st_v, atI_pos, ix50, ix51, ix52, ix53, ix54, ixN_pos, Option.bind_some, List.nodup_nil, List.nodup_cons, List.mem_cons, List.not_mem_nil, or_false, or_true, false_or, not_false_eq_true, not_true, and_self, and_true, true_and, Bool.and_true, Bool.true_and, Bool.and_self, Bool.and_false, Bool.false_and, Bool.not_true, Bool.not_false, List.length_cons, List.length_nil, List.cons_append, List.nil_append, List.replicate, Out.map, List.append_eq, List.all_cons, List.all_nil, decide_not, ne_eq, lim_lit, List.length_map, Int.reduceLE, Int.reduceLT, Int.reduceToNat, Nat.reduceAdd, Nat.reduceSub, Nat.reduceLeDiff, Nat.reduceEqDiff, Int.reduceNeg, Int.reduceEq, Nat.reduceLT, Nat.reduceMul, b__law_tie_rows, hf]
  repeat with_reducible refine wp_b ?_
  refine wp_mono (draw_ok hd (by omega) (by omega)) ?_
  rintro _ ⟨x, d2, rfl, x0, x1, hd2⟩
  have hf2 := hd2.fz
  simp -implicitDefEqProofs only [xs1, xs2, xs3, rd, rds, vals, cont, Sl.cont, D.fz, fzL, cmpD, ordD, eqD_int, eqD_in, eqD_ni, eqD_nn, eqD_bb, isD, D.isNon, idx_tup, idx_lst, idx_ro, idx_own, addI, subI, fdivD, modD, negD, truD, bltD, lenD_items, listD, tupleD, absD_int, intD, tyD, D.items, D.isL, mutD, appD, extD, mutArgs, argsOf, argOf, lentS, places, back, backOne, outs, setL, ownAt, parS, lock, unlock, wipeS, putBack, free_zero, free_succ, fst_no, fst_v, rngOf1, rngOf2, srcOf, kit_bb, wp_some, retq_rt, retq_nx, turn_nx, turn_ct, turnp_nx, turnp_ct, turnp_rt, turnp_bk, Option.toList, Int.zero_add, Int.sub_zero, List.getElem?_cons_succ, List.getElem?_cons_zero, List.set_cons_succ, List.set_cons_zero, Option.bind_some, Option.map_some, if_true, if_false, decide_true, decide_false, Bool.false_eq_true, store_zero, store_succ, st_no, st_v, atI_pos, ix50, ix51, ix52, ix53, ix54, ixN_pos, Option.bind_some, List.nodup_nil, List.nodup_cons, List.mem_cons, List.not_mem_nil, or_false, or_true, false_or, not_false_eq_true, not_true, and_self, and_true, true_and, Bool.and_true, Bool.true_and, Bool.and_self, Bool.and_false, Bool.false_and, Bool.not_true, Bool.not_false, List.length_cons, List.length_nil, List.cons_append, List.nil_append, List.replicate, Out.map, List.append_eq, List.all_cons, List.all_nil, decide_not, ne_eq, lim_lit, List.length_map, Int.reduceLE, Int.reduceLT, Int.reduceToNat, Nat.reduceAdd, Nat.reduceSub, Nat.reduceLeDiff, Nat.reduceEqDiff, Int.reduceNeg, Int.reduceEq, Nat.reduceLT, Nat.reduceMul, hf2]
  repeat with_reducible refine wp_b ?_
  refine wp_mono (draw_ok hd2 (by omega) (by omega)) ?_
  rintro _ ⟨y, d3, rfl, y0, y1, hd3⟩
  have x1 := x1 (by omega)
  have y1 := y1 (by omega)
  have e1 : binD .Mult (.int 2) (.int u) = _ := mulD (by omega) (by omega)
  have e2 : binD .Mult (.int 2) (.int v) = _ := mulD (by omega) (by omega)
  have two : ∀ a b c a' b' c' : Int, PtB n (a, b, c) → PtB n (a', b', c') → ∀ t ∈ [(a, b, c), (a', b', c')], PtB n t := fun a b c a' b' c' h1 h2 t ht => by
    rcases List.mem_cons.mp ht with z | z
    · rw [z]; exact h1
    · rw [List.mem_singleton.mp z]; exact h2
  have one : ∀ a b c : Int, PtB n (a, b, c) → ∀ t ∈ [(a, b, c)], PtB n t := fun a b c h1 t ht => by
    rw [List.mem_singleton.mp ht]; exact h1
  have mk : ∀ a b c : Int, 0 ≤ a → a ≤ 2 * n → 0 ≤ b → b ≤ 2 * n → c.natAbs < 100000 → a ≠ b → PtB n (a, b, c) := fun a b c h1 h2 h3 h4 h5 h6 => ⟨h1, h2, h3, h4, h5, h6⟩
  by_cases h0 : kk = 0
  · subst h0
    simp -implicitDefEqProofs only [xs1, xs2, xs3, rd, rds, vals, cont, Sl.cont, D.fz, fzL, cmpD, ordD, eqD_int, eqD_in, eqD_ni, eqD_nn, eqD_bb, isD, D.isNon, idx_tup, idx_lst, idx_ro, idx_own, addI, subI, fdivD, modD, negD, truD, bltD, lenD_items, listD, tupleD, absD_int, intD, tyD, D.items, D.isL, mutD, appD, extD, mutArgs, argsOf, argOf, lentS, places, back, backOne, outs, setL, ownAt, parS, lock, unlock, wipeS, putBack, free_zero, free_succ, fst_no, fst_v, rngOf1, rngOf2, srcOf, kit_bb, wp_some, retq_rt, retq_nx, turn_nx, turn_ct, turnp_nx, turnp_ct, turnp_rt, turnp_bk, Option.toList, Int.zero_add, Int.sub_zero, List.getElem?_cons_succ, List.getElem?_cons_zero, List.set_cons_succ, List.set_cons_zero, Option.bind_some, Option.map_some, if_true, if_false, decide_true, decide_false, Bool.false_eq_true, store_zero, store_succ, st_no, st_v, atI_pos, ix50, ix51, ix52, ix53, ix54, ixN_pos, Option.bind_some, List.nodup_nil, List.nodup_cons, List.mem_cons, List.not_mem_nil, or_false, or_true, false_or, not_false_eq_true, not_true, and_self, and_true, true_and, Bool.and_true, Bool.true_and, Bool.and_self, Bool.and_false, Bool.false_and, Bool.not_true, Bool.not_false, List.length_cons, List.length_nil, List.cons_append, List.nil_append, List.replicate, Out.map, List.append_eq, List.all_cons, List.all_nil, decide_not, ne_eq, lim_lit, List.length_map, Int.reduceLE, Int.reduceLT, Int.reduceToNat, Nat.reduceAdd, Nat.reduceSub, Nat.reduceLeDiff, Nat.reduceEqDiff, Int.reduceNeg, Int.reduceEq, Nat.reduceLT, Nat.reduceMul, e1, e2]
    exact ⟨[(2 * v + 1, 2 * u + 2, -x), (2 * u + 2, 2 * v + 1, x + y)], _, rfl, two _ _ _ _ _ _ (mk _ _ _ (by omega) (by omega) (by omega) (by omega) (by omega) (by omega)) (mk _ _ _ (by omega) (by omega) (by omega) (by omega) (by omega) (by omega)), by simp, hd3⟩
  by_cases h1 : kk = 1
  · subst h1
    simp -implicitDefEqProofs only [xs1, xs2, xs3, rd, rds, vals, cont, Sl.cont, D.fz, fzL, cmpD, ordD, eqD_int, eqD_in, eqD_ni, eqD_nn, eqD_bb, isD, D.isNon, idx_tup, idx_lst, idx_ro, idx_own, addI, subI, fdivD, modD, negD, truD, bltD, lenD_items, listD, tupleD, absD_int, intD, tyD, D.items, D.isL, mutD, appD, extD, mutArgs, argsOf, argOf, lentS, places, back, backOne, outs, setL, ownAt, parS, lock, unlock, wipeS, putBack, free_zero, free_succ, fst_no, fst_v, rngOf1, rngOf2, srcOf, kit_bb, wp_some, retq_rt, retq_nx, turn_nx, turn_ct, turnp_nx, turnp_ct, turnp_rt, turnp_bk, Option.toList, Int.zero_add, Int.sub_zero, List.getElem?_cons_succ, List.getElem?_cons_zero, List.set_cons_succ, List.set_cons_zero, Option.bind_some, Option.map_some, if_true, if_false, decide_true, decide_false, Bool.false_eq_true, store_zero, store_succ, st_no, st_v, atI_pos, ix50, ix51, ix52, ix53, ix54, ixN_pos, Option.bind_some, List.nodup_nil, List.nodup_cons, List.mem_cons, List.not_mem_nil, or_false, or_true, false_or, not_false_eq_true, not_true, and_self, and_true, true_and, Bool.and_true, Bool.true_and, Bool.and_self, Bool.and_false, Bool.false_and, Bool.not_true, Bool.not_false, List.length_cons, List.length_nil, List.cons_append, List.nil_append, List.replicate, Out.map, List.append_eq, List.all_cons, List.all_nil, decide_not, ne_eq, lim_lit, List.length_map, Int.reduceLE, Int.reduceLT, Int.reduceToNat, Nat.reduceAdd, Nat.reduceSub, Nat.reduceLeDiff, Nat.reduceEqDiff, Int.reduceNeg, Int.reduceEq, Nat.reduceLT, Nat.reduceMul, e1, e2]
    exact ⟨[(2 * v + 1, 2 * u + 1, -x), (2 * u + 1, 2 * v + 1, x + y + 2)], _, rfl, two _ _ _ _ _ _ (mk _ _ _ (by omega) (by omega) (by omega) (by omega) (by omega) (by omega)) (mk _ _ _ (by omega) (by omega) (by omega) (by omega) (by omega) (by omega)), by simp, hd3⟩
  by_cases h2 : kk = 2
  · subst h2
    simp -implicitDefEqProofs only [xs1, xs2, xs3, rd, rds, vals, cont, Sl.cont, D.fz, fzL, cmpD, ordD, eqD_int, eqD_in, eqD_ni, eqD_nn, eqD_bb, isD, D.isNon, idx_tup, idx_lst, idx_ro, idx_own, addI, subI, fdivD, modD, negD, truD, bltD, lenD_items, listD, tupleD, absD_int, intD, tyD, D.items, D.isL, mutD, appD, extD, mutArgs, argsOf, argOf, lentS, places, back, backOne, outs, setL, ownAt, parS, lock, unlock, wipeS, putBack, free_zero, free_succ, fst_no, fst_v, rngOf1, rngOf2, srcOf, kit_bb, wp_some, retq_rt, retq_nx, turn_nx, turn_ct, turnp_nx, turnp_ct, turnp_rt, turnp_bk, Option.toList, Int.zero_add, Int.sub_zero, List.getElem?_cons_succ, List.getElem?_cons_zero, List.set_cons_succ, List.set_cons_zero, Option.bind_some, Option.map_some, if_true, if_false, decide_true, decide_false, Bool.false_eq_true, store_zero, store_succ, st_no, st_v, atI_pos, ix50, ix51, ix52, ix53, ix54, ixN_pos, Option.bind_some, List.nodup_nil, List.nodup_cons, List.mem_cons, List.not_mem_nil, or_false, or_true, false_or, not_false_eq_true, not_true, and_self, and_true, true_and, Bool.and_true, Bool.true_and, Bool.and_self, Bool.and_false, Bool.false_and, Bool.not_true, Bool.not_false, List.length_cons, List.length_nil, List.cons_append, List.nil_append, List.replicate, Out.map, List.append_eq, List.all_cons, List.all_nil, decide_not, ne_eq, lim_lit, List.length_map, Int.reduceLE, Int.reduceLT, Int.reduceToNat, Nat.reduceAdd, Nat.reduceSub, Nat.reduceLeDiff, Nat.reduceEqDiff, Int.reduceNeg, Int.reduceEq, Nat.reduceLT, Nat.reduceMul, e1, e2]
    exact ⟨[(2 * u + 2, 2 * v + 2, x + y), (2 * v + 2, 2 * u + 2, x + y)], _, rfl, two _ _ _ _ _ _ (mk _ _ _ (by omega) (by omega) (by omega) (by omega) (by omega) (by omega)) (mk _ _ _ (by omega) (by omega) (by omega) (by omega) (by omega) (by omega)), by simp, hd3⟩
  by_cases h3 : kk = 3
  · subst h3
    simp -implicitDefEqProofs only [xs1, xs2, xs3, rd, rds, vals, cont, Sl.cont, D.fz, fzL, cmpD, ordD, eqD_int, eqD_in, eqD_ni, eqD_nn, eqD_bb, isD, D.isNon, idx_tup, idx_lst, idx_ro, idx_own, addI, subI, fdivD, modD, negD, truD, bltD, lenD_items, listD, tupleD, absD_int, intD, tyD, D.items, D.isL, mutD, appD, extD, mutArgs, argsOf, argOf, lentS, places, back, backOne, outs, setL, ownAt, parS, lock, unlock, wipeS, putBack, free_zero, free_succ, fst_no, fst_v, rngOf1, rngOf2, srcOf, kit_bb, wp_some, retq_rt, retq_nx, turn_nx, turn_ct, turnp_nx, turnp_ct, turnp_rt, turnp_bk, Option.toList, Int.zero_add, Int.sub_zero, List.getElem?_cons_succ, List.getElem?_cons_zero, List.set_cons_succ, List.set_cons_zero, Option.bind_some, Option.map_some, if_true, if_false, decide_true, decide_false, Bool.false_eq_true, store_zero, store_succ, st_no, st_v, atI_pos, ix50, ix51, ix52, ix53, ix54, ixN_pos, Option.bind_some, List.nodup_nil, List.nodup_cons, List.mem_cons, List.not_mem_nil, or_false, or_true, false_or, not_false_eq_true, not_true, and_self, and_true, true_and, Bool.and_true, Bool.true_and, Bool.and_self, Bool.and_false, Bool.false_and, Bool.not_true, Bool.not_false, List.length_cons, List.length_nil, List.cons_append, List.nil_append, List.replicate, Out.map, List.append_eq, List.all_cons, List.all_nil, decide_not, ne_eq, lim_lit, List.length_map, Int.reduceLE, Int.reduceLT, Int.reduceToNat, Nat.reduceAdd, Nat.reduceSub, Nat.reduceLeDiff, Nat.reduceEqDiff, Int.reduceNeg, Int.reduceEq, Nat.reduceLT, Nat.reduceMul, e1, e2]
    exact ⟨[(2 * v + 1, 2 * u + 2, -x)], _, rfl, one _ _ _ (mk _ _ _ (by omega) (by omega) (by omega) (by omega) (by omega) (by omega)), by simp, hd3⟩
  simp -implicitDefEqProofs only [xs1, xs2, xs3, rd, rds, vals, cont, Sl.cont, D.fz, fzL, cmpD, ordD, eqD_int, eqD_in, eqD_ni, eqD_nn, eqD_bb, isD, D.isNon, idx_tup, idx_lst, idx_ro, idx_own, addI, subI, fdivD, modD, negD, truD, bltD, lenD_items, listD, tupleD, absD_int, intD, tyD, D.items, D.isL, mutD, appD, extD, mutArgs, argsOf, argOf, lentS, places, back, backOne, outs, setL, ownAt, parS, lock, unlock, wipeS, putBack, free_zero, free_succ, fst_no, fst_v, rngOf1, rngOf2, srcOf, kit_bb, wp_some, retq_rt, retq_nx, turn_nx, turn_ct, turnp_nx, turnp_ct, turnp_rt, turnp_bk, Option.toList, Int.zero_add, Int.sub_zero, List.getElem?_cons_succ, List.getElem?_cons_zero, List.set_cons_succ, List.set_cons_zero, Option.bind_some, Option.map_some, if_true, if_false, decide_true, decide_false, Bool.false_eq_true, store_zero, store_succ, st_no, st_v, atI_pos, ix50, ix51, ix52, ix53, ix54, ixN_pos, Option.bind_some, List.nodup_nil, List.nodup_cons, List.mem_cons, List.not_mem_nil, or_false, or_true, false_or, not_false_eq_true, not_true, and_self, and_true, true_and, Bool.and_true, Bool.true_and, Bool.and_self, Bool.and_false, Bool.false_and, Bool.not_true, Bool.not_false, List.length_cons, List.length_nil, List.cons_append, List.nil_append, List.replicate, Out.map, List.append_eq, List.all_cons, List.all_nil, decide_not, ne_eq, lim_lit, List.length_map, Int.reduceLE, Int.reduceLT, Int.reduceToNat, Nat.reduceAdd, Nat.reduceSub, Nat.reduceLeDiff, Nat.reduceEqDiff, Int.reduceNeg, Int.reduceEq, Nat.reduceLT, Nat.reduceMul, h0, h1, h2, h3, e1, e2]
  exact ⟨[(2 * u + 2, 2 * v + 1, x + y)], _, rfl, one _ _ _ (mk _ _ _ (by omega) (by omega) (by omega) (by omega) (by omega) (by omega)), by simp, hd3⟩
end K22


set_option maxRecDepth 100000
set_option maxHeartbeats 4000000
namespace K22
open PySem Co
theorem fzL_app {a b : List D} (ha : fzL a = true) (hb : fzL b = true) : fzL (a ++ b) = true := by
  induction a with
  | nil => exact hb
  | cons x a ih =>
    simp only [fzL, Bool.and_eq_true] at ha
    simp only [List.cons_append, fzL, Bool.and_eq_true]
    exact ⟨ha.1, ih ha.2⟩
theorem app_all {α : Type} {P : α → Prop} {a b : List α} (h1 : ∀ t ∈ a, P t) (h2 : ∀ t ∈ b, P t) : ∀ t ∈ a ++ b, P t := fun t ht => (List.mem_append.mp ht).elim (h1 t) (h2 t)
theorem one_all {α : Type} {P : α → Prop} {x : α} (h : P x) : ∀ t ∈ [x], P t := fun t ht => by rw [List.mem_singleton.mp ht]; exact h
/-- a net of n works -/
structure NetD (n : Nat) (h : Int) (sp : List (Int × Int)) (bs ws : List (Int × Int × Int)) (net : D) : Prop where
  eq : net = .tup [.str "net", .int h, .tup (sp.map spD), .tup (bs.map trD), .tup (ws.map trD)]
  len : sp.length = n
  sp : ∀ p ∈ sp, 1 ≤ p.1 ∧ p.1 ≤ p.2 ∧ p.1 < 1000 ∧ p.2 < 1000
  bds : ∀ t ∈ bs, PtB n t
  wts : ∀ t ∈ ws, PtW n t
  lb : bs.length ≤ 1000
  lw : ws.length ≤ 1000
theorem get_sp {sp : List (Int × Int)} {i : Nat} (h : i < sp.length) : (sp.map spD)[i]? = some (spD (sp.getD i (0, 0))) := by
  rw [List.getElem?_map, List.getElem?_eq_getElem h, List.getD_eq_getElem?_getD, List.getElem?_eq_getElem h]
  rfl
theorem mem_sp {sp : List (Int × Int)} {i : Nat} (h : i < sp.length) : sp.getD i (0, 0) ∈ sp := by
  rw [List.getD_eq_getElem?_getD, List.getElem?_eq_getElem h]
  exact List.getElem_mem h
theorem net_ok {k B n many : Nat} {h : Int} {d : D} (hd : Dd B d) (hB : B ≤ 10000000) (hn : 1 ≤ n) (hn2 : n ≤ 12) (hh : 0 ≤ h ∧ h < 1000) (hmy : many ≤ 20) :
    Wp (fun r => ∃ (sp : List (Int × Int)) (bs ws : List (Int × Int × Int)) (net d' : D), r = (net, [.bo d', .no, .no, .no, .no]) ∧ NetD n h sp bs ws net ∧ bs.length ≤ 100 ∧ ws.length ≤ 100 ∧ Dd (B + 150) d') (evF T 1000 (k + 3) 22 [.bo d, .v (.int n), .v (.int h), .v (.int many), .v (.int 6)]) := by
  refine evF_wp T__law_net rfl ?_
  have hf := hd.fz
  simp -implicitDefEqProofs only [xs1, xs2, xs3, rd, rds, vals, cont, Sl.cont, D.fz, fzL, cmpD, ordD, eqD_int, eqD_in, eqD_ni, eqD_nn, eqD_bb, isD, D.isNon, idx_tup, idx_lst, idx_ro, idx_own, addI, subI, fdivD, modD, negD, truD, bltD, lenD_items, listD, tupleD, absD_int, intD, tyD, D.items, D.isL, mutD, appD, extD, mutArgs, argsOf, argOf, lentS, places, back, backOne, outs, setL, ownAt, parS, lock, unlock, wipeS, putBack, free_zero, free_succ, fst_no, fst_v, rngOf1, rngOf2, srcOf, kit_bb, wp_some, retq_rt, retq_nx, turn_nx, turn_ct, turnp_nx, turnp_ct, turnp_rt, turnp_bk, Option.toList, Int.zero_add, Int.sub_zero, List.getElem?_cons_succ, List.getElem?_cons_zero, List.set_cons_succ, List.set_cons_zero, Option.bind_some, Option.map_some, if_true, if_false, decide_true, decide_false, Bool.false_eq_true, store_zero, store_succ, st_no, st_v, atI_pos, ix50, ix51, ix52, ix53, ix54, ixN_pos, Option.bind_some, List.nodup_nil, List.nodup_cons, List.mem_cons, List.not_mem_nil, or_false, or_true, false_or, not_false_eq_true, not_true, and_self, and_true, true_and, Bool.and_true, Bool.true_and, Bool.and_self, Bool.and_false, Bool.false_and, Bool.not_true, Bool.not_false, List.length_cons, List.length_nil, List.cons_append, List.nil_append, List.replicate, Out.map, List.append_eq, List.all_cons, List.all_nil, decide_not, ne_eq, lim_lit, List.length_map, Int.reduceLE, Int.reduceLT, Int.reduceToNat, Nat.reduceAdd, Nat.reduceSub, Nat.reduceLeDiff, Nat.reduceEqDiff, Int.reduceNeg, Int.reduceEq, Nat.reduceLT, Nat.reduceMul, b__law_net, hf]
  repeat with_reducible refine wp_b ?_
  refine wp_mono (spans_ok hd (by omega) hn2) ?_
  rintro _ ⟨sp, d1, rfl, hl, hp, hd1⟩
  have hf1 := hd1.fz
  have e1 : binD .Mult (.int 2) (.int (n : Int)) = _ := mulD (by omega) (by omega)
  have rm : rngOf [.int (many : Int)] = _ := rngOf1 (by omega) (by omega)
  simp -implicitDefEqProofs only [xs1, xs2, xs3, rd, rds, vals, cont, Sl.cont, D.fz, fzL, cmpD, ordD, eqD_int, eqD_in, eqD_ni, eqD_nn, eqD_bb, isD, D.isNon, idx_tup, idx_lst, idx_ro, idx_own, addI, subI, fdivD, modD, negD, truD, bltD, lenD_items, listD, tupleD, absD_int, intD, tyD, D.items, D.isL, mutD, appD, extD, mutArgs, argsOf, argOf, lentS, places, back, backOne, outs, setL, ownAt, parS, lock, unlock, wipeS, putBack, free_zero, free_succ, fst_no, fst_v, rngOf1, rngOf2, srcOf, kit_bb, wp_some, retq_rt, retq_nx, turn_nx, turn_ct, turnp_nx, turnp_ct, turnp_rt, turnp_bk, Option.toList, Int.zero_add, Int.sub_zero, List.getElem?_cons_succ, List.getElem?_cons_zero, List.set_cons_succ, List.set_cons_zero, Option.bind_some, Option.map_some, if_true, if_false, decide_true, decide_false, Bool.false_eq_true, store_zero, store_succ, st_no, st_v, atI_pos, ix50, ix51, ix52, ix53, ix54, ixN_pos, Option.bind_some, List.nodup_nil, List.nodup_cons, List.mem_cons, List.not_mem_nil, or_false, or_true, false_or, not_false_eq_true, not_true, and_self, and_true, true_and, Bool.and_true, Bool.true_and, Bool.and_self, Bool.and_false, Bool.false_and, Bool.not_true, Bool.not_false, List.length_cons, List.length_nil, List.cons_append, List.nil_append, List.replicate, Out.map, List.append_eq, List.all_cons, List.all_nil, decide_not, ne_eq, lim_lit, List.length_map, Int.reduceLE, Int.reduceLT, Int.reduceToNat, Nat.reduceAdd, Nat.reduceSub, Nat.reduceLeDiff, Nat.reduceEqDiff, Int.reduceNeg, Int.reduceEq, Nat.reduceLT, Nat.reduceMul, fz_sp, hf1, e1, rm]
  repeat with_reducible refine wp_b ?_
  refine wp_for (fun i ρ => ∃ (bs ws : List (Int × Int × Int)) (d' : D) (s9 s10 s11 s12 s13 s14 : Sl), ρ = [.bo d', .v (.int n), .v (.int h), .v (.int many), .v (.int 6), .v (.tup (sp.map spD)), .v (.own (bs.map trD)), .v (.own (ws.map trD)), .v (.int (2 * n + 1)), s9, s10, s11, s12, s13, s14] ∧ St s9 ∧ St s10 ∧ St s11 ∧ St s12 ∧ St s13 ∧ St s14 ∧ (∀ t ∈ bs, PtB n t) ∧ (∀ t ∈ ws, PtW n t) ∧ bs.length ≤ 2 * i ∧ ws.length ≤ i ∧ Dd (B + 24 + 6 * i) d') ?_ ?_ ?_
  · exact ⟨[], [], d1, _, _, _, _, _, _, rfl, st_no, st_no, st_no, st_no, st_no, st_no, fun t z => (nomatch z), fun t z => (nomatch z), by simp, by simp, hd1⟩
  · rintro i v _ hi ⟨bs, ws, d2, s9, s10, s11, s12, s13, s14, rfl, h9, h10, h11, h12, h13, h14, hbs, hws, lbs, lws, hd2⟩
    obtain ⟨rfl, hlt⟩ := rngd_get hi
    have hf2 := hd2.fz
    simp -implicitDefEqProofs only [xs1, xs2, xs3, rd, rds, vals, cont, Sl.cont, D.fz, fzL, cmpD, ordD, eqD_int, eqD_in, eqD_ni, eqD_nn, eqD_bb, isD, D.isNon, idx_tup, idx_lst, idx_ro, idx_own, addI, subI, fdivD, modD, negD, truD, bltD, lenD_items, listD, tupleD, absD_int, intD, tyD, D.items, D.isL, mutD, appD, extD, mutArgs, argsOf, argOf, lentS, places, back, backOne, outs, setL, ownAt, parS, lock, unlock, wipeS, putBack, free_zero, free_succ, fst_no, fst_v, rngOf1, rngOf2, srcOf, kit_bb, wp_some, retq_rt, retq_nx, turn_nx, turn_ct, turnp_nx, turnp_ct, turnp_rt, turnp_bk, Option.toList, Int.zero_add, Int.sub_zero, List.getElem?_cons_succ, List.getElem?_cons_zero, List.set_cons_succ, List.set_cons_zero, Option.bind_some, Option.map_some, if_true, if_false, decide_true, decide_false, Bool.false_eq_true, store_zero, store_succ, st_no, st_v, atI_pos, ix50, ix51, ix52, ix53, ix54, ixN_pos, Option.bind_some, List.nodup_nil, List.nodup_cons, List.mem_cons, List.not_mem_nil, or_false, or_true, false_or, not_false_eq_true, not_true, and_self, and_true, true_and, Bool.and_true, Bool.true_and, Bool.and_self, Bool.and_false, Bool.false_and, Bool.not_true, Bool.not_false, List.length_cons, List.length_nil, List.cons_append, List.nil_append, List.replicate, Out.map, List.append_eq, List.all_cons, List.all_nil, decide_not, ne_eq, lim_lit, List.length_map, Int.reduceLE, Int.reduceLT, Int.reduceToNat, Nat.reduceAdd, Nat.reduceSub, Nat.reduceLeDiff, Nat.reduceEqDiff, Int.reduceNeg, Int.reduceEq, Nat.reduceLT, Nat.reduceMul, forTu, h9, h10, h11, h12, h13, h14, hf2]
    repeat with_reducible refine wp_b ?_
    refine wp_mono (draw_ok hd2 (by omega) (by omega)) ?_
    rintro _ ⟨x, d3, rfl, x0, x1, hd3⟩
    have hf3 := hd3.fz
    have hx := x1 (by omega)
    have lb1 : bs.length < 16777216 := by omega
    have lw1 : ws.length < 16777216 := by omega
    by_cases c1 : x < 5 ∧ 1 < n
    · obtain ⟨c1, c2⟩ := c1
      have c2' : (1 : Int) < n := by omega
      simp -implicitDefEqProofs only [xs1, xs2, xs3, rd, rds, vals, cont, Sl.cont, D.fz, fzL, cmpD, ordD, eqD_int, eqD_in, eqD_ni, eqD_nn, eqD_bb, isD, D.isNon, idx_tup, idx_lst, idx_ro, idx_own, addI, subI, fdivD, modD, negD, truD, bltD, lenD_items, listD, tupleD, absD_int, intD, tyD, D.items, D.isL, mutD, appD, extD, mutArgs, argsOf, argOf, lentS, places, back, backOne, outs, setL, ownAt, parS, lock, unlock, wipeS, putBack, free_zero, free_succ, fst_no, fst_v, rngOf1, rngOf2, srcOf, kit_bb, wp_some, retq_rt, retq_nx, turn_nx, turn_ct, turnp_nx, turnp_ct, turnp_rt, turnp_bk, Option.toList, Int.zero_add, Int.sub_zero, List.getElem?_cons_succ, List.getElem?_cons_zero, List.set_cons_succ, List.set_cons_zero, Option.bind_some, Option.map_some, if_true, if_false, decide_true, decide_false, Bool.false_eq_true, store_zero, store_succ, st_no, st_v, atI_pos, ix50, ix51, ix52, ix53, ix54, ixN_pos, Option.bind_some, List.nodup_nil, List.nodup_cons, List.mem_cons, List.not_mem_nil, or_false, or_true, false_or, not_false_eq_true, not_true, and_self, and_true, true_and, Bool.and_true, Bool.true_and, Bool.and_self, Bool.and_false, Bool.false_and, Bool.not_true, Bool.not_false, List.length_cons, List.length_nil, List.cons_append, List.nil_append, List.replicate, Out.map, List.append_eq, List.all_cons, List.all_nil, decide_not, ne_eq, lim_lit, List.length_map, Int.reduceLE, Int.reduceLT, Int.reduceToNat, Nat.reduceAdd, Nat.reduceSub, Nat.reduceLeDiff, Nat.reduceEqDiff, Int.reduceNeg, Int.reduceEq, Nat.reduceLT, Nat.reduceMul, h9, h10, h11, h12, h13, h14, hf3, c1, c2']
      repeat with_reducible refine wp_b ?_
      refine wp_mono (pair_ok hd3 (by omega) hn2 (by omega)) ?_
      rintro _ ⟨u, v, d4, rfl, u0, u1, v0, v1, uv, hd4⟩
      have hf4 := hd4.fz
      simp -implicitDefEqProofs only [xs1, xs2, xs3, rd, rds, vals, cont, Sl.cont, D.fz, fzL, cmpD, ordD, eqD_int, eqD_in, eqD_ni, eqD_nn, eqD_bb, isD, D.isNon, idx_tup, idx_lst, idx_ro, idx_own, addI, subI, fdivD, modD, negD, truD, bltD, lenD_items, listD, tupleD, absD_int, intD, tyD, D.items, D.isL, mutD, appD, extD, mutArgs, argsOf, argOf, lentS, places, back, backOne, outs, setL, ownAt, parS, lock, unlock, wipeS, putBack, free_zero, free_succ, fst_no, fst_v, rngOf1, rngOf2, srcOf, kit_bb, wp_some, retq_rt, retq_nx, turn_nx, turn_ct, turnp_nx, turnp_ct, turnp_rt, turnp_bk, Option.toList, Int.zero_add, Int.sub_zero, List.getElem?_cons_succ, List.getElem?_cons_zero, List.set_cons_succ, List.set_cons_zero, Option.bind_some, Option.map_some, if_true, if_false, decide_true, decide_false, Bool.false_eq_true, store_zero, store_succ, st_no, st_v, atI_pos, ix50, ix51, ix52, ix53, ix54, ixN_pos, Option.bind_some, List.nodup_nil, List.nodup_cons, List.mem_cons, List.not_mem_nil, or_false, or_true, false_or, not_false_eq_true, not_true, and_self, and_true, true_and, Bool.and_true, Bool.true_and, Bool.and_self, Bool.and_false, Bool.false_and, Bool.not_true, Bool.not_false, List.length_cons, List.length_nil, List.cons_append, List.nil_append, List.replicate, Out.map, List.append_eq, List.all_cons, List.all_nil, decide_not, ne_eq, lim_lit, List.length_map, Int.reduceLE, Int.reduceLT, Int.reduceToNat, Nat.reduceAdd, Nat.reduceSub, Nat.reduceLeDiff, Nat.reduceEqDiff, Int.reduceNeg, Int.reduceEq, Nat.reduceLT, Nat.reduceMul, h9, h10, h11, h12, h13, h14, hf4]
      repeat with_reducible refine wp_b ?_
      refine wp_mono (tie_ok hd4 (by omega) hn2 u0 u1 v0 v1 uv) ?_
      rintro _ ⟨l, d5, rfl, hl5, ll5, hd5⟩
      have hf5 := hd5.fz
      have lb2 : bs.length + l.length ≤ 16777216 := by omega
      simp -implicitDefEqProofs only [xs1, xs2, xs3, rd, rds, vals, cont, Sl.cont, D.fz, fzL, cmpD, ordD, eqD_int, eqD_in, eqD_ni, eqD_nn, eqD_bb, isD, D.isNon, idx_tup, idx_lst, idx_ro, idx_own, addI, subI, fdivD, modD, negD, truD, bltD, lenD_items, listD, tupleD, absD_int, intD, tyD, D.items, D.isL, mutD, appD, extD, mutArgs, argsOf, argOf, lentS, places, back, backOne, outs, setL, ownAt, parS, lock, unlock, wipeS, putBack, free_zero, free_succ, fst_no, fst_v, rngOf1, rngOf2, srcOf, kit_bb, wp_some, retq_rt, retq_nx, turn_nx, turn_ct, turnp_nx, turnp_ct, turnp_rt, turnp_bk, Option.toList, Int.zero_add, Int.sub_zero, List.getElem?_cons_succ, List.getElem?_cons_zero, List.set_cons_succ, List.set_cons_zero, Option.bind_some, Option.map_some, if_true, if_false, decide_true, decide_false, Bool.false_eq_true, store_zero, store_succ, st_no, st_v, atI_pos, ix50, ix51, ix52, ix53, ix54, ixN_pos, Option.bind_some, List.nodup_nil, List.nodup_cons, List.mem_cons, List.not_mem_nil, or_false, or_true, false_or, not_false_eq_true, not_true, and_self, and_true, true_and, Bool.and_true, Bool.true_and, Bool.and_self, Bool.and_false, Bool.false_and, Bool.not_true, Bool.not_false, List.length_cons, List.length_nil, List.cons_append, List.nil_append, List.replicate, Out.map, List.append_eq, List.all_cons, List.all_nil, decide_not, ne_eq, lim_lit, List.length_map, Int.reduceLE, Int.reduceLT, Int.reduceToNat, Nat.reduceAdd, Nat.reduceSub, Nat.reduceLeDiff, Nat.reduceEqDiff, Int.reduceNeg, Int.reduceEq, Nat.reduceLT, Nat.reduceMul, h9, h10, h11, h12, h13, h14, hf5, fz_tr, lb2]
      exact ⟨bs ++ l, ws, _, _, _, _, _, _, _, by rw [List.map_append], st_v, st_v, st_v, st_v, h13, h14, app_all hbs hl5, hws, by rw [List.length_append]; omega, by omega, hd5.mono (by omega)⟩
    by_cases c2 : x = 5 ∧ 1 < n
    · obtain ⟨rfl, c2⟩ := c2
      have c2' : (1 : Int) < n := by omega
      simp -implicitDefEqProofs only [xs1, xs2, xs3, rd, rds, vals, cont, Sl.cont, D.fz, fzL, cmpD, ordD, eqD_int, eqD_in, eqD_ni, eqD_nn, eqD_bb, isD, D.isNon, idx_tup, idx_lst, idx_ro, idx_own, addI, subI, fdivD, modD, negD, truD, bltD, lenD_items, listD, tupleD, absD_int, intD, tyD, D.items, D.isL, mutD, appD, extD, mutArgs, argsOf, argOf, lentS, places, back, backOne, outs, setL, ownAt, parS, lock, unlock, wipeS, putBack, free_zero, free_succ, fst_no, fst_v, rngOf1, rngOf2, srcOf, kit_bb, wp_some, retq_rt, retq_nx, turn_nx, turn_ct, turnp_nx, turnp_ct, turnp_rt, turnp_bk, Option.toList, Int.zero_add, Int.sub_zero, List.getElem?_cons_succ, List.getElem?_cons_zero, List.set_cons_succ, List.set_cons_zero, Option.bind_some, Option.map_some, if_true, if_false, decide_true, decide_false, Bool.false_eq_true, store_zero, store_succ, st_no, st_v, atI_pos, ix50, ix51, ix52, ix53, ix54, ixN_pos, Option.bind_some, List.nodup_nil, List.nodup_cons, List.mem_cons, List.not_mem_nil, or_false, or_true, false_or, not_false_eq_true, not_true, and_self, and_true, true_and, Bool.and_true, Bool.true_and, Bool.and_self, Bool.and_false, Bool.false_and, Bool.not_true, Bool.not_false, List.length_cons, List.length_nil, List.cons_append, List.nil_append, List.replicate, Out.map, List.append_eq, List.all_cons, List.all_nil, decide_not, ne_eq, lim_lit, List.length_map, Int.reduceLE, Int.reduceLT, Int.reduceToNat, Nat.reduceAdd, Nat.reduceSub, Nat.reduceLeDiff, Nat.reduceEqDiff, Int.reduceNeg, Int.reduceEq, Nat.reduceLT, Nat.reduceMul, h9, h10, h11, h12, h13, h14, hf3, c2']
      repeat with_reducible refine wp_b ?_
      refine wp_mono (pair_ok hd3 (by omega) hn2 (by omega)) ?_
      rintro _ ⟨u, v, d4, rfl, u0, u1, v0, v1, uv, hd4⟩
      have hf4 := hd4.fz
      have eu : (sp.map spD)[u.toNat]? = _ := get_sp (by omega)
      have hq := hp _ (mem_sp (sp := sp) (i := u.toNat) (by omega))
      have e2 : binD .Mult (.int 2) (.int v) = _ := mulD (by omega) (by omega)
      simp -implicitDefEqProofs only [xs1, xs2, xs3, rd, rds, vals, cont, Sl.cont, D.fz, fzL, cmpD, ordD, eqD_int, eqD_in, eqD_ni, eqD_nn, eqD_bb, isD, D.isNon, idx_tup, idx_lst, idx_ro, idx_own, addI, subI, fdivD, modD, negD, truD, bltD, lenD_items, listD, tupleD, absD_int, intD, tyD, D.items, D.isL, mutD, appD, extD, mutArgs, argsOf, argOf, lentS, places, back, backOne, outs, setL, ownAt, parS, lock, unlock, wipeS, putBack, free_zero, free_succ, fst_no, fst_v, rngOf1, rngOf2, srcOf, kit_bb, wp_some, retq_rt, retq_nx, turn_nx, turn_ct, turnp_nx, turnp_ct, turnp_rt, turnp_bk, Option.toList, Int.zero_add, Int.sub_zero, List.getElem?_cons_succ, List.getElem?_cons_zero, List.set_cons_succ, List.set_cons_zero, Option.bind_some, Option.map_some, if_true, if_false, decide_true, decide_false, Bool.false_eq_true, store_zero, store_succ, st_no, st_v, atI_pos, ix50, ix51, ix52, ix53, ix54, ixN_pos, Option.bind_some, List.nodup_nil, List.nodup_cons, List.mem_cons, List.not_mem_nil, or_false, or_true, false_or, not_false_eq_true, not_true, and_self, and_true, true_and, Bool.and_true, Bool.true_and, Bool.and_self, Bool.and_false, Bool.false_and, Bool.not_true, Bool.not_false, List.length_cons, List.length_nil, List.cons_append, List.nil_append, List.replicate, Out.map, List.append_eq, List.all_cons, List.all_nil, decide_not, ne_eq, lim_lit, List.length_map, Int.reduceLE, Int.reduceLT, Int.reduceToNat, Nat.reduceAdd, Nat.reduceSub, Nat.reduceLeDiff, Nat.reduceEqDiff, Int.reduceNeg, Int.reduceEq, Nat.reduceLT, Nat.reduceMul, h9, h10, h11, h12, h13, h14, hf4, eu, spD, fz_sp, u0, e2]
      repeat with_reducible refine wp_b ?_
      refine wp_mono (draw_ok hd4 (by omega) (by omega)) ?_
      rintro _ ⟨y, d5, rfl, y0, y1, hd5⟩
      have hf5 := hd5.fz
      simp -implicitDefEqProofs only [xs1, xs2, xs3, rd, rds, vals, cont, Sl.cont, D.fz, fzL, cmpD, ordD, eqD_int, eqD_in, eqD_ni, eqD_nn, eqD_bb, isD, D.isNon, idx_tup, idx_lst, idx_ro, idx_own, addI, subI, fdivD, modD, negD, truD, bltD, lenD_items, listD, tupleD, absD_int, intD, tyD, D.items, D.isL, mutD, appD, extD, mutArgs, argsOf, argOf, lentS, places, back, backOne, outs, setL, ownAt, parS, lock, unlock, wipeS, putBack, free_zero, free_succ, fst_no, fst_v, rngOf1, rngOf2, srcOf, kit_bb, wp_some, retq_rt, retq_nx, turn_nx, turn_ct, turnp_nx, turnp_ct, turnp_rt, turnp_bk, Option.toList, Int.zero_add, Int.sub_zero, List.getElem?_cons_succ, List.getElem?_cons_zero, List.set_cons_succ, List.set_cons_zero, Option.bind_some, Option.map_some, if_true, if_false, decide_true, decide_false, Bool.false_eq_true, store_zero, store_succ, st_no, st_v, atI_pos, ix50, ix51, ix52, ix53, ix54, ixN_pos, Option.bind_some, List.nodup_nil, List.nodup_cons, List.mem_cons, List.not_mem_nil, or_false, or_true, false_or, not_false_eq_true, not_true, and_self, and_true, true_and, Bool.and_true, Bool.true_and, Bool.and_self, Bool.and_false, Bool.false_and, Bool.not_true, Bool.not_false, List.length_cons, List.length_nil, List.cons_append, List.nil_append, List.replicate, Out.map, List.append_eq, List.all_cons, List.all_nil, decide_not, ne_eq, lim_lit, List.length_map, Int.reduceLE, Int.reduceLT, Int.reduceToNat, Nat.reduceAdd, Nat.reduceSub, Nat.reduceLeDiff, Nat.reduceEqDiff, Int.reduceNeg, Int.reduceEq, Nat.reduceLT, Nat.reduceMul, h9, h10, h11, h12, h13, h14, hf5, lw1]
      exact ⟨bs, ws ++ [(2 * v + 1, u, 1 + y)], _, _, _, _, _, _, _, by simp only [List.map_append, List.map_cons, List.map_nil, trD]; rfl, st_v, st_v, st_v, st_v, h13, h14, hbs, app_all hws (one_all ⟨by simp; omega, by simp; omega, u0, u1, by simp; omega, by have := y1 (by omega); simp; omega, by simp; omega⟩), by omega, by rw [List.length_append]; simp; omega, hd5.mono (by omega)⟩
    have hcc : (if x < 5 then (1 : Int) < n else False) = False := by
      split
      · exact eq_false (by omega)
      · rfl
    by_cases c3 : x = 6
    · subst c3
      have e2 : binD .FloorDiv (.int h) (.int 2) = _ := fdivD (by omega) (by omega)
      simp -implicitDefEqProofs only [xs1, xs2, xs3, rd, rds, vals, cont, Sl.cont, D.fz, fzL, cmpD, ordD, eqD_int, eqD_in, eqD_ni, eqD_nn, eqD_bb, isD, D.isNon, idx_tup, idx_lst, idx_ro, idx_own, addI, subI, fdivD, modD, negD, truD, bltD, lenD_items, listD, tupleD, absD_int, intD, tyD, D.items, D.isL, mutD, appD, extD, mutArgs, argsOf, argOf, lentS, places, back, backOne, outs, setL, ownAt, parS, lock, unlock, wipeS, putBack, free_zero, free_succ, fst_no, fst_v, rngOf1, rngOf2, srcOf, kit_bb, wp_some, retq_rt, retq_nx, turn_nx, turn_ct, turnp_nx, turnp_ct, turnp_rt, turnp_bk, Option.toList, Int.zero_add, Int.sub_zero, List.getElem?_cons_succ, List.getElem?_cons_zero, List.set_cons_succ, List.set_cons_zero, Option.bind_some, Option.map_some, if_true, if_false, decide_true, decide_false, Bool.false_eq_true, store_zero, store_succ, st_no, st_v, atI_pos, ix50, ix51, ix52, ix53, ix54, ixN_pos, Option.bind_some, List.nodup_nil, List.nodup_cons, List.mem_cons, List.not_mem_nil, or_false, or_true, false_or, not_false_eq_true, not_true, and_self, and_true, true_and, Bool.and_true, Bool.true_and, Bool.and_self, Bool.and_false, Bool.false_and, Bool.not_true, Bool.not_false, List.length_cons, List.length_nil, List.cons_append, List.nil_append, List.replicate, Out.map, List.append_eq, List.all_cons, List.all_nil, decide_not, ne_eq, lim_lit, List.length_map, Int.reduceLE, Int.reduceLT, Int.reduceToNat, Nat.reduceAdd, Nat.reduceSub, Nat.reduceLeDiff, Nat.reduceEqDiff, Int.reduceNeg, Int.reduceEq, Nat.reduceLT, Nat.reduceMul, h9, h10, h11, h12, h13, h14, hf3]
      repeat with_reducible refine wp_b ?_
      refine wp_mono (draw_ok hd3 (by omega) (by omega)) ?_
      rintro _ ⟨y, d5, rfl, y0, y1, hd5⟩
      have hf5 := hd5.fz
      simp -implicitDefEqProofs only [xs1, xs2, xs3, rd, rds, vals, cont, Sl.cont, D.fz, fzL, cmpD, ordD, eqD_int, eqD_in, eqD_ni, eqD_nn, eqD_bb, isD, D.isNon, idx_tup, idx_lst, idx_ro, idx_own, addI, subI, fdivD, modD, negD, truD, bltD, lenD_items, listD, tupleD, absD_int, intD, tyD, D.items, D.isL, mutD, appD, extD, mutArgs, argsOf, argOf, lentS, places, back, backOne, outs, setL, ownAt, parS, lock, unlock, wipeS, putBack, free_zero, free_succ, fst_no, fst_v, rngOf1, rngOf2, srcOf, kit_bb, wp_some, retq_rt, retq_nx, turn_nx, turn_ct, turnp_nx, turnp_ct, turnp_rt, turnp_bk, Option.toList, Int.zero_add, Int.sub_zero, List.getElem?_cons_succ, List.getElem?_cons_zero, List.set_cons_succ, List.set_cons_zero, Option.bind_some, Option.map_some, if_true, if_false, decide_true, decide_false, Bool.false_eq_true, store_zero, store_succ, st_no, st_v, atI_pos, ix50, ix51, ix52, ix53, ix54, ixN_pos, Option.bind_some, List.nodup_nil, List.nodup_cons, List.mem_cons, List.not_mem_nil, or_false, or_true, false_or, not_false_eq_true, not_true, and_self, and_true, true_and, Bool.and_true, Bool.true_and, Bool.and_self, Bool.and_false, Bool.false_and, Bool.not_true, Bool.not_false, List.length_cons, List.length_nil, List.cons_append, List.nil_append, List.replicate, Out.map, List.append_eq, List.all_cons, List.all_nil, decide_not, ne_eq, lim_lit, List.length_map, Int.reduceLE, Int.reduceLT, Int.reduceToNat, Nat.reduceAdd, Nat.reduceSub, Nat.reduceLeDiff, Nat.reduceEqDiff, Int.reduceNeg, Int.reduceEq, Nat.reduceLT, Nat.reduceMul, h9, h10, h11, h12, h13, h14, hf5, e2]
      repeat with_reducible refine wp_b ?_
      refine wp_mono (draw_ok hd5 (by omega) (by omega)) ?_
      rintro _ ⟨z, d6, rfl, z0, z1, hd6⟩
      have hf6 := hd6.fz
      simp -implicitDefEqProofs only [xs1, xs2, xs3, rd, rds, vals, cont, Sl.cont, D.fz, fzL, cmpD, ordD, eqD_int, eqD_in, eqD_ni, eqD_nn, eqD_bb, isD, D.isNon, idx_tup, idx_lst, idx_ro, idx_own, addI, subI, fdivD, modD, negD, truD, bltD, lenD_items, listD, tupleD, absD_int, intD, tyD, D.items, D.isL, mutD, appD, extD, mutArgs, argsOf, argOf, lentS, places, back, backOne, outs, setL, ownAt, parS, lock, unlock, wipeS, putBack, free_zero, free_succ, fst_no, fst_v, rngOf1, rngOf2, srcOf, kit_bb, wp_some, retq_rt, retq_nx, turn_nx, turn_ct, turnp_nx, turnp_ct, turnp_rt, turnp_bk, Option.toList, Int.zero_add, Int.sub_zero, List.getElem?_cons_succ, List.getElem?_cons_zero, List.set_cons_succ, List.set_cons_zero, Option.bind_some, Option.map_some, if_true, if_false, decide_true, decide_false, Bool.false_eq_true, store_zero, store_succ, st_no, st_v, atI_pos, ix50, ix51, ix52, ix53, ix54, ixN_pos, Option.bind_some, List.nodup_nil, List.nodup_cons, List.mem_cons, List.not_mem_nil, or_false, or_true, false_or, not_false_eq_true, not_true, and_self, and_true, true_and, Bool.and_true, Bool.true_and, Bool.and_self, Bool.and_false, Bool.false_and, Bool.not_true, Bool.not_false, List.length_cons, List.length_nil, List.cons_append, List.nil_append, List.replicate, Out.map, List.append_eq, List.all_cons, List.all_nil, decide_not, ne_eq, lim_lit, List.length_map, Int.reduceLE, Int.reduceLT, Int.reduceToNat, Nat.reduceAdd, Nat.reduceSub, Nat.reduceLeDiff, Nat.reduceEqDiff, Int.reduceNeg, Int.reduceEq, Nat.reduceLT, Nat.reduceMul, h9, h10, h11, h12, h13, h14, hf6, lb1]
      have y1 := y1 (by omega)
      have z1 := z1 (by omega)
      exact ⟨bs ++ [(0, 1 + y, h - z)], ws, _, _, _, _, _, _, _, by simp only [List.map_append, List.map_cons, List.map_nil, trD]; rfl, st_v, st_v, h11, h12, h13, h14, app_all hbs (one_all ⟨by simp; try omega, by simp; try omega, by simp; try omega, by simp; try omega, by simp; try omega, by simp; try omega⟩), hws, by rw [List.length_append]; simp; omega, by omega, hd6.mono (by omega)⟩
    by_cases c4 : x = 7
    · subst c4
      simp -implicitDefEqProofs only [xs1, xs2, xs3, rd, rds, vals, cont, Sl.cont, D.fz, fzL, cmpD, ordD, eqD_int, eqD_in, eqD_ni, eqD_nn, eqD_bb, isD, D.isNon, idx_tup, idx_lst, idx_ro, idx_own, addI, subI, fdivD, modD, negD, truD, bltD, lenD_items, listD, tupleD, absD_int, intD, tyD, D.items, D.isL, mutD, appD, extD, mutArgs, argsOf, argOf, lentS, places, back, backOne, outs, setL, ownAt, parS, lock, unlock, wipeS, putBack, free_zero, free_succ, fst_no, fst_v, rngOf1, rngOf2, srcOf, kit_bb, wp_some, retq_rt, retq_nx, turn_nx, turn_ct, turnp_nx, turnp_ct, turnp_rt, turnp_bk, Option.toList, Int.zero_add, Int.sub_zero, List.getElem?_cons_succ, List.getElem?_cons_zero, List.set_cons_succ, List.set_cons_zero, Option.bind_some, Option.map_some, if_true, if_false, decide_true, decide_false, Bool.false_eq_true, store_zero, store_succ, st_no, st_v, atI_pos, ix50, ix51, ix52, ix53, ix54, ixN_pos, Option.bind_some, List.nodup_nil, List.nodup_cons, List.mem_cons, List.not_mem_nil, or_false, or_true, false_or, not_false_eq_true, not_true, and_self, and_true, true_and, Bool.and_true, Bool.true_and, Bool.and_self, Bool.and_false, Bool.false_and, Bool.not_true, Bool.not_false, List.length_cons, List.length_nil, List.cons_append, List.nil_append, List.replicate, Out.map, List.append_eq, List.all_cons, List.all_nil, decide_not, ne_eq, lim_lit, List.length_map, Int.reduceLE, Int.reduceLT, Int.reduceToNat, Nat.reduceAdd, Nat.reduceSub, Nat.reduceLeDiff, Nat.reduceEqDiff, Int.reduceNeg, Int.reduceEq, Nat.reduceLT, Nat.reduceMul, h9, h10, h11, h12, h13, h14, hf3]
      repeat with_reducible refine wp_b ?_
      refine wp_mono (draw_ok hd3 (by omega) (by omega)) ?_
      rintro _ ⟨y, d5, rfl, y0, y1, hd5⟩
      have hf5 := hd5.fz
      have e2 : binD .Mult (.int 2) (.int y) = _ := mulD (by omega) (by omega)
      simp -implicitDefEqProofs only [xs1, xs2, xs3, rd, rds, vals, cont, Sl.cont, D.fz, fzL, cmpD, ordD, eqD_int, eqD_in, eqD_ni, eqD_nn, eqD_bb, isD, D.isNon, idx_tup, idx_lst, idx_ro, idx_own, addI, subI, fdivD, modD, negD, truD, bltD, lenD_items, listD, tupleD, absD_int, intD, tyD, D.items, D.isL, mutD, appD, extD, mutArgs, argsOf, argOf, lentS, places, back, backOne, outs, setL, ownAt, parS, lock, unlock, wipeS, putBack, free_zero, free_succ, fst_no, fst_v, rngOf1, rngOf2, srcOf, kit_bb, wp_some, retq_rt, retq_nx, turn_nx, turn_ct, turnp_nx, turnp_ct, turnp_rt, turnp_bk, Option.toList, Int.zero_add, Int.sub_zero, List.getElem?_cons_succ, List.getElem?_cons_zero, List.set_cons_succ, List.set_cons_zero, Option.bind_some, Option.map_some, if_true, if_false, decide_true, decide_false, Bool.false_eq_true, store_zero, store_succ, st_no, st_v, atI_pos, ix50, ix51, ix52, ix53, ix54, ixN_pos, Option.bind_some, List.nodup_nil, List.nodup_cons, List.mem_cons, List.not_mem_nil, or_false, or_true, false_or, not_false_eq_true, not_true, and_self, and_true, true_and, Bool.and_true, Bool.true_and, Bool.and_self, Bool.and_false, Bool.false_and, Bool.not_true, Bool.not_false, List.length_cons, List.length_nil, List.cons_append, List.nil_append, List.replicate, Out.map, List.append_eq, List.all_cons, List.all_nil, decide_not, ne_eq, lim_lit, List.length_map, Int.reduceLE, Int.reduceLT, Int.reduceToNat, Nat.reduceAdd, Nat.reduceSub, Nat.reduceLeDiff, Nat.reduceEqDiff, Int.reduceNeg, Int.reduceEq, Nat.reduceLT, Nat.reduceMul, h9, h10, h11, h12, h13, h14, hf5, e2]
      repeat with_reducible refine wp_b ?_
      refine wp_mono (draw_ok hd5 (by omega) (by omega)) ?_
      rintro _ ⟨z, d6, rfl, z0, z1, hd6⟩
      have hf6 := hd6.fz
      simp -implicitDefEqProofs only [xs1, xs2, xs3, rd, rds, vals, cont, Sl.cont, D.fz, fzL, cmpD, ordD, eqD_int, eqD_in, eqD_ni, eqD_nn, eqD_bb, isD, D.isNon, idx_tup, idx_lst, idx_ro, idx_own, addI, subI, fdivD, modD, negD, truD, bltD, lenD_items, listD, tupleD, absD_int, intD, tyD, D.items, D.isL, mutD, appD, extD, mutArgs, argsOf, argOf, lentS, places, back, backOne, outs, setL, ownAt, parS, lock, unlock, wipeS, putBack, free_zero, free_succ, fst_no, fst_v, rngOf1, rngOf2, srcOf, kit_bb, wp_some, retq_rt, retq_nx, turn_nx, turn_ct, turnp_nx, turnp_ct, turnp_rt, turnp_bk, Option.toList, Int.zero_add, Int.sub_zero, List.getElem?_cons_succ, List.getElem?_cons_zero, List.set_cons_succ, List.set_cons_zero, Option.bind_some, Option.map_some, if_true, if_false, decide_true, decide_false, Bool.false_eq_true, store_zero, store_succ, st_no, st_v, atI_pos, ix50, ix51, ix52, ix53, ix54, ixN_pos, Option.bind_some, List.nodup_nil, List.nodup_cons, List.mem_cons, List.not_mem_nil, or_false, or_true, false_or, not_false_eq_true, not_true, and_self, and_true, true_and, Bool.and_true, Bool.true_and, Bool.and_self, Bool.and_false, Bool.false_and, Bool.not_true, Bool.not_false, List.length_cons, List.length_nil, List.cons_append, List.nil_append, List.replicate, Out.map, List.append_eq, List.all_cons, List.all_nil, decide_not, ne_eq, lim_lit, List.length_map, Int.reduceLE, Int.reduceLT, Int.reduceToNat, Nat.reduceAdd, Nat.reduceSub, Nat.reduceLeDiff, Nat.reduceEqDiff, Int.reduceNeg, Int.reduceEq, Nat.reduceLT, Nat.reduceMul, h9, h10, h11, h12, h13, h14, hf6, lb1]
      have y1 := y1 (by omega)
      have z1 := z1 (by omega)
      exact ⟨bs ++ [(2 * y + 1, 0, -z)], ws, _, _, _, _, _, _, _, by simp only [List.map_append, List.map_cons, List.map_nil, trD]; rfl, st_v, st_v, h11, h12, h13, h14, app_all hbs (one_all ⟨by simp; try omega, by simp; try omega, by simp; try omega, by simp; try omega, by simp; try omega, by simp; try omega⟩), hws, by rw [List.length_append]; simp; omega, by omega, hd6.mono (by omega)⟩
    have tail : ∀ F : Prop, F → F := fun _ h => h
    have c5 : (x < 5 ∧ ¬ (1 : Int) < n) ∨ (x = 5 ∧ ¬ (1 : Int) < n) ∨ x = 8 := by omega
    have n5 : x < 5 → x ≠ 5 := by omega
    rcases c5 with ⟨c5, c6⟩ | ⟨rfl, c6⟩ | rfl
    · have c7 : ¬ x = 5 := by omega
      simp -implicitDefEqProofs only [xs1, xs2, xs3, rd, rds, vals, cont, Sl.cont, D.fz, fzL, cmpD, ordD, eqD_int, eqD_in, eqD_ni, eqD_nn, eqD_bb, isD, D.isNon, idx_tup, idx_lst, idx_ro, idx_own, addI, subI, fdivD, modD, negD, truD, bltD, lenD_items, listD, tupleD, absD_int, intD, tyD, D.items, D.isL, mutD, appD, extD, mutArgs, argsOf, argOf, lentS, places, back, backOne, outs, setL, ownAt, parS, lock, unlock, wipeS, putBack, free_zero, free_succ, fst_no, fst_v, rngOf1, rngOf2, srcOf, kit_bb, wp_some, retq_rt, retq_nx, turn_nx, turn_ct, turnp_nx, turnp_ct, turnp_rt, turnp_bk, Option.toList, Int.zero_add, Int.sub_zero, List.getElem?_cons_succ, List.getElem?_cons_zero, List.set_cons_succ, List.set_cons_zero, Option.bind_some, Option.map_some, if_true, if_false, decide_true, decide_false, Bool.false_eq_true, store_zero, store_succ, st_no, st_v, atI_pos, ix50, ix51, ix52, ix53, ix54, ixN_pos, Option.bind_some, List.nodup_nil, List.nodup_cons, List.mem_cons, List.not_mem_nil, or_false, or_true, false_or, not_false_eq_true, not_true, and_self, and_true, true_and, Bool.and_true, Bool.true_and, Bool.and_self, Bool.and_false, Bool.false_and, Bool.not_true, Bool.not_false, List.length_cons, List.length_nil, List.cons_append, List.nil_append, List.replicate, Out.map, List.append_eq, List.all_cons, List.all_nil, decide_not, ne_eq, lim_lit, List.length_map, Int.reduceLE, Int.reduceLT, Int.reduceToNat, Nat.reduceAdd, Nat.reduceSub, Nat.reduceLeDiff, Nat.reduceEqDiff, Int.reduceNeg, Int.reduceEq, Nat.reduceLT, Nat.reduceMul, h9, h10, h11, h12, h13, h14, hf3, c5, c6, c7, c3, c4]
      repeat with_reducible refine wp_b ?_
      refine wp_mono (draw_ok hd3 (by omega) (by omega)) ?_
      rintro _ ⟨y, d5, rfl, y0, y1, hd5⟩
      have hf5 := hd5.fz
      simp -implicitDefEqProofs only [xs1, xs2, xs3, rd, rds, vals, cont, Sl.cont, D.fz, fzL, cmpD, ordD, eqD_int, eqD_in, eqD_ni, eqD_nn, eqD_bb, isD, D.isNon, idx_tup, idx_lst, idx_ro, idx_own, addI, subI, fdivD, modD, negD, truD, bltD, lenD_items, listD, tupleD, absD_int, intD, tyD, D.items, D.isL, mutD, appD, extD, mutArgs, argsOf, argOf, lentS, places, back, backOne, outs, setL, ownAt, parS, lock, unlock, wipeS, putBack, free_zero, free_succ, fst_no, fst_v, rngOf1, rngOf2, srcOf, kit_bb, wp_some, retq_rt, retq_nx, turn_nx, turn_ct, turnp_nx, turnp_ct, turnp_rt, turnp_bk, Option.toList, Int.zero_add, Int.sub_zero, List.getElem?_cons_succ, List.getElem?_cons_zero, List.set_cons_succ, List.set_cons_zero, Option.bind_some, Option.map_some, if_true, if_false, decide_true, decide_false, Bool.false_eq_true, store_zero, store_succ, st_no, st_v, atI_pos, ix50, ix51, ix52, ix53, ix54, ixN_pos, Option.bind_some, List.nodup_nil, List.nodup_cons, List.mem_cons, List.not_mem_nil, or_false, or_true, false_or, not_false_eq_true, not_true, and_self, and_true, true_and, Bool.and_true, Bool.true_and, Bool.and_self, Bool.and_false, Bool.false_and, Bool.not_true, Bool.not_false, List.length_cons, List.length_nil, List.cons_append, List.nil_append, List.replicate, Out.map, List.append_eq, List.all_cons, List.all_nil, decide_not, ne_eq, lim_lit, List.length_map, Int.reduceLE, Int.reduceLT, Int.reduceToNat, Nat.reduceAdd, Nat.reduceSub, Nat.reduceLeDiff, Nat.reduceEqDiff, Int.reduceNeg, Int.reduceEq, Nat.reduceLT, Nat.reduceMul, h9, h10, h11, h12, h13, h14, hf5]
      repeat with_reducible refine wp_b ?_
      refine wp_mono (draw_ok hd5 (by omega) (by omega)) ?_
      rintro _ ⟨z, d6, rfl, z0, z1, hd6⟩
      have hf6 := hd6.fz
      by_cases hc : y ≤ z
      · simp -implicitDefEqProofs only [xs1, xs2, xs3, rd, rds, vals, cont, Sl.cont, D.fz, fzL, cmpD, ordD, eqD_int, eqD_in, eqD_ni, eqD_nn, eqD_bb, isD, D.isNon, idx_tup, idx_lst, idx_ro, idx_own, addI, subI, fdivD, modD, negD, truD, bltD, lenD_items, listD, tupleD, absD_int, intD, tyD, D.items, D.isL, mutD, appD, extD, mutArgs, argsOf, argOf, lentS, places, back, backOne, outs, setL, ownAt, parS, lock, unlock, wipeS, putBack, free_zero, free_succ, fst_no, fst_v, rngOf1, rngOf2, srcOf, kit_bb, wp_some, retq_rt, retq_nx, turn_nx, turn_ct, turnp_nx, turnp_ct, turnp_rt, turnp_bk, Option.toList, Int.zero_add, Int.sub_zero, List.getElem?_cons_succ, List.getElem?_cons_zero, List.set_cons_succ, List.set_cons_zero, Option.bind_some, Option.map_some, if_true, if_false, decide_true, decide_false, Bool.false_eq_true, store_zero, store_succ, st_no, st_v, atI_pos, ix50, ix51, ix52, ix53, ix54, ixN_pos, Option.bind_some, List.nodup_nil, List.nodup_cons, List.mem_cons, List.not_mem_nil, or_false, or_true, false_or, not_false_eq_true, not_true, and_self, and_true, true_and, Bool.and_true, Bool.true_and, Bool.and_self, Bool.and_false, Bool.false_and, Bool.not_true, Bool.not_false, List.length_cons, List.length_nil, List.cons_append, List.nil_append, List.replicate, Out.map, List.append_eq, List.all_cons, List.all_nil, decide_not, ne_eq, lim_lit, List.length_map, Int.reduceLE, Int.reduceLT, Int.reduceToNat, Nat.reduceAdd, Nat.reduceSub, Nat.reduceLeDiff, Nat.reduceEqDiff, Int.reduceNeg, Int.reduceEq, Nat.reduceLT, Nat.reduceMul, h9, h10, h11, h12, h13, h14, hf6, hc]
        repeat with_reducible refine wp_b ?_
        refine wp_mono (draw_ok hd6 (by omega) (by omega)) ?_
        rintro _ ⟨q, d7, rfl, q0, q1, hd7⟩
        have hf7 := hd7.fz
        simp -implicitDefEqProofs only [xs1, xs2, xs3, rd, rds, vals, cont, Sl.cont, D.fz, fzL, cmpD, ordD, eqD_int, eqD_in, eqD_ni, eqD_nn, eqD_bb, isD, D.isNon, idx_tup, idx_lst, idx_ro, idx_own, addI, subI, fdivD, modD, negD, truD, bltD, lenD_items, listD, tupleD, absD_int, intD, tyD, D.items, D.isL, mutD, appD, extD, mutArgs, argsOf, argOf, lentS, places, back, backOne, outs, setL, ownAt, parS, lock, unlock, wipeS, putBack, free_zero, free_succ, fst_no, fst_v, rngOf1, rngOf2, srcOf, kit_bb, wp_some, retq_rt, retq_nx, turn_nx, turn_ct, turnp_nx, turnp_ct, turnp_rt, turnp_bk, Option.toList, Int.zero_add, Int.sub_zero, List.getElem?_cons_succ, List.getElem?_cons_zero, List.set_cons_succ, List.set_cons_zero, Option.bind_some, Option.map_some, if_true, if_false, decide_true, decide_false, Bool.false_eq_true, store_zero, store_succ, st_no, st_v, atI_pos, ix50, ix51, ix52, ix53, ix54, ixN_pos, Option.bind_some, List.nodup_nil, List.nodup_cons, List.mem_cons, List.not_mem_nil, or_false, or_true, false_or, not_false_eq_true, not_true, and_self, and_true, true_and, Bool.and_true, Bool.true_and, Bool.and_self, Bool.and_false, Bool.false_and, Bool.not_true, Bool.not_false, List.length_cons, List.length_nil, List.cons_append, List.nil_append, List.replicate, Out.map, List.append_eq, List.all_cons, List.all_nil, decide_not, ne_eq, lim_lit, List.length_map, Int.reduceLE, Int.reduceLT, Int.reduceToNat, Nat.reduceAdd, Nat.reduceSub, Nat.reduceLeDiff, Nat.reduceEqDiff, Int.reduceNeg, Int.reduceEq, Nat.reduceLT, Nat.reduceMul, h9, h10, h11, h12, h13, h14, hf7, lb1]
        have y1 := y1 (by omega)
        have z1 := z1 (by omega)
        have q1 := q1 (by omega)
        exact ⟨bs ++ [(y, z + 1, q - 4)], ws, _, _, _, _, _, _, _, by simp only [List.map_append, List.map_cons, List.map_nil, trD]; rfl, st_v, st_v, h11, h12, st_v, st_v, app_all hbs (one_all ⟨by simp; try omega, by simp; try omega, by simp; try omega, by simp; try omega, by simp; try omega, by simp; try omega⟩), hws, by rw [List.length_append]; simp; omega, by omega, hd7.mono (by omega)⟩
      · simp -implicitDefEqProofs only [xs1, xs2, xs3, rd, rds, vals, cont, Sl.cont, D.fz, fzL, cmpD, ordD, eqD_int, eqD_in, eqD_ni, eqD_nn, eqD_bb, isD, D.isNon, idx_tup, idx_lst, idx_ro, idx_own, addI, subI, fdivD, modD, negD, truD, bltD, lenD_items, listD, tupleD, absD_int, intD, tyD, D.items, D.isL, mutD, appD, extD, mutArgs, argsOf, argOf, lentS, places, back, backOne, outs, setL, ownAt, parS, lock, unlock, wipeS, putBack, free_zero, free_succ, fst_no, fst_v, rngOf1, rngOf2, srcOf, kit_bb, wp_some, retq_rt, retq_nx, turn_nx, turn_ct, turnp_nx, turnp_ct, turnp_rt, turnp_bk, Option.toList, Int.zero_add, Int.sub_zero, List.getElem?_cons_succ, List.getElem?_cons_zero, List.set_cons_succ, List.set_cons_zero, Option.bind_some, Option.map_some, if_true, if_false, decide_true, decide_false, Bool.false_eq_true, store_zero, store_succ, st_no, st_v, atI_pos, ix50, ix51, ix52, ix53, ix54, ixN_pos, Option.bind_some, List.nodup_nil, List.nodup_cons, List.mem_cons, List.not_mem_nil, or_false, or_true, false_or, not_false_eq_true, not_true, and_self, and_true, true_and, Bool.and_true, Bool.true_and, Bool.and_self, Bool.and_false, Bool.false_and, Bool.not_true, Bool.not_false, List.length_cons, List.length_nil, List.cons_append, List.nil_append, List.replicate, Out.map, List.append_eq, List.all_cons, List.all_nil, decide_not, ne_eq, lim_lit, List.length_map, Int.reduceLE, Int.reduceLT, Int.reduceToNat, Nat.reduceAdd, Nat.reduceSub, Nat.reduceLeDiff, Nat.reduceEqDiff, Int.reduceNeg, Int.reduceEq, Nat.reduceLT, Nat.reduceMul, h9, h10, h11, h12, h13, h14, hf6, hc]
        repeat with_reducible refine wp_b ?_
        refine wp_mono (draw_ok hd6 (by omega) (by omega)) ?_
        rintro _ ⟨q, d7, rfl, q0, q1, hd7⟩
        have hf7 := hd7.fz
        simp -implicitDefEqProofs only [xs1, xs2, xs3, rd, rds, vals, cont, Sl.cont, D.fz, fzL, cmpD, ordD, eqD_int, eqD_in, eqD_ni, eqD_nn, eqD_bb, isD, D.isNon, idx_tup, idx_lst, idx_ro, idx_own, addI, subI, fdivD, modD, negD, truD, bltD, lenD_items, listD, tupleD, absD_int, intD, tyD, D.items, D.isL, mutD, appD, extD, mutArgs, argsOf, argOf, lentS, places, back, backOne, outs, setL, ownAt, parS, lock, unlock, wipeS, putBack, free_zero, free_succ, fst_no, fst_v, rngOf1, rngOf2, srcOf, kit_bb, wp_some, retq_rt, retq_nx, turn_nx, turn_ct, turnp_nx, turnp_ct, turnp_rt, turnp_bk, Option.toList, Int.zero_add, Int.sub_zero, List.getElem?_cons_succ, List.getElem?_cons_zero, List.set_cons_succ, List.set_cons_zero, Option.bind_some, Option.map_some, if_true, if_false, decide_true, decide_false, Bool.false_eq_true, store_zero, store_succ, st_no, st_v, atI_pos, ix50, ix51, ix52, ix53, ix54, ixN_pos, Option.bind_some, List.nodup_nil, List.nodup_cons, List.mem_cons, List.not_mem_nil, or_false, or_true, false_or, not_false_eq_true, not_true, and_self, and_true, true_and, Bool.and_true, Bool.true_and, Bool.and_self, Bool.and_false, Bool.false_and, Bool.not_true, Bool.not_false, List.length_cons, List.length_nil, List.cons_append, List.nil_append, List.replicate, Out.map, List.append_eq, List.all_cons, List.all_nil, decide_not, ne_eq, lim_lit, List.length_map, Int.reduceLE, Int.reduceLT, Int.reduceToNat, Nat.reduceAdd, Nat.reduceSub, Nat.reduceLeDiff, Nat.reduceEqDiff, Int.reduceNeg, Int.reduceEq, Nat.reduceLT, Nat.reduceMul, h9, h10, h11, h12, h13, h14, hf7, lb1]
        have y1 := y1 (by omega)
        have z1 := z1 (by omega)
        have q1 := q1 (by omega)
        exact ⟨bs ++ [(y, z, q - 4)], ws, _, _, _, _, _, _, _, by simp only [List.map_append, List.map_cons, List.map_nil, trD]; rfl, st_v, st_v, h11, h12, st_v, st_v, app_all hbs (one_all ⟨by simp; try omega, by simp; try omega, by simp; try omega, by simp; try omega, by simp; try omega, by simp; try omega⟩), hws, by rw [List.length_append]; simp; omega, by omega, hd7.mono (by omega)⟩
    · simp -implicitDefEqProofs only [xs1, xs2, xs3, rd, rds, vals, cont, Sl.cont, D.fz, fzL, cmpD, ordD, eqD_int, eqD_in, eqD_ni, eqD_nn, eqD_bb, isD, D.isNon, idx_tup, idx_lst, idx_ro, idx_own, addI, subI, fdivD, modD, negD, truD, bltD, lenD_items, listD, tupleD, absD_int, intD, tyD, D.items, D.isL, mutD, appD, extD, mutArgs, argsOf, argOf, lentS, places, back, backOne, outs, setL, ownAt, parS, lock, unlock, wipeS, putBack, free_zero, free_succ, fst_no, fst_v, rngOf1, rngOf2, srcOf, kit_bb, wp_some, retq_rt, retq_nx, turn_nx, turn_ct, turnp_nx, turnp_ct, turnp_rt, turnp_bk, Option.toList, Int.zero_add, Int.sub_zero, List.getElem?_cons_succ, List.getElem?_cons_zero, List.set_cons_succ, List.set_cons_zero, Option.bind_some, Option.map_some, if_true, if_false, decide_true, decide_false, Bool.false_eq_true, store_zero, store_succ, st_no, st_v, atI_pos, ix50, ix51, ix52, ix53, ix54, ixN_pos, Option.bind_some, List.nodup_nil, List.nodup_cons, List.mem_cons, List.not_mem_nil, or_false, or_true, false_or, not_false_eq_true, not_true, and_self, and_true, true_and, Bool.and_true, Bool.true_and, Bool.and_self, Bool.and_false, Bool.false_and, Bool.not_true, Bool.not_false, List.length_cons, List.length_nil, List.cons_append, List.nil_append, List.replicate, Out.map, List.append_eq, List.all_cons, List.all_nil, decide_not, ne_eq, lim_lit, List.length_map, Int.reduceLE, Int.reduceLT, Int.reduceToNat, Nat.reduceAdd, Nat.reduceSub, Nat.reduceLeDiff, Nat.reduceEqDiff, Int.reduceNeg, Int.reduceEq, Nat.reduceLT, Nat.reduceMul, h9, h10, h11, h12, h13, h14, hf3, c6]
      repeat with_reducible refine wp_b ?_
      refine wp_mono (draw_ok hd3 (by omega) (by omega)) ?_
      rintro _ ⟨y, d5, rfl, y0, y1, hd5⟩
      have hf5 := hd5.fz
      simp -implicitDefEqProofs only [xs1, xs2, xs3, rd, rds, vals, cont, Sl.cont, D.fz, fzL, cmpD, ordD, eqD_int, eqD_in, eqD_ni, eqD_nn, eqD_bb, isD, D.isNon, idx_tup, idx_lst, idx_ro, idx_own, addI, subI, fdivD, modD, negD, truD, bltD, lenD_items, listD, tupleD, absD_int, intD, tyD, D.items, D.isL, mutD, appD, extD, mutArgs, argsOf, argOf, lentS, places, back, backOne, outs, setL, ownAt, parS, lock, unlock, wipeS, putBack, free_zero, free_succ, fst_no, fst_v, rngOf1, rngOf2, srcOf, kit_bb, wp_some, retq_rt, retq_nx, turn_nx, turn_ct, turnp_nx, turnp_ct, turnp_rt, turnp_bk, Option.toList, Int.zero_add, Int.sub_zero, List.getElem?_cons_succ, List.getElem?_cons_zero, List.set_cons_succ, List.set_cons_zero, Option.bind_some, Option.map_some, if_true, if_false, decide_true, decide_false, Bool.false_eq_true, store_zero, store_succ, st_no, st_v, atI_pos, ix50, ix51, ix52, ix53, ix54, ixN_pos, Option.bind_some, List.nodup_nil, List.nodup_cons, List.mem_cons, List.not_mem_nil, or_false, or_true, false_or, not_false_eq_true, not_true, and_self, and_true, true_and, Bool.and_true, Bool.true_and, Bool.and_self, Bool.and_false, Bool.false_and, Bool.not_true, Bool.not_false, List.length_cons, List.length_nil, List.cons_append, List.nil_append, List.replicate, Out.map, List.append_eq, List.all_cons, List.all_nil, decide_not, ne_eq, lim_lit, List.length_map, Int.reduceLE, Int.reduceLT, Int.reduceToNat, Nat.reduceAdd, Nat.reduceSub, Nat.reduceLeDiff, Nat.reduceEqDiff, Int.reduceNeg, Int.reduceEq, Nat.reduceLT, Nat.reduceMul, h9, h10, h11, h12, h13, h14, hf5]
      repeat with_reducible refine wp_b ?_
      refine wp_mono (draw_ok hd5 (by omega) (by omega)) ?_
      rintro _ ⟨z, d6, rfl, z0, z1, hd6⟩
      have hf6 := hd6.fz
      by_cases hc : y ≤ z
      · simp -implicitDefEqProofs only [xs1, xs2, xs3, rd, rds, vals, cont, Sl.cont, D.fz, fzL, cmpD, ordD, eqD_int, eqD_in, eqD_ni, eqD_nn, eqD_bb, isD, D.isNon, idx_tup, idx_lst, idx_ro, idx_own, addI, subI, fdivD, modD, negD, truD, bltD, lenD_items, listD, tupleD, absD_int, intD, tyD, D.items, D.isL, mutD, appD, extD, mutArgs, argsOf, argOf, lentS, places, back, backOne, outs, setL, ownAt, parS, lock, unlock, wipeS, putBack, free_zero, free_succ, fst_no, fst_v, rngOf1, rngOf2, srcOf, kit_bb, wp_some, retq_rt, retq_nx, turn_nx, turn_ct, turnp_nx, turnp_ct, turnp_rt, turnp_bk, Option.toList, Int.zero_add, Int.sub_zero, List.getElem?_cons_succ, List.getElem?_cons_zero, List.set_cons_succ, List.set_cons_zero, Option.bind_some, Option.map_some, if_true, if_false, decide_true, decide_false, Bool.false_eq_true, store_zero, store_succ, st_no, st_v, atI_pos, ix50, ix51, ix52, ix53, ix54, ixN_pos, Option.bind_some, List.nodup_nil, List.nodup_cons, List.mem_cons, List.not_mem_nil, or_false, or_true, false_or, not_false_eq_true, not_true, and_self, and_true, true_and, Bool.and_true, Bool.true_and, Bool.and_self, Bool.and_false, Bool.false_and, Bool.not_true, Bool.not_false, List.length_cons, List.length_nil, List.cons_append, List.nil_append, List.replicate, Out.map, List.append_eq, List.all_cons, List.all_nil, decide_not, ne_eq, lim_lit, List.length_map, Int.reduceLE, Int.reduceLT, Int.reduceToNat, Nat.reduceAdd, Nat.reduceSub, Nat.reduceLeDiff, Nat.reduceEqDiff, Int.reduceNeg, Int.reduceEq, Nat.reduceLT, Nat.reduceMul, h9, h10, h11, h12, h13, h14, hf6, hc]
        repeat with_reducible refine wp_b ?_
        refine wp_mono (draw_ok hd6 (by omega) (by omega)) ?_
        rintro _ ⟨q, d7, rfl, q0, q1, hd7⟩
        have hf7 := hd7.fz
        simp -implicitDefEqProofs only [xs1, xs2, xs3, rd, rds, vals, cont, Sl.cont, D.fz, fzL, cmpD, ordD, eqD_int, eqD_in, eqD_ni, eqD_nn, eqD_bb, isD, D.isNon, idx_tup, idx_lst, idx_ro, idx_own, addI, subI, fdivD, modD, negD, truD, bltD, lenD_items, listD, tupleD, absD_int, intD, tyD, D.items, D.isL, mutD, appD, extD, mutArgs, argsOf, argOf, lentS, places, back, backOne, outs, setL, ownAt, parS, lock, unlock, wipeS, putBack, free_zero, free_succ, fst_no, fst_v, rngOf1, rngOf2, srcOf, kit_bb, wp_some, retq_rt, retq_nx, turn_nx, turn_ct, turnp_nx, turnp_ct, turnp_rt, turnp_bk, Option.toList, Int.zero_add, Int.sub_zero, List.getElem?_cons_succ, List.getElem?_cons_zero, List.set_cons_succ, List.set_cons_zero, Option.bind_some, Option.map_some, if_true, if_false, decide_true, decide_false, Bool.false_eq_true, store_zero, store_succ, st_no, st_v, atI_pos, ix50, ix51, ix52, ix53, ix54, ixN_pos, Option.bind_some, List.nodup_nil, List.nodup_cons, List.mem_cons, List.not_mem_nil, or_false, or_true, false_or, not_false_eq_true, not_true, and_self, and_true, true_and, Bool.and_true, Bool.true_and, Bool.and_self, Bool.and_false, Bool.false_and, Bool.not_true, Bool.not_false, List.length_cons, List.length_nil, List.cons_append, List.nil_append, List.replicate, Out.map, List.append_eq, List.all_cons, List.all_nil, decide_not, ne_eq, lim_lit, List.length_map, Int.reduceLE, Int.reduceLT, Int.reduceToNat, Nat.reduceAdd, Nat.reduceSub, Nat.reduceLeDiff, Nat.reduceEqDiff, Int.reduceNeg, Int.reduceEq, Nat.reduceLT, Nat.reduceMul, h9, h10, h11, h12, h13, h14, hf7, lb1]
        have y1 := y1 (by omega)
        have z1 := z1 (by omega)
        have q1 := q1 (by omega)
        exact ⟨bs ++ [(y, z + 1, q - 4)], ws, _, _, _, _, _, _, _, by simp only [List.map_append, List.map_cons, List.map_nil, trD]; rfl, st_v, st_v, h11, h12, st_v, st_v, app_all hbs (one_all ⟨by simp; try omega, by simp; try omega, by simp; try omega, by simp; try omega, by simp; try omega, by simp; try omega⟩), hws, by rw [List.length_append]; simp; omega, by omega, hd7.mono (by omega)⟩
      · simp -implicitDefEqProofs only [xs1, xs2, xs3, rd, rds, vals, cont, Sl.cont, D.fz, fzL, cmpD, ordD, eqD_int, eqD_in, eqD_ni, eqD_nn, eqD_bb, isD, D.isNon, idx_tup, idx_lst, idx_ro, idx_own, addI, subI, fdivD, modD, negD, truD, bltD, lenD_items, listD, tupleD, absD_int, intD, tyD, D.items, D.isL, mutD, appD, extD, mutArgs, argsOf, argOf, lentS, places, back, backOne, outs, setL, ownAt, parS, lock, unlock, wipeS, putBack, free_zero, free_succ, fst_no, fst_v, rngOf1, rngOf2, srcOf, kit_bb, wp_some, retq_rt, retq_nx, turn_nx, turn_ct, turnp_nx, turnp_ct, turnp_rt, turnp_bk, Option.toList, Int.zero_add, Int.sub_zero, List.getElem?_cons_succ, List.getElem?_cons_zero, List.set_cons_succ, List.set_cons_zero, Option.bind_some, Option.map_some, if_true, if_false, decide_true, decide_false, Bool.false_eq_true, store_zero, store_succ, st_no, st_v, atI_pos, ix50, ix51, ix52, ix53, ix54, ixN_pos, Option.bind_some, List.nodup_nil, List.nodup_cons, List.mem_cons, List.not_mem_nil, or_false, or_true, false_or, not_false_eq_true, not_true, and_self, and_true, true_and, Bool.and_true, Bool.true_and, Bool.and_self, Bool.and_false, Bool.false_and, Bool.not_true, Bool.not_false, List.length_cons, List.length_nil, List.cons_append, List.nil_append, List.replicate, Out.map, List.append_eq, List.all_cons, List.all_nil, decide_not, ne_eq, lim_lit, List.length_map, Int.reduceLE, Int.reduceLT, Int.reduceToNat, Nat.reduceAdd, Nat.reduceSub, Nat.reduceLeDiff, Nat.reduceEqDiff, Int.reduceNeg, Int.reduceEq, Nat.reduceLT, Nat.reduceMul, h9, h10, h11, h12, h13, h14, hf6, hc]
        repeat with_reducible refine wp_b ?_
        refine wp_mono (draw_ok hd6 (by omega) (by omega)) ?_
        rintro _ ⟨q, d7, rfl, q0, q1, hd7⟩
        have hf7 := hd7.fz
        simp -implicitDefEqProofs only [xs1, xs2, xs3, rd, rds, vals, cont, Sl.cont, D.fz, fzL, cmpD, ordD, eqD_int, eqD_in, eqD_ni, eqD_nn, eqD_bb, isD, D.isNon, idx_tup, idx_lst, idx_ro, idx_own, addI, subI, fdivD, modD, negD, truD, bltD, lenD_items, listD, tupleD, absD_int, intD, tyD, D.items, D.isL, mutD, appD, extD, mutArgs, argsOf, argOf, lentS, places, back, backOne, outs, setL, ownAt, parS, lock, unlock, wipeS, putBack, free_zero, free_succ, fst_no, fst_v, rngOf1, rngOf2, srcOf, kit_bb, wp_some, retq_rt, retq_nx, turn_nx, turn_ct, turnp_nx, turnp_ct, turnp_rt, turnp_bk, Option.toList, Int.zero_add, Int.sub_zero, List.getElem?_cons_succ, List.getElem?_cons_zero, List.set_cons_succ, List.set_cons_zero, Option.bind_some, Option.map_some, if_true, if_false, decide_true, decide_false, Bool.false_eq_true, store_zero, store_succ, st_no, st_v, atI_pos, ix50, ix51, ix52, ix53, ix54, ixN_pos, Option.bind_some, List.nodup_nil, List.nodup_cons, List.mem_cons, List.not_mem_nil, or_false, or_true, false_or, not_false_eq_true, not_true, and_self, and_true, true_and, Bool.and_true, Bool.true_and, Bool.and_self, Bool.and_false, Bool.false_and, Bool.not_true, Bool.not_false, List.length_cons, List.length_nil, List.cons_append, List.nil_append, List.replicate, Out.map, List.append_eq, List.all_cons, List.all_nil, decide_not, ne_eq, lim_lit, List.length_map, Int.reduceLE, Int.reduceLT, Int.reduceToNat, Nat.reduceAdd, Nat.reduceSub, Nat.reduceLeDiff, Nat.reduceEqDiff, Int.reduceNeg, Int.reduceEq, Nat.reduceLT, Nat.reduceMul, h9, h10, h11, h12, h13, h14, hf7, lb1]
        have y1 := y1 (by omega)
        have z1 := z1 (by omega)
        have q1 := q1 (by omega)
        exact ⟨bs ++ [(y, z, q - 4)], ws, _, _, _, _, _, _, _, by simp only [List.map_append, List.map_cons, List.map_nil, trD]; rfl, st_v, st_v, h11, h12, st_v, st_v, app_all hbs (one_all ⟨by simp; try omega, by simp; try omega, by simp; try omega, by simp; try omega, by simp; try omega, by simp; try omega⟩), hws, by rw [List.length_append]; simp; omega, by omega, hd7.mono (by omega)⟩
    · simp -implicitDefEqProofs only [xs1, xs2, xs3, rd, rds, vals, cont, Sl.cont, D.fz, fzL, cmpD, ordD, eqD_int, eqD_in, eqD_ni, eqD_nn, eqD_bb, isD, D.isNon, idx_tup, idx_lst, idx_ro, idx_own, addI, subI, fdivD, modD, negD, truD, bltD, lenD_items, listD, tupleD, absD_int, intD, tyD, D.items, D.isL, mutD, appD, extD, mutArgs, argsOf, argOf, lentS, places, back, backOne, outs, setL, ownAt, parS, lock, unlock, wipeS, putBack, free_zero, free_succ, fst_no, fst_v, rngOf1, rngOf2, srcOf, kit_bb, wp_some, retq_rt, retq_nx, turn_nx, turn_ct, turnp_nx, turnp_ct, turnp_rt, turnp_bk, Option.toList, Int.zero_add, Int.sub_zero, List.getElem?_cons_succ, List.getElem?_cons_zero, List.set_cons_succ, List.set_cons_zero, Option.bind_some, Option.map_some, if_true, if_false, decide_true, decide_false, Bool.false_eq_true, store_zero, store_succ, st_no, st_v, atI_pos, ix50, ix51, ix52, ix53, ix54, ixN_pos, Option.bind_some, List.nodup_nil, List.nodup_cons, List.mem_cons, List.not_mem_nil, or_false, or_true, false_or, not_false_eq_true, not_true, and_self, and_true, true_and, Bool.and_true, Bool.true_and, Bool.and_self, Bool.and_false, Bool.false_and, Bool.not_true, Bool.not_false, List.length_cons, List.length_nil, List.cons_append, List.nil_append, List.replicate, Out.map, List.append_eq, List.all_cons, List.all_nil, decide_not, ne_eq, lim_lit, List.length_map, Int.reduceLE, Int.reduceLT, Int.reduceToNat, Nat.reduceAdd, Nat.reduceSub, Nat.reduceLeDiff, Nat.reduceEqDiff, Int.reduceNeg, Int.reduceEq, Nat.reduceLT, Nat.reduceMul, h9, h10, h11, h12, h13, h14, hf3]
      repeat with_reducible refine wp_b ?_
      refine wp_mono (draw_ok hd3 (by omega) (by omega)) ?_
      rintro _ ⟨y, d5, rfl, y0, y1, hd5⟩
      have hf5 := hd5.fz
      simp -implicitDefEqProofs only [xs1, xs2, xs3, rd, rds, vals, cont, Sl.cont, D.fz, fzL, cmpD, ordD, eqD_int, eqD_in, eqD_ni, eqD_nn, eqD_bb, isD, D.isNon, idx_tup, idx_lst, idx_ro, idx_own, addI, subI, fdivD, modD, negD, truD, bltD, lenD_items, listD, tupleD, absD_int, intD, tyD, D.items, D.isL, mutD, appD, extD, mutArgs, argsOf, argOf, lentS, places, back, backOne, outs, setL, ownAt, parS, lock, unlock, wipeS, putBack, free_zero, free_succ, fst_no, fst_v, rngOf1, rngOf2, srcOf, kit_bb, wp_some, retq_rt, retq_nx, turn_nx, turn_ct, turnp_nx, turnp_ct, turnp_rt, turnp_bk, Option.toList, Int.zero_add, Int.sub_zero, List.getElem?_cons_succ, List.getElem?_cons_zero, List.set_cons_succ, List.set_cons_zero, Option.bind_some, Option.map_some, if_true, if_false, decide_true, decide_false, Bool.false_eq_true, store_zero, store_succ, st_no, st_v, atI_pos, ix50, ix51, ix52, ix53, ix54, ixN_pos, Option.bind_some, List.nodup_nil, List.nodup_cons, List.mem_cons, List.not_mem_nil, or_false, or_true, false_or, not_false_eq_true, not_true, and_self, and_true, true_and, Bool.and_true, Bool.true_and, Bool.and_self, Bool.and_false, Bool.false_and, Bool.not_true, Bool.not_false, List.length_cons, List.length_nil, List.cons_append, List.nil_append, List.replicate, Out.map, List.append_eq, List.all_cons, List.all_nil, decide_not, ne_eq, lim_lit, List.length_map, Int.reduceLE, Int.reduceLT, Int.reduceToNat, Nat.reduceAdd, Nat.reduceSub, Nat.reduceLeDiff, Nat.reduceEqDiff, Int.reduceNeg, Int.reduceEq, Nat.reduceLT, Nat.reduceMul, h9, h10, h11, h12, h13, h14, hf5]
      repeat with_reducible refine wp_b ?_
      refine wp_mono (draw_ok hd5 (by omega) (by omega)) ?_
      rintro _ ⟨z, d6, rfl, z0, z1, hd6⟩
      have hf6 := hd6.fz
      by_cases hc : y ≤ z
      · simp -implicitDefEqProofs only [xs1, xs2, xs3, rd, rds, vals, cont, Sl.cont, D.fz, fzL, cmpD, ordD, eqD_int, eqD_in, eqD_ni, eqD_nn, eqD_bb, isD, D.isNon, idx_tup, idx_lst, idx_ro, idx_own, addI, subI, fdivD, modD, negD, truD, bltD, lenD_items, listD, tupleD, absD_int, intD, tyD, D.items, D.isL, mutD, appD, extD, mutArgs, argsOf, argOf, lentS, places, back, backOne, outs, setL, ownAt, parS, lock, unlock, wipeS, putBack, free_zero, free_succ, fst_no, fst_v, rngOf1, rngOf2, srcOf, kit_bb, wp_some, retq_rt, retq_nx, turn_nx, turn_ct, turnp_nx, turnp_ct, turnp_rt, turnp_bk, Option.toList, Int.zero_add, Int.sub_zero, List.getElem?_cons_succ, List.getElem?_cons_zero, List.set_cons_succ, List.set_cons_zero, Option.bind_some, Option.map_some, if_true, if_false, decide_true, decide_false, Bool.false_eq_true, store_zero, store_succ, st_no, st_v, atI_pos, ix50, ix51, ix52, ix53, ix54, ixN_pos, Option.bind_some, List.nodup_nil, List.nodup_cons, List.mem_cons, List.not_mem_nil, or_false, or_true, false_or, not_false_eq_true, not_true, and_self, and_true, true_and, Bool.and_true, Bool.true_and, Bool.and_self, Bool.and_false, Bool.false_and, Bool.not_true, Bool.not_false, List.length_cons, List.length_nil, List.cons_append, List.nil_append, List.replicate, Out.map, List.append_eq, List.all_cons, List.all_nil, decide_not, ne_eq, lim_lit, List.length_map, Int.reduceLE, Int.reduceLT, Int.reduceToNat, Nat.reduceAdd, Nat.reduceSub, Nat.reduceLeDiff, Nat.reduceEqDiff, Int.reduceNeg, Int.reduceEq, Nat.reduceLT, Nat.reduceMul, h9, h10, h11, h12, h13, h14, hf6, hc]
        repeat with_reducible refine wp_b ?_
        refine wp_mono (draw_ok hd6 (by omega) (by omega)) ?_
        rintro _ ⟨q, d7, rfl, q0, q1, hd7⟩
        have hf7 := hd7.fz
        simp -implicitDefEqProofs only [xs1, xs2, xs3, rd, rds, vals, cont, Sl.cont, D.fz, fzL, cmpD, ordD, eqD_int, eqD_in, eqD_ni, eqD_nn, eqD_bb, isD, D.isNon, idx_tup, idx_lst, idx_ro, idx_own, addI, subI, fdivD, modD, negD, truD, bltD, lenD_items, listD, tupleD, absD_int, intD, tyD, D.items, D.isL, mutD, appD, extD, mutArgs, argsOf, argOf, lentS, places, back, backOne, outs, setL, ownAt, parS, lock, unlock, wipeS, putBack, free_zero, free_succ, fst_no, fst_v, rngOf1, rngOf2, srcOf, kit_bb, wp_some, retq_rt, retq_nx, turn_nx, turn_ct, turnp_nx, turnp_ct, turnp_rt, turnp_bk, Option.toList, Int.zero_add, Int.sub_zero, List.getElem?_cons_succ, List.getElem?_cons_zero, List.set_cons_succ, List.set_cons_zero, Option.bind_some, Option.map_some, if_true, if_false, decide_true, decide_false, Bool.false_eq_true, store_zero, store_succ, st_no, st_v, atI_pos, ix50, ix51, ix52, ix53, ix54, ixN_pos, Option.bind_some, List.nodup_nil, List.nodup_cons, List.mem_cons, List.not_mem_nil, or_false, or_true, false_or, not_false_eq_true, not_true, and_self, and_true, true_and, Bool.and_true, Bool.true_and, Bool.and_self, Bool.and_false, Bool.false_and, Bool.not_true, Bool.not_false, List.length_cons, List.length_nil, List.cons_append, List.nil_append, List.replicate, Out.map, List.append_eq, List.all_cons, List.all_nil, decide_not, ne_eq, lim_lit, List.length_map, Int.reduceLE, Int.reduceLT, Int.reduceToNat, Nat.reduceAdd, Nat.reduceSub, Nat.reduceLeDiff, Nat.reduceEqDiff, Int.reduceNeg, Int.reduceEq, Nat.reduceLT, Nat.reduceMul, h9, h10, h11, h12, h13, h14, hf7, lb1]
        have y1 := y1 (by omega)
        have z1 := z1 (by omega)
        have q1 := q1 (by omega)
        exact ⟨bs ++ [(y, z + 1, q - 4)], ws, _, _, _, _, _, _, _, by simp only [List.map_append, List.map_cons, List.map_nil, trD]; rfl, st_v, st_v, h11, h12, st_v, st_v, app_all hbs (one_all ⟨by simp; try omega, by simp; try omega, by simp; try omega, by simp; try omega, by simp; try omega, by simp; try omega⟩), hws, by rw [List.length_append]; simp; omega, by omega, hd7.mono (by omega)⟩
      · simp -implicitDefEqProofs only [xs1, xs2, xs3, rd, rds, vals, cont, Sl.cont, D.fz, fzL, cmpD, ordD, eqD_int, eqD_in, eqD_ni, eqD_nn, eqD_bb, isD, D.isNon, idx_tup, idx_lst, idx_ro, idx_own, addI, subI, fdivD, modD, negD, truD, bltD, lenD_items, listD, tupleD, absD_int, intD, tyD, D.items, D.isL, mutD, appD, extD, mutArgs, argsOf, argOf, lentS, places, back, backOne, outs, setL, ownAt, parS, lock, unlock, wipeS, putBack, free_zero, free_succ, fst_no, fst_v, rngOf1, rngOf2, srcOf, kit_bb, wp_some, retq_rt, retq_nx, turn_nx, turn_ct, turnp_nx, turnp_ct, turnp_rt, turnp_bk, Option.toList, Int.zero_add, Int.sub_zero, List.getElem?_cons_succ, List.getElem?_cons_zero, List.set_cons_succ, List.set_cons_zero, Option.bind_some, Option.map_some, if_true, if_false, decide_true, decide_false, Bool.false_eq_true, store_zero, store_succ, st_no, st_v, atI_pos, ix50, ix51, ix52, ix53, ix54, ixN_pos, Option.bind_some, List.nodup_nil, List.nodup_cons, List.mem_cons, List.not_mem_nil, or_false, or_true, false_or, not_false_eq_true, not_true, and_self, and_true, true_and, Bool.and_true, Bool.true_and, Bool.and_self, Bool.and_false, Bool.false_and, Bool.not_true, Bool.not_false, List.length_cons, List.length_nil, List.cons_append, List.nil_append, List.replicate, Out.map, List.append_eq, List.all_cons, List.all_nil, decide_not, ne_eq, lim_lit, List.length_map, Int.reduceLE, Int.reduceLT, Int.reduceToNat, Nat.reduceAdd, Nat.reduceSub, Nat.reduceLeDiff, Nat.reduceEqDiff, Int.reduceNeg, Int.reduceEq, Nat.reduceLT, Nat.reduceMul, h9, h10, h11, h12, h13, h14, hf6, hc]
        repeat with_reducible refine wp_b ?_
        refine wp_mono (draw_ok hd6 (by omega) (by omega)) ?_
        rintro _ ⟨q, d7, rfl, q0, q1, hd7⟩
        have hf7 := hd7.fz
        simp -implicitDefEqProofs only [xs1, xs2, xs3, rd, rds, vals, cont, Sl.cont, D.fz, fzL, cmpD, ordD, eqD_int, eqD_in, eqD_ni, eqD_nn, eqD_bb, isD, D.isNon, idx_tup, idx_lst, idx_ro, idx_own, addI, subI, fdivD, modD, negD, truD, bltD, lenD_items, listD, tupleD, absD_int, intD, tyD, D.items, D.isL, mutD, appD, extD, mutArgs, argsOf, argOf, lentS, places, back, backOne, outs, setL, ownAt, parS, lock, unlock, wipeS, putBack, free_zero, free_succ, fst_no, fst_v, rngOf1, rngOf2, srcOf, kit_bb, wp_some, retq_rt, retq_nx, turn_nx, turn_ct, turnp_nx, turnp_ct, turnp_rt, turnp_bk, Option.toList, Int.zero_add, Int.sub_zero, List.getElem?_cons_succ, List.getElem?_cons_zero, List.set_cons_succ, List.set_cons_zero, Option.bind_some, Option.map_some, if_true, if_false, decide_true, decide_false, Bool.false_eq_true, store_zero, store_succ, st_no, st_v, atI_pos, ix50, ix51, ix52, ix53, ix54, ixN_pos, Option.bind_some, List.nodup_nil, List.nodup_cons, List.mem_cons, List.not_mem_nil, or_false, or_true, false_or, not_false_eq_true, not_true, and_self, and_true, true_and, Bool.and_true, Bool.true_and, Bool.and_self, Bool.and_false, Bool.false_and, Bool.not_true, Bool.not_false, List.length_cons, List.length_nil, List.cons_append, List.nil_append, List.replicate, Out.map, List.append_eq, List.all_cons, List.all_nil, decide_not, ne_eq, lim_lit, List.length_map, Int.reduceLE, Int.reduceLT, Int.reduceToNat, Nat.reduceAdd, Nat.reduceSub, Nat.reduceLeDiff, Nat.reduceEqDiff, Int.reduceNeg, Int.reduceEq, Nat.reduceLT, Nat.reduceMul, h9, h10, h11, h12, h13, h14, hf7, lb1]
        have y1 := y1 (by omega)
        have z1 := z1 (by omega)
        have q1 := q1 (by omega)
        exact ⟨bs ++ [(y, z, q - 4)], ws, _, _, _, _, _, _, _, by simp only [List.map_append, List.map_cons, List.map_nil, trD]; rfl, st_v, st_v, h11, h12, st_v, st_v, app_all hbs (one_all ⟨by simp; try omega, by simp; try omega, by simp; try omega, by simp; try omega, by simp; try omega, by simp; try omega⟩), hws, by rw [List.length_append]; simp; omega, by omega, hd7.mono (by omega)⟩
  · rintro _ ⟨bs, ws, d2, s9, s10, s11, s12, s13, s14, rfl, h9, h10, h11, h12, h13, h14, hbs, hws, lbs, lws, hd2⟩
    have hlen : (rngD 0 (many : Int)).length = many := by rw [rngd_len]; omega
    rw [hlen] at hd2 lbs lws
    simp -implicitDefEqProofs only [xs1, xs2, xs3, rd, rds, vals, cont, Sl.cont, D.fz, fzL, cmpD, ordD, eqD_int, eqD_in, eqD_ni, eqD_nn, eqD_bb, isD, D.isNon, idx_tup, idx_lst, idx_ro, idx_own, addI, subI, fdivD, modD, negD, truD, bltD, lenD_items, listD, tupleD, absD_int, intD, tyD, D.items, D.isL, mutD, appD, extD, mutArgs, argsOf, argOf, lentS, places, back, backOne, outs, setL, ownAt, parS, lock, unlock, wipeS, putBack, free_zero, free_succ, fst_no, fst_v, rngOf1, rngOf2, srcOf, kit_bb, wp_some, retq_rt, retq_nx, turn_nx, turn_ct, turnp_nx, turnp_ct, turnp_rt, turnp_bk, Option.toList, Int.zero_add, Int.sub_zero, List.getElem?_cons_succ, List.getElem?_cons_zero, List.set_cons_succ, List.set_cons_zero, Option.bind_some, Option.map_some, if_true, if_false, decide_true, decide_false, Bool.false_eq_true, store_zero, store_succ, st_no, st_v, atI_pos, ix50, ix51, ix52, ix53, ix54, ixN_pos, Option.bind_some, List.nodup_nil, List.nodup_cons, List.mem_cons, List.not_mem_nil, or_false, or_true, false_or, not_false_eq_true, not_true, and_self, and_true, true_and, Bool.and_true, Bool.true_and, Bool.and_self, Bool.and_false, Bool.false_and, Bool.not_true, Bool.not_false, List.length_cons, List.length_nil, List.cons_append, List.nil_append, List.replicate, Out.map, List.append_eq, List.all_cons, List.all_nil, decide_not, ne_eq, lim_lit, List.length_map, Int.reduceLE, Int.reduceLT, Int.reduceToNat, Nat.reduceAdd, Nat.reduceSub, Nat.reduceLeDiff, Nat.reduceEqDiff, Int.reduceNeg, Int.reduceEq, Nat.reduceLT, Nat.reduceMul, fz_tr, fz_sp]
    exact ⟨sp, bs, ws, _, d2, rfl, ⟨rfl, hl, hp, hbs, hws, by omega, by omega⟩, by omega, by omega, hd2.mono (by omega)⟩
end K22


set_option maxRecDepth 100000
set_option maxHeartbeats 4000000
namespace K22
open PySem Co
theorem end_ok {k : Nat} {w : Int} (h : w.natAbs < 1000) : Wp (fun r => r = (.int (2 * w + 2), [.no])) (evF T 1000 (k + 1) 1 [.v (.int w)]) := by
  refine evF_wp T_end_of rfl ?_
  have e1 : binD .Mult (.int 2) (.int w) = _ := mulD (by omega) (by omega)
  simp -implicitDefEqProofs only [xs1, xs2, xs3, rd, rds, vals, cont, Sl.cont, D.fz, fzL, cmpD, ordD, eqD_int, eqD_in, eqD_ni, eqD_nn, eqD_bb, isD, D.isNon, idx_tup, idx_lst, idx_ro, idx_own, addI, subI, fdivD, modD, negD, truD, bltD, lenD_items, listD, tupleD, absD_int, intD, tyD, D.items, D.isL, mutD, appD, extD, mutArgs, argsOf, argOf, lentS, places, back, backOne, outs, setL, ownAt, parS, lock, unlock, wipeS, putBack, free_zero, free_succ, fst_no, fst_v, rngOf1, rngOf2, srcOf, kit_bb, wp_some, retq_rt, retq_nx, turn_nx, turn_ct, turnp_nx, turnp_ct, turnp_rt, turnp_bk, Option.toList, Int.zero_add, Int.sub_zero, List.getElem?_cons_succ, List.getElem?_cons_zero, List.set_cons_succ, List.set_cons_zero, Option.bind_some, Option.map_some, if_true, if_false, decide_true, decide_false, Bool.false_eq_true, store_zero, store_succ, st_no, st_v, atI_pos, ix50, ix51, ix52, ix53, ix54, ixN_pos, Option.bind_some, List.nodup_nil, List.nodup_cons, List.mem_cons, List.not_mem_nil, or_false, or_true, false_or, not_false_eq_true, not_true, and_self, and_true, true_and, Bool.and_true, Bool.true_and, Bool.and_self, Bool.and_false, Bool.false_and, Bool.not_true, Bool.not_false, List.length_cons, List.length_nil, List.cons_append, List.nil_append, List.replicate, Out.map, List.append_eq, List.all_cons, List.all_nil, decide_not, ne_eq, lim_lit, List.length_map, Int.reduceLE, Int.reduceLT, Int.reduceToNat, Nat.reduceAdd, Nat.reduceSub, Nat.reduceLeDiff, Nat.reduceEqDiff, Int.reduceNeg, Int.reduceEq, Nat.reduceLT, Nat.reduceMul, b_end_of, e1]
theorem rare_ok {k B : Nat} {d : D} (hd : Dd B d) (hB : B ≤ 1000000000) : Wp (fun r => ∃ b d', r = (.bl b, [.bo d', .no]) ∧ Dd (B + 1) d') (evF T 1000 (k + 2) 16 [.bo d, .v (.int 16)]) := by
  refine evF_wp T__law_rare rfl ?_
  have hf := hd.fz
  simp -implicitDefEqProofs only [xs1, xs2, xs3, rd, rds, vals, cont, Sl.cont, D.fz, fzL, cmpD, ordD, eqD_int, eqD_in, eqD_ni, eqD_nn, eqD_bb, isD, D.isNon, idx_tup, idx_lst, idx_ro, idx_own, addI, subI, fdivD, modD, negD, truD, bltD, lenD_items, listD, tupleD, absD_int, intD, tyD, D.items, D.isL, mutD, appD, extD, mutArgs, argsOf, argOf, lentS, places, back, backOne, outs, setL, ownAt, parS, lock, unlock, wipeS, putBack, free_zero, free_succ, fst_no, fst_v, rngOf1, rngOf2, srcOf, kit_bb, wp_some, retq_rt, retq_nx, turn_nx, turn_ct, turnp_nx, turnp_ct, turnp_rt, turnp_bk, Option.toList, Int.zero_add, Int.sub_zero, List.getElem?_cons_succ, List.getElem?_cons_zero, List.set_cons_succ, List.set_cons_zero, Option.bind_some, Option.map_some, if_true, if_false, decide_true, decide_false, Bool.false_eq_true, store_zero, store_succ, st_no, st_v, atI_pos, ix50, ix51, ix52, ix53, ix54, ixN_pos, Option.bind_some, List.nodup_nil, List.nodup_cons, List.mem_cons, List.not_mem_nil, or_false, or_true, false_or, not_false_eq_true, not_true, and_self, and_true, true_and, Bool.and_true, Bool.true_and, Bool.and_self, Bool.and_false, Bool.false_and, Bool.not_true, Bool.not_false, List.length_cons, List.length_nil, List.cons_append, List.nil_append, List.replicate, Out.map, List.append_eq, List.all_cons, List.all_nil, decide_not, ne_eq, lim_lit, List.length_map, Int.reduceLE, Int.reduceLT, Int.reduceToNat, Nat.reduceAdd, Nat.reduceSub, Nat.reduceLeDiff, Nat.reduceEqDiff, Int.reduceNeg, Int.reduceEq, Nat.reduceLT, Nat.reduceMul, b__law_rare, hf]
  repeat with_reducible refine wp_b ?_
  refine wp_mono (draw_ok hd hB (by omega)) ?_
  rintro _ ⟨x, d', rfl, h0, h1, h2⟩
  have e1 : binD .Mult (.int (16 / 2 / 2)) (.int 2) = _ := mulD (by decide) (by decide)
  simp -implicitDefEqProofs only [xs1, xs2, xs3, rd, rds, vals, cont, Sl.cont, D.fz, fzL, cmpD, ordD, eqD_int, eqD_in, eqD_ni, eqD_nn, eqD_bb, isD, D.isNon, idx_tup, idx_lst, idx_ro, idx_own, addI, subI, fdivD, modD, negD, truD, bltD, lenD_items, listD, tupleD, absD_int, intD, tyD, D.items, D.isL, mutD, appD, extD, mutArgs, argsOf, argOf, lentS, places, back, backOne, outs, setL, ownAt, parS, lock, unlock, wipeS, putBack, free_zero, free_succ, fst_no, fst_v, rngOf1, rngOf2, srcOf, kit_bb, wp_some, retq_rt, retq_nx, turn_nx, turn_ct, turnp_nx, turnp_ct, turnp_rt, turnp_bk, Option.toList, Int.zero_add, Int.sub_zero, List.getElem?_cons_succ, List.getElem?_cons_zero, List.set_cons_succ, List.set_cons_zero, Option.bind_some, Option.map_some, if_true, if_false, decide_true, decide_false, Bool.false_eq_true, store_zero, store_succ, st_no, st_v, atI_pos, ix50, ix51, ix52, ix53, ix54, ixN_pos, Option.bind_some, List.nodup_nil, List.nodup_cons, List.mem_cons, List.not_mem_nil, or_false, or_true, false_or, not_false_eq_true, not_true, and_self, and_true, true_and, Bool.and_true, Bool.true_and, Bool.and_self, Bool.and_false, Bool.false_and, Bool.not_true, Bool.not_false, List.length_cons, List.length_nil, List.cons_append, List.nil_append, List.replicate, Out.map, List.append_eq, List.all_cons, List.all_nil, decide_not, ne_eq, lim_lit, List.length_map, Int.reduceLE, Int.reduceLT, Int.reduceToNat, Nat.reduceAdd, Nat.reduceSub, Nat.reduceLeDiff, Nat.reduceEqDiff, Int.reduceNeg, Int.reduceEq, Nat.reduceLT, Nat.reduceMul, b__law_rare, e1]
  exact ⟨_, _, rfl, h2⟩

/-! ### data -/
def oi : Option Int → D
  | none => .non
  | some t => .int t
theorem oi_n : oi none = .non := rfl
theorem oi_s {t : Int} : oi (some t) = .int t := rfl
def stD (now : Int) (ts : List (Option Int)) : D := .tup [.int now, .tup (ts.map oi)]
theorem fz_oi (l : List (Option Int)) : fzL (l.map oi) = true := by
  induction l with
  | nil => rfl
  | cons a l ih => cases a <;> simp only [List.map_cons, oi, fzL, D.fz, ih, Bool.and_true]
theorem fz_oi1 (o : Option Int) : (oi o).fz = true := by cases o <;> rfl
theorem get_oi {ts : List (Option Int)} {i : Nat} (h : i < ts.length) : (ts.map oi)[i]? = some (oi (ts.getD i none)) := by
  rw [List.getElem?_map, List.getElem?_eq_getElem h, List.getD_eq_getElem?_getD, List.getElem?_eq_getElem h]
  rfl
structure Row where
  a : Int
  b : Int
  w : Int
  k : Option Int
def rowD (r : Row) : D := .tup [.int r.a, .int r.b, .int r.w, oi r.k]
structure RowOk (n : Nat) (r : Row) : Prop where
  a0 : 0 ≤ r.a
  a1 : r.a < n
  b0 : 0 ≤ r.b
  b1 : r.b < n
  k0 : ∀ k, r.k = some k → 0 ≤ k ∧ 2 * k + 2 < n
def gt (ts : List (Option Int)) (i : Int) : Option Int := ts.getD i.toNat none
def endedB (ts : List (Option Int)) (k : Option Int) (came : Int) : Bool :=
  match k with
      | none => false
      | some k => match gt ts (2 * k + 2) with
        | none => false
        | some e => decide (e ≤ came)
/-- the row is broken -/
def brk (now : Int) (ts : List (Option Int)) (r : Row) : Bool :=
  match gt ts r.a with
  | none => false
  | some came =>
    if endedB ts r.k came then false
    else match gt ts r.b with
      | none => decide (came + r.w ≤ now)
      | some met => decide (came + r.w < met)
def BrQ (now : Int) (ts : List (Option Int)) (r : Row) (x : D × List Sl) : Prop := x = (.bl (brk now ts r), [.no, .no])
theorem broken_ok {k : Nat} {now : Int} {ts : List (Option Int)} {r : Row} (h : RowOk ts.length r) (hn : ts.length < 1000) : Wp (BrQ now ts r) (evF T 1000 (k + 1) 24 [.v (rowD r), .v (stD now ts)]) := by
  obtain ⟨a, b, w, kk⟩ := r
  obtain ⟨a0, a1, b0, b1, k0⟩ := h
  simp only at a0 a1 b0 b1 k0
  refine evF_wp T__law_broken rfl ?_
  have ea : (ts.map oi)[a.toNat]? = _ := get_oi (by omega)
  have eb : (ts.map oi)[b.toNat]? = _ := get_oi (by omega)
  unfold BrQ brk endedB gt
  simp only
  cases ha : ts.getD a.toNat none with
  | none => simp -implicitDefEqProofs only [xs1, xs2, xs3, rd, rds, vals, cont, Sl.cont, D.fz, fzL, cmpD, ordD, eqD_int, eqD_in, eqD_ni, eqD_nn, eqD_bb, isD, D.isNon, idx_tup, idx_lst, idx_ro, idx_own, addI, subI, fdivD, modD, negD, truD, bltD, lenD_items, listD, tupleD, absD_int, intD, tyD, D.items, D.isL, mutD, appD, extD, mutArgs, argsOf, argOf, lentS, places, back, backOne, outs, setL, ownAt, parS, lock, unlock, wipeS, putBack, free_zero, free_succ, fst_no, fst_v, rngOf1, rngOf2, srcOf, kit_bb, wp_some, retq_rt, retq_nx, turn_nx, turn_ct, turnp_nx, turnp_ct, turnp_rt, turnp_bk, Option.toList, Int.zero_add, Int.sub_zero, List.getElem?_cons_succ, List.getElem?_cons_zero, List.set_cons_succ, List.set_cons_zero, Option.bind_some, Option.map_some, if_true, if_false, decide_true, decide_false, Bool.false_eq_true, store_zero, store_succ, st_no, st_v, atI_pos, ix50, ix51, ix52, ix53, ix54, ixN_pos, Option.bind_some, List.nodup_nil, List.nodup_cons, List.mem_cons, List.not_mem_nil, or_false, or_true, false_or, not_false_eq_true, not_true, and_self, and_true, true_and, Bool.and_true, Bool.true_and, Bool.and_self, Bool.and_false, Bool.false_and, Bool.not_true, Bool.not_false, List.length_cons, List.length_nil, List.cons_append, List.nil_append, List.replicate, Out.map, List.append_eq, List.all_cons, List.all_nil, decide_not, ne_eq, lim_lit, List.length_map, Int.reduceLE, Int.reduceLT, Int.reduceToNat, Nat.reduceAdd, Nat.reduceSub, Nat.reduceLeDiff, Nat.reduceEqDiff, Int.reduceNeg, Int.reduceEq, Nat.reduceLT, Nat.reduceMul, b__law_broken, rowD, stD, oi_n, oi_s, fz_oi, fz_oi1, a0, ea, ha]
  | some came =>
    cases kk with
    | none =>
      cases hb : ts.getD b.toNat none with
      | none => simp -implicitDefEqProofs only [xs1, xs2, xs3, rd, rds, vals, cont, Sl.cont, D.fz, fzL, cmpD, ordD, eqD_int, eqD_in, eqD_ni, eqD_nn, eqD_bb, isD, D.isNon, idx_tup, idx_lst, idx_ro, idx_own, addI, subI, fdivD, modD, negD, truD, bltD, lenD_items, listD, tupleD, absD_int, intD, tyD, D.items, D.isL, mutD, appD, extD, mutArgs, argsOf, argOf, lentS, places, back, backOne, outs, setL, ownAt, parS, lock, unlock, wipeS, putBack, free_zero, free_succ, fst_no, fst_v, rngOf1, rngOf2, srcOf, kit_bb, wp_some, retq_rt, retq_nx, turn_nx, turn_ct, turnp_nx, turnp_ct, turnp_rt, turnp_bk, Option.toList, Int.zero_add, Int.sub_zero, List.getElem?_cons_succ, List.getElem?_cons_zero, List.set_cons_succ, List.set_cons_zero, Option.bind_some, Option.map_some, if_true, if_false, decide_true, decide_false, Bool.false_eq_true, store_zero, store_succ, st_no, st_v, atI_pos, ix50, ix51, ix52, ix53, ix54, ixN_pos, Option.bind_some, List.nodup_nil, List.nodup_cons, List.mem_cons, List.not_mem_nil, or_false, or_true, false_or, not_false_eq_true, not_true, and_self, and_true, true_and, Bool.and_true, Bool.true_and, Bool.and_self, Bool.and_false, Bool.false_and, Bool.not_true, Bool.not_false, List.length_cons, List.length_nil, List.cons_append, List.nil_append, List.replicate, Out.map, List.append_eq, List.all_cons, List.all_nil, decide_not, ne_eq, lim_lit, List.length_map, Int.reduceLE, Int.reduceLT, Int.reduceToNat, Nat.reduceAdd, Nat.reduceSub, Nat.reduceLeDiff, Nat.reduceEqDiff, Int.reduceNeg, Int.reduceEq, Nat.reduceLT, Nat.reduceMul, b__law_broken, rowD, stD, oi_n, oi_s, fz_oi, fz_oi1, a0, ea, ha, b0, eb, hb]
      | some met => simp -implicitDefEqProofs only [xs1, xs2, xs3, rd, rds, vals, cont, Sl.cont, D.fz, fzL, cmpD, ordD, eqD_int, eqD_in, eqD_ni, eqD_nn, eqD_bb, isD, D.isNon, idx_tup, idx_lst, idx_ro, idx_own, addI, subI, fdivD, modD, negD, truD, bltD, lenD_items, listD, tupleD, absD_int, intD, tyD, D.items, D.isL, mutD, appD, extD, mutArgs, argsOf, argOf, lentS, places, back, backOne, outs, setL, ownAt, parS, lock, unlock, wipeS, putBack, free_zero, free_succ, fst_no, fst_v, rngOf1, rngOf2, srcOf, kit_bb, wp_some, retq_rt, retq_nx, turn_nx, turn_ct, turnp_nx, turnp_ct, turnp_rt, turnp_bk, Option.toList, Int.zero_add, Int.sub_zero, List.getElem?_cons_succ, List.getElem?_cons_zero, List.set_cons_succ, List.set_cons_zero, Option.bind_some, Option.map_some, if_true, if_false, decide_true, decide_false, Bool.false_eq_true, store_zero, store_succ, st_no, st_v, atI_pos, ix50, ix51, ix52, ix53, ix54, ixN_pos, Option.bind_some, List.nodup_nil, List.nodup_cons, List.mem_cons, List.not_mem_nil, or_false, or_true, false_or, not_false_eq_true, not_true, and_self, and_true, true_and, Bool.and_true, Bool.true_and, Bool.and_self, Bool.and_false, Bool.false_and, Bool.not_true, Bool.not_false, List.length_cons, List.length_nil, List.cons_append, List.nil_append, List.replicate, Out.map, List.append_eq, List.all_cons, List.all_nil, decide_not, ne_eq, lim_lit, List.length_map, Int.reduceLE, Int.reduceLT, Int.reduceToNat, Nat.reduceAdd, Nat.reduceSub, Nat.reduceLeDiff, Nat.reduceEqDiff, Int.reduceNeg, Int.reduceEq, Nat.reduceLT, Nat.reduceMul, b__law_broken, rowD, stD, oi_n, oi_s, fz_oi, fz_oi1, a0, ea, ha, b0, eb, hb]
    | some q =>
      obtain ⟨q0, q1⟩ := k0 q rfl
      have e1 : binD .Mult (.int 2) (.int q) = _ := mulD (by omega) (by omega)
      have q2 : 0 ≤ 2 * q + 2 := by omega
      have ek : (ts.map oi)[(2 * q + 2).toNat]? = _ := get_oi (by omega)
      cases hk : ts.getD (2 * q + 2).toNat none with
      | none =>
        cases hb : ts.getD b.toNat none with
        | none => simp -implicitDefEqProofs only [xs1, xs2, xs3, rd, rds, vals, cont, Sl.cont, D.fz, fzL, cmpD, ordD, eqD_int, eqD_in, eqD_ni, eqD_nn, eqD_bb, isD, D.isNon, idx_tup, idx_lst, idx_ro, idx_own, addI, subI, fdivD, modD, negD, truD, bltD, lenD_items, listD, tupleD, absD_int, intD, tyD, D.items, D.isL, mutD, appD, extD, mutArgs, argsOf, argOf, lentS, places, back, backOne, outs, setL, ownAt, parS, lock, unlock, wipeS, putBack, free_zero, free_succ, fst_no, fst_v, rngOf1, rngOf2, srcOf, kit_bb, wp_some, retq_rt, retq_nx, turn_nx, turn_ct, turnp_nx, turnp_ct, turnp_rt, turnp_bk, Option.toList, Int.zero_add, Int.sub_zero, List.getElem?_cons_succ, List.getElem?_cons_zero, List.set_cons_succ, List.set_cons_zero, Option.bind_some, Option.map_some, if_true, if_false, decide_true, decide_false, Bool.false_eq_true, store_zero, store_succ, st_no, st_v, atI_pos, ix50, ix51, ix52, ix53, ix54, ixN_pos, Option.bind_some, List.nodup_nil, List.nodup_cons, List.mem_cons, List.not_mem_nil, or_false, or_true, false_or, not_false_eq_true, not_true, and_self, and_true, true_and, Bool.and_true, Bool.true_and, Bool.and_self, Bool.and_false, Bool.false_and, Bool.not_true, Bool.not_false, List.length_cons, List.length_nil, List.cons_append, List.nil_append, List.replicate, Out.map, List.append_eq, List.all_cons, List.all_nil, decide_not, ne_eq, lim_lit, List.length_map, Int.reduceLE, Int.reduceLT, Int.reduceToNat, Nat.reduceAdd, Nat.reduceSub, Nat.reduceLeDiff, Nat.reduceEqDiff, Int.reduceNeg, Int.reduceEq, Nat.reduceLT, Nat.reduceMul, b__law_broken, rowD, stD, oi_n, oi_s, fz_oi, fz_oi1, a0, ea, ha, b0, eb, hb, e1, q2, ek, hk]
        | some met => simp -implicitDefEqProofs only [xs1, xs2, xs3, rd, rds, vals, cont, Sl.cont, D.fz, fzL, cmpD, ordD, eqD_int, eqD_in, eqD_ni, eqD_nn, eqD_bb, isD, D.isNon, idx_tup, idx_lst, idx_ro, idx_own, addI, subI, fdivD, modD, negD, truD, bltD, lenD_items, listD, tupleD, absD_int, intD, tyD, D.items, D.isL, mutD, appD, extD, mutArgs, argsOf, argOf, lentS, places, back, backOne, outs, setL, ownAt, parS, lock, unlock, wipeS, putBack, free_zero, free_succ, fst_no, fst_v, rngOf1, rngOf2, srcOf, kit_bb, wp_some, retq_rt, retq_nx, turn_nx, turn_ct, turnp_nx, turnp_ct, turnp_rt, turnp_bk, Option.toList, Int.zero_add, Int.sub_zero, List.getElem?_cons_succ, List.getElem?_cons_zero, List.set_cons_succ, List.set_cons_zero, Option.bind_some, Option.map_some, if_true, if_false, decide_true, decide_false, Bool.false_eq_true, store_zero, store_succ, st_no, st_v, atI_pos, ix50, ix51, ix52, ix53, ix54, ixN_pos, Option.bind_some, List.nodup_nil, List.nodup_cons, List.mem_cons, List.not_mem_nil, or_false, or_true, false_or, not_false_eq_true, not_true, and_self, and_true, true_and, Bool.and_true, Bool.true_and, Bool.and_self, Bool.and_false, Bool.false_and, Bool.not_true, Bool.not_false, List.length_cons, List.length_nil, List.cons_append, List.nil_append, List.replicate, Out.map, List.append_eq, List.all_cons, List.all_nil, decide_not, ne_eq, lim_lit, List.length_map, Int.reduceLE, Int.reduceLT, Int.reduceToNat, Nat.reduceAdd, Nat.reduceSub, Nat.reduceLeDiff, Nat.reduceEqDiff, Int.reduceNeg, Int.reduceEq, Nat.reduceLT, Nat.reduceMul, b__law_broken, rowD, stD, oi_n, oi_s, fz_oi, fz_oi1, a0, ea, ha, b0, eb, hb, e1, q2, ek, hk]
      | some e =>
        by_cases hc : e ≤ came
        · simp -implicitDefEqProofs only [xs1, xs2, xs3, rd, rds, vals, cont, Sl.cont, D.fz, fzL, cmpD, ordD, eqD_int, eqD_in, eqD_ni, eqD_nn, eqD_bb, isD, D.isNon, idx_tup, idx_lst, idx_ro, idx_own, addI, subI, fdivD, modD, negD, truD, bltD, lenD_items, listD, tupleD, absD_int, intD, tyD, D.items, D.isL, mutD, appD, extD, mutArgs, argsOf, argOf, lentS, places, back, backOne, outs, setL, ownAt, parS, lock, unlock, wipeS, putBack, free_zero, free_succ, fst_no, fst_v, rngOf1, rngOf2, srcOf, kit_bb, wp_some, retq_rt, retq_nx, turn_nx, turn_ct, turnp_nx, turnp_ct, turnp_rt, turnp_bk, Option.toList, Int.zero_add, Int.sub_zero, List.getElem?_cons_succ, List.getElem?_cons_zero, List.set_cons_succ, List.set_cons_zero, Option.bind_some, Option.map_some, if_true, if_false, decide_true, decide_false, Bool.false_eq_true, store_zero, store_succ, st_no, st_v, atI_pos, ix50, ix51, ix52, ix53, ix54, ixN_pos, Option.bind_some, List.nodup_nil, List.nodup_cons, List.mem_cons, List.not_mem_nil, or_false, or_true, false_or, not_false_eq_true, not_true, and_self, and_true, true_and, Bool.and_true, Bool.true_and, Bool.and_self, Bool.and_false, Bool.false_and, Bool.not_true, Bool.not_false, List.length_cons, List.length_nil, List.cons_append, List.nil_append, List.replicate, Out.map, List.append_eq, List.all_cons, List.all_nil, decide_not, ne_eq, lim_lit, List.length_map, Int.reduceLE, Int.reduceLT, Int.reduceToNat, Nat.reduceAdd, Nat.reduceSub, Nat.reduceLeDiff, Nat.reduceEqDiff, Int.reduceNeg, Int.reduceEq, Nat.reduceLT, Nat.reduceMul, b__law_broken, rowD, stD, oi_n, oi_s, fz_oi, fz_oi1, a0, ea, ha, e1, q2, ek, hk, hc]
        · cases hb : ts.getD b.toNat none with
          | none => simp -implicitDefEqProofs only [xs1, xs2, xs3, rd, rds, vals, cont, Sl.cont, D.fz, fzL, cmpD, ordD, eqD_int, eqD_in, eqD_ni, eqD_nn, eqD_bb, isD, D.isNon, idx_tup, idx_lst, idx_ro, idx_own, addI, subI, fdivD, modD, negD, truD, bltD, lenD_items, listD, tupleD, absD_int, intD, tyD, D.items, D.isL, mutD, appD, extD, mutArgs, argsOf, argOf, lentS, places, back, backOne, outs, setL, ownAt, parS, lock, unlock, wipeS, putBack, free_zero, free_succ, fst_no, fst_v, rngOf1, rngOf2, srcOf, kit_bb, wp_some, retq_rt, retq_nx, turn_nx, turn_ct, turnp_nx, turnp_ct, turnp_rt, turnp_bk, Option.toList, Int.zero_add, Int.sub_zero, List.getElem?_cons_succ, List.getElem?_cons_zero, List.set_cons_succ, List.set_cons_zero, Option.bind_some, Option.map_some, if_true, if_false, decide_true, decide_false, Bool.false_eq_true, store_zero, store_succ, st_no, st_v, atI_pos, ix50, ix51, ix52, ix53, ix54, ixN_pos, Option.bind_some, List.nodup_nil, List.nodup_cons, List.mem_cons, List.not_mem_nil, or_false, or_true, false_or, not_false_eq_true, not_true, and_self, and_true, true_and, Bool.and_true, Bool.true_and, Bool.and_self, Bool.and_false, Bool.false_and, Bool.not_true, Bool.not_false, List.length_cons, List.length_nil, List.cons_append, List.nil_append, List.replicate, Out.map, List.append_eq, List.all_cons, List.all_nil, decide_not, ne_eq, lim_lit, List.length_map, Int.reduceLE, Int.reduceLT, Int.reduceToNat, Nat.reduceAdd, Nat.reduceSub, Nat.reduceLeDiff, Nat.reduceEqDiff, Int.reduceNeg, Int.reduceEq, Nat.reduceLT, Nat.reduceMul, b__law_broken, rowD, stD, oi_n, oi_s, fz_oi, fz_oi1, a0, ea, ha, b0, eb, hb, e1, q2, ek, hk, hc]
          | some met => simp -implicitDefEqProofs only [xs1, xs2, xs3, rd, rds, vals, cont, Sl.cont, D.fz, fzL, cmpD, ordD, eqD_int, eqD_in, eqD_ni, eqD_nn, eqD_bb, isD, D.isNon, idx_tup, idx_lst, idx_ro, idx_own, addI, subI, fdivD, modD, negD, truD, bltD, lenD_items, listD, tupleD, absD_int, intD, tyD, D.items, D.isL, mutD, appD, extD, mutArgs, argsOf, argOf, lentS, places, back, backOne, outs, setL, ownAt, parS, lock, unlock, wipeS, putBack, free_zero, free_succ, fst_no, fst_v, rngOf1, rngOf2, srcOf, kit_bb, wp_some, retq_rt, retq_nx, turn_nx, turn_ct, turnp_nx, turnp_ct, turnp_rt, turnp_bk, Option.toList, Int.zero_add, Int.sub_zero, List.getElem?_cons_succ, List.getElem?_cons_zero, List.set_cons_succ, List.set_cons_zero, Option.bind_some, Option.map_some, if_true, if_false, decide_true, decide_false, Bool.false_eq_true, store_zero, store_succ, st_no, st_v, atI_pos, ix50, ix51, ix52, ix53, ix54, ixN_pos, Option.bind_some, List.nodup_nil, List.nodup_cons, List.mem_cons, List.not_mem_nil, or_false, or_true, false_or, not_false_eq_true, not_true, and_self, and_true, true_and, Bool.and_true, Bool.true_and, Bool.and_self, Bool.and_false, Bool.false_and, Bool.not_true, Bool.not_false, List.length_cons, List.length_nil, List.cons_append, List.nil_append, List.replicate, Out.map, List.append_eq, List.all_cons, List.all_nil, decide_not, ne_eq, lim_lit, List.length_map, Int.reduceLE, Int.reduceLT, Int.reduceToNat, Nat.reduceAdd, Nat.reduceSub, Nat.reduceLeDiff, Nat.reduceEqDiff, Int.reduceNeg, Int.reduceEq, Nat.reduceLT, Nat.reduceMul, b__law_broken, rowD, stD, oi_n, oi_s, fz_oi, fz_oi1, a0, ea, ha, b0, eb, hb, e1, q2, ek, hk, hc]
theorem map_get {l : List Int} {i : Nat} {d : D} (h : (l.map D.int)[i]? = some d) : ∃ w, l[i]? = some w ∧ d = .int w := by
  rw [List.getElem?_map] at h
  cases e : l[i]? with
  | none => rw [e] at h; cases h
  | some w => rw [e] at h; cases h; exact ⟨w, rfl, rfl⟩
def lo (sp : List (Int × Int)) (w : Int) : Int := (sp.getD w.toNat (0, 0)).1
def hi (sp : List (Int × Int)) (w : Int) : Int := (sp.getD w.toNat (0, 0)).2
theorem get_lo {sp : List (Int × Int)} {w : Int} (h0 : 0 ≤ w) (h : w < sp.length) : (sp.map spD)[w.toNat]? = some (.tup [.int (lo sp w), .int (hi sp w)]) := get_sp (by omega)
end K22


set_option maxRecDepth 100000
set_option maxHeartbeats 4000000
namespace K22
open PySem Co
/-! ### the basic rows -/
theorem fz_row (r : Row) : (rowD r).fz = true := by
  obtain ⟨a, b, w, kk⟩ := r
  cases kk <;> rfl
theorem fz_rows (l : List Row) : fzL (l.map rowD) = true := by
  induction l with
  | nil => rfl
  | cons a l ih => simp only [List.map_cons, fzL, fz_row, ih, Bool.and_true]
def ptR (h : Int) (m : Nat) : List Row := (List.range m).flatMap fun (i : Nat) => [⟨0, 1 + i, h, none⟩, ⟨1 + i, 0, 0, none⟩]
def spR (sp : List (Int × Int)) (m : Nat) : List Row := (List.range m).flatMap fun (j : Nat) => [⟨2 * j + 1, 2 * j + 2, hi sp j, none⟩, ⟨2 * j + 2, 2 * j + 1, -lo sp j, none⟩]
def bdR (bs : List (Int × Int × Int)) : List Row := bs.map fun t => ⟨t.1, t.2.1, t.2.2, none⟩
def wtR (sp : List (Int × Int)) (ws : List (Int × Int × Int)) : List Row := ws.map fun t => ⟨t.1, 2 * t.2.1 + 1, -(if hi sp t.2.1 < t.2.2 then hi sp t.2.1 else t.2.2), some t.2.1⟩
theorem ptR_len (h : Int) (m : Nat) : (ptR h m).length = 2 * m := by
  induction m with
  | zero => rfl
  | succ m ih => unfold ptR at ih ⊢; rw [List.range_succ, List.flatMap_append, List.length_append, ih]; simp; omega
theorem spR_len (sp : List (Int × Int)) (m : Nat) : (spR sp m).length = 2 * m := by
  induction m with
  | zero => rfl
  | succ m ih => unfold spR at ih ⊢; rw [List.range_succ, List.flatMap_append, List.length_append, ih]; simp; omega
theorem ptR_succ (h : Int) (m : Nat) : (ptR h (m + 1)).map rowD = (ptR h m).map rowD ++ [.tup [.int 0, .int (1 + m), .int h, .non]] ++ [.tup [.int (1 + m), .int 0, .int 0, .non]] := by
  unfold ptR
  rw [List.range_succ, List.flatMap_append, List.map_append, List.append_assoc]
  rfl
theorem spR_succ (sp : List (Int × Int)) (m : Nat) : (spR sp (m + 1)).map rowD = (spR sp m).map rowD ++ [.tup [.int (2 * m + 1), .int (2 * m + 2), .int (hi sp m), .non]] ++ [.tup [.int (2 * m + 2), .int (2 * m + 1), .int (-lo sp m), .non]] := by
  unfold spR
  rw [List.range_succ, List.flatMap_append, List.map_append, List.append_assoc]
  rfl
theorem start_ok {k : Nat} {w : Int} (h : w.natAbs < 1000) : Wp (fun r => r = (.int (2 * w + 1), [.no])) (evF T 1000 (k + 1) 0 [.v (.int w)]) := by
  refine evF_wp T_start_of rfl ?_
  have e1 : binD .Mult (.int 2) (.int w) = _ := mulD (by omega) (by omega)
  simp -implicitDefEqProofs only [xs1, xs2, xs3, rd, rds, vals, cont, Sl.cont, D.fz, fzL, cmpD, ordD, eqD_int, eqD_in, eqD_ni, eqD_nn, eqD_bb, isD, D.isNon, idx_tup, idx_lst, idx_ro, idx_own, addI, subI, fdivD, modD, negD, truD, bltD, lenD_items, listD, tupleD, absD_int, intD, tyD, D.items, D.isL, mutD, appD, extD, mutArgs, argsOf, argOf, lentS, places, back, backOne, outs, setL, ownAt, parS, lock, unlock, wipeS, putBack, free_zero, free_succ, fst_no, fst_v, rngOf1, rngOf2, srcOf, kit_bb, wp_some, retq_rt, retq_nx, turn_nx, turn_ct, turnp_nx, turnp_ct, turnp_rt, turnp_bk, Option.toList, Int.zero_add, Int.sub_zero, List.getElem?_cons_succ, List.getElem?_cons_zero, List.set_cons_succ, List.set_cons_zero, Option.bind_some, Option.map_some, if_true, if_false, decide_true, decide_false, Bool.false_eq_true, store_zero, store_succ, st_no, st_v, atI_pos, ix50, ix51, ix52, ix53, ix54, ixN_pos, Option.bind_some, List.nodup_nil, List.nodup_cons, List.mem_cons, List.not_mem_nil, or_false, or_true, false_or, not_false_eq_true, not_true, and_self, and_true, true_and, Bool.and_true, Bool.true_and, Bool.and_self, Bool.and_false, Bool.false_and, Bool.not_true, Bool.not_false, List.length_cons, List.length_nil, List.cons_append, List.nil_append, List.replicate, Out.map, List.append_eq, List.all_cons, List.all_nil, decide_not, ne_eq, lim_lit, List.length_map, Int.reduceLE, Int.reduceLT, Int.reduceToNat, Nat.reduceAdd, Nat.reduceSub, Nat.reduceLeDiff, Nat.reduceEqDiff, Int.reduceNeg, Int.reduceEq, Nat.reduceLT, Nat.reduceMul, b_start_of, e1]
theorem workof_ok {k : Nat} {p : Int} : Wp (fun r => r = (.int ((p - 1) / 2), [.no])) (evF T 1000 (k + 1) 2 [.v (.int p)]) := by
  refine evF_wp T_work_of rfl ?_
  simp -implicitDefEqProofs only [xs1, xs2, xs3, rd, rds, vals, cont, Sl.cont, D.fz, fzL, cmpD, ordD, eqD_int, eqD_in, eqD_ni, eqD_nn, eqD_bb, isD, D.isNon, idx_tup, idx_lst, idx_ro, idx_own, addI, subI, fdivD, modD, negD, truD, bltD, lenD_items, listD, tupleD, absD_int, intD, tyD, D.items, D.isL, mutD, appD, extD, mutArgs, argsOf, argOf, lentS, places, back, backOne, outs, setL, ownAt, parS, lock, unlock, wipeS, putBack, free_zero, free_succ, fst_no, fst_v, rngOf1, rngOf2, srcOf, kit_bb, wp_some, retq_rt, retq_nx, turn_nx, turn_ct, turnp_nx, turnp_ct, turnp_rt, turnp_bk, Option.toList, Int.zero_add, Int.sub_zero, List.getElem?_cons_succ, List.getElem?_cons_zero, List.set_cons_succ, List.set_cons_zero, Option.bind_some, Option.map_some, if_true, if_false, decide_true, decide_false, Bool.false_eq_true, store_zero, store_succ, st_no, st_v, atI_pos, ix50, ix51, ix52, ix53, ix54, ixN_pos, Option.bind_some, List.nodup_nil, List.nodup_cons, List.mem_cons, List.not_mem_nil, or_false, or_true, false_or, not_false_eq_true, not_true, and_self, and_true, true_and, Bool.and_true, Bool.true_and, Bool.and_self, Bool.and_false, Bool.false_and, Bool.not_true, Bool.not_false, List.length_cons, List.length_nil, List.cons_append, List.nil_append, List.replicate, Out.map, List.append_eq, List.all_cons, List.all_nil, decide_not, ne_eq, lim_lit, List.length_map, Int.reduceLE, Int.reduceLT, Int.reduceToNat, Nat.reduceAdd, Nat.reduceSub, Nat.reduceLeDiff, Nat.reduceEqDiff, Int.reduceNeg, Int.reduceEq, Nat.reduceLT, Nat.reduceMul, b_work_of]
theorem prows_ok {k m : Nat} {h : Int} (hm : m ≤ 1000) : Wp (fun r => r = (.own ((ptR h m).map rowD), [.no, .no])) (evF T 1000 (k + 1) 4 [.v (.int h), .v (.int (m + 1))]) := by
  refine evF_wp T_point_rows rfl ?_
  have r1 : rngOf [.int 1, .int ((m : Int) + 1)] = _ := rngOf2 (by omega) (by omega) (by omega) (by omega)
  have hlen : (rngD 1 ((m : Int) + 1)).length = m := by rw [rngd_len]; omega
  simp -implicitDefEqProofs only [xs1, xs2, xs3, rd, rds, vals, cont, Sl.cont, D.fz, fzL, cmpD, ordD, eqD_int, eqD_in, eqD_ni, eqD_nn, eqD_bb, isD, D.isNon, idx_tup, idx_lst, idx_ro, idx_own, addI, subI, fdivD, modD, negD, truD, bltD, lenD_items, listD, tupleD, absD_int, intD, tyD, D.items, D.isL, mutD, appD, extD, mutArgs, argsOf, argOf, lentS, places, back, backOne, outs, setL, ownAt, parS, lock, unlock, wipeS, putBack, free_zero, free_succ, fst_no, fst_v, rngOf1, rngOf2, srcOf, kit_bb, wp_some, retq_rt, retq_nx, turn_nx, turn_ct, turnp_nx, turnp_ct, turnp_rt, turnp_bk, Option.toList, Int.zero_add, Int.sub_zero, List.getElem?_cons_succ, List.getElem?_cons_zero, List.set_cons_succ, List.set_cons_zero, Option.bind_some, Option.map_some, if_true, if_false, decide_true, decide_false, Bool.false_eq_true, store_zero, store_succ, st_no, st_v, atI_pos, ix50, ix51, ix52, ix53, ix54, ixN_pos, Option.bind_some, List.nodup_nil, List.nodup_cons, List.mem_cons, List.not_mem_nil, or_false, or_true, false_or, not_false_eq_true, not_true, and_self, and_true, true_and, Bool.and_true, Bool.true_and, Bool.and_self, Bool.and_false, Bool.false_and, Bool.not_true, Bool.not_false, List.length_cons, List.length_nil, List.cons_append, List.nil_append, List.replicate, Out.map, List.append_eq, List.all_cons, List.all_nil, decide_not, ne_eq, lim_lit, List.length_map, Int.reduceLE, Int.reduceLT, Int.reduceToNat, Nat.reduceAdd, Nat.reduceSub, Nat.reduceLeDiff, Nat.reduceEqDiff, Int.reduceNeg, Int.reduceEq, Nat.reduceLT, Nat.reduceMul, b_point_rows, r1]
  repeat with_reducible refine wp_b ?_
  refine wp_for (fun i ρ => ∃ s3, ρ = [.v (.int h), .v (.int (m + 1)), .v (.own ((ptR h i).map rowD)), s3] ∧ St s3) ?_ ?_ ?_
  · exact ⟨_, rfl, st_no⟩
  · rintro i v _ hi ⟨s3, rfl, h3⟩
    obtain ⟨rfl, hlt⟩ := rngd_get hi
    have l1 : (ptR h i).length < 16777216 := by rw [ptR_len]; omega
    have l2 : (ptR h i).length + 1 < 16777216 := by rw [ptR_len]; omega
    simp -implicitDefEqProofs only [xs1, xs2, xs3, rd, rds, vals, cont, Sl.cont, D.fz, fzL, cmpD, ordD, eqD_int, eqD_in, eqD_ni, eqD_nn, eqD_bb, isD, D.isNon, idx_tup, idx_lst, idx_ro, idx_own, addI, subI, fdivD, modD, negD, truD, bltD, lenD_items, listD, tupleD, absD_int, intD, tyD, D.items, D.isL, mutD, appD, extD, mutArgs, argsOf, argOf, lentS, places, back, backOne, outs, setL, ownAt, parS, lock, unlock, wipeS, putBack, free_zero, free_succ, fst_no, fst_v, rngOf1, rngOf2, srcOf, kit_bb, wp_some, retq_rt, retq_nx, turn_nx, turn_ct, turnp_nx, turnp_ct, turnp_rt, turnp_bk, Option.toList, Int.zero_add, Int.sub_zero, List.getElem?_cons_succ, List.getElem?_cons_zero, List.set_cons_succ, List.set_cons_zero, Option.bind_some, Option.map_some, if_true, if_false, decide_true, decide_false, Bool.false_eq_true, store_zero, store_succ, st_no, st_v, atI_pos, ix50, ix51, ix52, ix53, ix54, ixN_pos, Option.bind_some, List.nodup_nil, List.nodup_cons, List.mem_cons, List.not_mem_nil, or_false, or_true, false_or, not_false_eq_true, not_true, and_self, and_true, true_and, Bool.and_true, Bool.true_and, Bool.and_self, Bool.and_false, Bool.false_and, Bool.not_true, Bool.not_false, List.length_cons, List.length_nil, List.cons_append, List.nil_append, List.replicate, Out.map, List.append_eq, List.all_cons, List.all_nil, decide_not, ne_eq, lim_lit, List.length_map, Int.reduceLE, Int.reduceLT, Int.reduceToNat, Nat.reduceAdd, Nat.reduceSub, Nat.reduceLeDiff, Nat.reduceEqDiff, Int.reduceNeg, Int.reduceEq, Nat.reduceLT, Nat.reduceMul, forTu, h3, l1, l2, List.length_append]
    exact ⟨_, by rw [ptR_succ], st_v⟩
  · rintro _ ⟨s3, rfl, h3⟩
    rw [hlen]
    simp -implicitDefEqProofs only [xs1, xs2, xs3, rd, rds, vals, cont, Sl.cont, D.fz, fzL, cmpD, ordD, eqD_int, eqD_in, eqD_ni, eqD_nn, eqD_bb, isD, D.isNon, idx_tup, idx_lst, idx_ro, idx_own, addI, subI, fdivD, modD, negD, truD, bltD, lenD_items, listD, tupleD, absD_int, intD, tyD, D.items, D.isL, mutD, appD, extD, mutArgs, argsOf, argOf, lentS, places, back, backOne, outs, setL, ownAt, parS, lock, unlock, wipeS, putBack, free_zero, free_succ, fst_no, fst_v, rngOf1, rngOf2, srcOf, kit_bb, wp_some, retq_rt, retq_nx, turn_nx, turn_ct, turnp_nx, turnp_ct, turnp_rt, turnp_bk, Option.toList, Int.zero_add, Int.sub_zero, List.getElem?_cons_succ, List.getElem?_cons_zero, List.set_cons_succ, List.set_cons_zero, Option.bind_some, Option.map_some, if_true, if_false, decide_true, decide_false, Bool.false_eq_true, store_zero, store_succ, st_no, st_v, atI_pos, ix50, ix51, ix52, ix53, ix54, ixN_pos, Option.bind_some, List.nodup_nil, List.nodup_cons, List.mem_cons, List.not_mem_nil, or_false, or_true, false_or, not_false_eq_true, not_true, and_self, and_true, true_and, Bool.and_true, Bool.true_and, Bool.and_self, Bool.and_false, Bool.false_and, Bool.not_true, Bool.not_false, List.length_cons, List.length_nil, List.cons_append, List.nil_append, List.replicate, Out.map, List.append_eq, List.all_cons, List.all_nil, decide_not, ne_eq, lim_lit, List.length_map, Int.reduceLE, Int.reduceLT, Int.reduceToNat, Nat.reduceAdd, Nat.reduceSub, Nat.reduceLeDiff, Nat.reduceEqDiff, Int.reduceNeg, Int.reduceEq, Nat.reduceLT, Nat.reduceMul]
theorem enum_at {l : List D} {i : Nat} {d : D} (h : (enumL 0 l)[i]? = some d) : ∃ x, l[i]? = some x ∧ d = .tup [.int (i : Nat), x] := by
  have hl : i < l.length := by
    have := (List.getElem?_eq_some_iff.mp h).1
    rwa [enum_len] at this
  have q := enum_get (k := 0) (i := i) (d := l[i]) (List.getElem?_eq_getElem hl)
  rw [h] at q
  cases q
  exact ⟨l[i], List.getElem?_eq_getElem hl, by simp⟩
theorem srows_ok {k : Nat} {sp : List (Int × Int)} (hs : sp.length ≤ 12) : Wp (fun r => r = (.own ((spR sp sp.length).map rowD), [.no])) (evF T 1000 (k + 2) 5 [.v (.tup (sp.map spD))]) := by
  refine evF_wp T_span_rows rfl ?_
  simp -implicitDefEqProofs only [xs1, xs2, xs3, rd, rds, vals, cont, Sl.cont, D.fz, fzL, cmpD, ordD, eqD_int, eqD_in, eqD_ni, eqD_nn, eqD_bb, isD, D.isNon, idx_tup, idx_lst, idx_ro, idx_own, addI, subI, fdivD, modD, negD, truD, bltD, lenD_items, listD, tupleD, absD_int, intD, tyD, D.items, D.isL, mutD, appD, extD, mutArgs, argsOf, argOf, lentS, places, back, backOne, outs, setL, ownAt, parS, lock, unlock, wipeS, putBack, free_zero, free_succ, fst_no, fst_v, rngOf1, rngOf2, srcOf, kit_bb, wp_some, retq_rt, retq_nx, turn_nx, turn_ct, turnp_nx, turnp_ct, turnp_rt, turnp_bk, Option.toList, Int.zero_add, Int.sub_zero, List.getElem?_cons_succ, List.getElem?_cons_zero, List.set_cons_succ, List.set_cons_zero, Option.bind_some, Option.map_some, if_true, if_false, decide_true, decide_false, Bool.false_eq_true, store_zero, store_succ, st_no, st_v, atI_pos, ix50, ix51, ix52, ix53, ix54, ixN_pos, Option.bind_some, List.nodup_nil, List.nodup_cons, List.mem_cons, List.not_mem_nil, or_false, or_true, false_or, not_false_eq_true, not_true, and_self, and_true, true_and, Bool.and_true, Bool.true_and, Bool.and_self, Bool.and_false, Bool.false_and, Bool.not_true, Bool.not_false, List.length_cons, List.length_nil, List.cons_append, List.nil_append, List.replicate, Out.map, List.append_eq, List.all_cons, List.all_nil, decide_not, ne_eq, lim_lit, List.length_map, Int.reduceLE, Int.reduceLT, Int.reduceToNat, Nat.reduceAdd, Nat.reduceSub, Nat.reduceLeDiff, Nat.reduceEqDiff, Int.reduceNeg, Int.reduceEq, Nat.reduceLT, Nat.reduceMul, b_span_rows, fz_sp]
  repeat with_reducible refine wp_b ?_
  have hlen : (enumL 0 (sp.map spD)).length = sp.length := by rw [enum_len, List.length_map]
  refine wp_for (fun i ρ => ∃ s2 s3 s4, ρ = [.v (.tup (sp.map spD)), .v (.own ((spR sp i).map rowD)), s2, s3, s4] ∧ St s2 ∧ St s3 ∧ St s4) ?_ ?_ ?_
  · exact ⟨_, _, _, rfl, st_no, st_no, st_no⟩
  · rintro i v _ hi ⟨s2, s3, s4, rfl, h2, h3, h4⟩
    have hl : i < sp.length := by
      have := (List.getElem?_eq_some_iff.mp hi).1
      rwa [hlen] at this
    obtain ⟨x, hx, rfl⟩ := enum_at hi
    rw [get_sp hl] at hx
    cases hx
    have ex : spD (sp.getD i (0, 0)) = .tup [.int (lo sp i), .int (K22.hi sp i)] := rfl
    rw [ex]
    obtain ⟨_, e1, rfl⟩ := start_ok (k := k) (w := (i : Int)) (by omega)
    obtain ⟨_, e2, rfl⟩ := end_ok (k := k) (w := (i : Int)) (by omega)
    have l1 : (spR sp i).length < 16777216 := by rw [spR_len]; omega
    have l2 : (spR sp i).length + 1 < 16777216 := by rw [spR_len]; omega
    simp -implicitDefEqProofs only [xs1, xs2, xs3, rd, rds, vals, cont, Sl.cont, D.fz, fzL, cmpD, ordD, eqD_int, eqD_in, eqD_ni, eqD_nn, eqD_bb, isD, D.isNon, idx_tup, idx_lst, idx_ro, idx_own, addI, subI, fdivD, modD, negD, truD, bltD, lenD_items, listD, tupleD, absD_int, intD, tyD, D.items, D.isL, mutD, appD, extD, mutArgs, argsOf, argOf, lentS, places, back, backOne, outs, setL, ownAt, parS, lock, unlock, wipeS, putBack, free_zero, free_succ, fst_no, fst_v, rngOf1, rngOf2, srcOf, kit_bb, wp_some, retq_rt, retq_nx, turn_nx, turn_ct, turnp_nx, turnp_ct, turnp_rt, turnp_bk, Option.toList, Int.zero_add, Int.sub_zero, List.getElem?_cons_succ, List.getElem?_cons_zero, List.set_cons_succ, List.set_cons_zero, Option.bind_some, Option.map_some, if_true, if_false, decide_true, decide_false, Bool.false_eq_true, store_zero, store_succ, st_no, st_v, atI_pos, ix50, ix51, ix52, ix53, ix54, ixN_pos, Option.bind_some, List.nodup_nil, List.nodup_cons, List.mem_cons, List.not_mem_nil, or_false, or_true, false_or, not_false_eq_true, not_true, and_self, and_true, true_and, Bool.and_true, Bool.true_and, Bool.and_self, Bool.and_false, Bool.false_and, Bool.not_true, Bool.not_false, List.length_cons, List.length_nil, List.cons_append, List.nil_append, List.replicate, Out.map, List.append_eq, List.all_cons, List.all_nil, decide_not, ne_eq, lim_lit, List.length_map, Int.reduceLE, Int.reduceLT, Int.reduceToNat, Nat.reduceAdd, Nat.reduceSub, Nat.reduceLeDiff, Nat.reduceEqDiff, Int.reduceNeg, Int.reduceEq, Nat.reduceLT, Nat.reduceMul, forTu, h2, h3, h4, e1, e2, l1, l2, List.length_append]
    exact ⟨_, _, _, by rw [spR_succ], st_v, st_v, st_v⟩
  · rintro _ ⟨s2, s3, s4, rfl, h2, h3, h4⟩
    rw [hlen]
    simp -implicitDefEqProofs only [xs1, xs2, xs3, rd, rds, vals, cont, Sl.cont, D.fz, fzL, cmpD, ordD, eqD_int, eqD_in, eqD_ni, eqD_nn, eqD_bb, isD, D.isNon, idx_tup, idx_lst, idx_ro, idx_own, addI, subI, fdivD, modD, negD, truD, bltD, lenD_items, listD, tupleD, absD_int, intD, tyD, D.items, D.isL, mutD, appD, extD, mutArgs, argsOf, argOf, lentS, places, back, backOne, outs, setL, ownAt, parS, lock, unlock, wipeS, putBack, free_zero, free_succ, fst_no, fst_v, rngOf1, rngOf2, srcOf, kit_bb, wp_some, retq_rt, retq_nx, turn_nx, turn_ct, turnp_nx, turnp_ct, turnp_rt, turnp_bk, Option.toList, Int.zero_add, Int.sub_zero, List.getElem?_cons_succ, List.getElem?_cons_zero, List.set_cons_succ, List.set_cons_zero, Option.bind_some, Option.map_some, if_true, if_false, decide_true, decide_false, Bool.false_eq_true, store_zero, store_succ, st_no, st_v, atI_pos, ix50, ix51, ix52, ix53, ix54, ixN_pos, Option.bind_some, List.nodup_nil, List.nodup_cons, List.mem_cons, List.not_mem_nil, or_false, or_true, false_or, not_false_eq_true, not_true, and_self, and_true, true_and, Bool.and_true, Bool.true_and, Bool.and_self, Bool.and_false, Bool.false_and, Bool.not_true, Bool.not_false, List.length_cons, List.length_nil, List.cons_append, List.nil_append, List.replicate, Out.map, List.append_eq, List.all_cons, List.all_nil, decide_not, ne_eq, lim_lit, List.length_map, Int.reduceLE, Int.reduceLT, Int.reduceToNat, Nat.reduceAdd, Nat.reduceSub, Nat.reduceLeDiff, Nat.reduceEqDiff, Int.reduceNeg, Int.reduceEq, Nat.reduceLT, Nat.reduceMul]
def trW (sp : List (Int × Int)) (t : Int × Int × Int) : Row := ⟨t.1, 2 * t.2.1 + 1, -(if hi sp t.2.1 < t.2.2 then hi sp t.2.1 else t.2.2), some t.2.1⟩
theorem wrow_ok {k : Nat} {sp : List (Int × Int)} {t : Int × Int × Int} (hs : sp.length ≤ 12) (h0 : 0 ≤ t.2.1) (h1 : t.2.1 < sp.length) : Wp (fun r => r = (rowD (trW sp t), [.no, .no])) (evF T 1000 (k + 2) 6 [.v (.tup (sp.map spD)), .v (trD t)]) := by
  obtain ⟨p, u, m⟩ := t
  simp only at h0 h1
  refine evF_wp T_wait_row rfl ?_
  obtain ⟨_, e1, rfl⟩ := start_ok (k := k) (w := u) (by omega)
  have gs : (sp.map spD)[u.toNat]? = _ := get_lo h0 h1
  by_cases hc : hi sp u < m
  · have em : minD [.int m, .int (hi sp u)] = some (.int (hi sp u)) := by show some (D.int (if hi sp u < m then _ else _)) = _; rw [if_pos hc]
    simp -implicitDefEqProofs only [xs1, xs2, xs3, rd, rds, vals, cont, Sl.cont, D.fz, fzL, cmpD, ordD, eqD_int, eqD_in, eqD_ni, eqD_nn, eqD_bb, isD, D.isNon, idx_tup, idx_lst, idx_ro, idx_own, addI, subI, fdivD, modD, negD, truD, bltD, lenD_items, listD, tupleD, absD_int, intD, tyD, D.items, D.isL, mutD, appD, extD, mutArgs, argsOf, argOf, lentS, places, back, backOne, outs, setL, ownAt, parS, lock, unlock, wipeS, putBack, free_zero, free_succ, fst_no, fst_v, rngOf1, rngOf2, srcOf, kit_bb, wp_some, retq_rt, retq_nx, turn_nx, turn_ct, turnp_nx, turnp_ct, turnp_rt, turnp_bk, Option.toList, Int.zero_add, Int.sub_zero, List.getElem?_cons_succ, List.getElem?_cons_zero, List.set_cons_succ, List.set_cons_zero, Option.bind_some, Option.map_some, if_true, if_false, decide_true, decide_false, Bool.false_eq_true, store_zero, store_succ, st_no, st_v, atI_pos, ix50, ix51, ix52, ix53, ix54, ixN_pos, Option.bind_some, List.nodup_nil, List.nodup_cons, List.mem_cons, List.not_mem_nil, or_false, or_true, false_or, not_false_eq_true, not_true, and_self, and_true, true_and, Bool.and_true, Bool.true_and, Bool.and_self, Bool.and_false, Bool.false_and, Bool.not_true, Bool.not_false, List.length_cons, List.length_nil, List.cons_append, List.nil_append, List.replicate, Out.map, List.append_eq, List.all_cons, List.all_nil, decide_not, ne_eq, lim_lit, List.length_map, Int.reduceLE, Int.reduceLT, Int.reduceToNat, Nat.reduceAdd, Nat.reduceSub, Nat.reduceLeDiff, Nat.reduceEqDiff, Int.reduceNeg, Int.reduceEq, Nat.reduceLT, Nat.reduceMul, b_wait_row, trD, e1, h0, gs, fz_sp, em]
    unfold rowD trW
    simp only [hc, if_true]
    rfl
  · have em : minD [.int m, .int (hi sp u)] = some (.int m) := by show some (D.int (if hi sp u < m then _ else _)) = _; rw [if_neg hc]
    simp -implicitDefEqProofs only [xs1, xs2, xs3, rd, rds, vals, cont, Sl.cont, D.fz, fzL, cmpD, ordD, eqD_int, eqD_in, eqD_ni, eqD_nn, eqD_bb, isD, D.isNon, idx_tup, idx_lst, idx_ro, idx_own, addI, subI, fdivD, modD, negD, truD, bltD, lenD_items, listD, tupleD, absD_int, intD, tyD, D.items, D.isL, mutD, appD, extD, mutArgs, argsOf, argOf, lentS, places, back, backOne, outs, setL, ownAt, parS, lock, unlock, wipeS, putBack, free_zero, free_succ, fst_no, fst_v, rngOf1, rngOf2, srcOf, kit_bb, wp_some, retq_rt, retq_nx, turn_nx, turn_ct, turnp_nx, turnp_ct, turnp_rt, turnp_bk, Option.toList, Int.zero_add, Int.sub_zero, List.getElem?_cons_succ, List.getElem?_cons_zero, List.set_cons_succ, List.set_cons_zero, Option.bind_some, Option.map_some, if_true, if_false, decide_true, decide_false, Bool.false_eq_true, store_zero, store_succ, st_no, st_v, atI_pos, ix50, ix51, ix52, ix53, ix54, ixN_pos, Option.bind_some, List.nodup_nil, List.nodup_cons, List.mem_cons, List.not_mem_nil, or_false, or_true, false_or, not_false_eq_true, not_true, and_self, and_true, true_and, Bool.and_true, Bool.true_and, Bool.and_self, Bool.and_false, Bool.false_and, Bool.not_true, Bool.not_false, List.length_cons, List.length_nil, List.cons_append, List.nil_append, List.replicate, Out.map, List.append_eq, List.all_cons, List.all_nil, decide_not, ne_eq, lim_lit, List.length_map, Int.reduceLE, Int.reduceLT, Int.reduceToNat, Nat.reduceAdd, Nat.reduceSub, Nat.reduceLeDiff, Nat.reduceEqDiff, Int.reduceNeg, Int.reduceEq, Nat.reduceLT, Nat.reduceMul, b_wait_row, trD, e1, h0, gs, fz_sp, em]
    unfold rowD trW
    simp only [hc, if_false]
    rfl
theorem points_ok {k n : Nat} {h : Int} {sp : List (Int × Int)} {bs ws : List (Int × Int × Int)} {net : D} (hn : NetD n h sp bs ws net) (hn2 : n ≤ 12) : Wp (fun r => r = (.int (((2 * n : Nat) : Int) + 1), [.no])) (evF T 1000 (k + 1) 3 [.v net]) := by
  obtain ⟨rfl, hl, hp, hbs, hws, lb, lw⟩ := hn
  refine evF_wp T_points_of rfl ?_
  have e1 : binD .Mult (.int 2) (.int (n : Int)) = some (.int ((2 * n : Nat) : Int)) := by
    have : binD .Mult (.int 2) (.int (n : Int)) = _ := mulD (by omega) (by omega)
    rw [this]
    congr 2
  simp -implicitDefEqProofs only [xs1, xs2, xs3, rd, rds, vals, cont, Sl.cont, D.fz, fzL, cmpD, ordD, eqD_int, eqD_in, eqD_ni, eqD_nn, eqD_bb, isD, D.isNon, idx_tup, idx_lst, idx_ro, idx_own, addI, subI, fdivD, modD, negD, truD, bltD, lenD_items, listD, tupleD, absD_int, intD, tyD, D.items, D.isL, mutD, appD, extD, mutArgs, argsOf, argOf, lentS, places, back, backOne, outs, setL, ownAt, parS, lock, unlock, wipeS, putBack, free_zero, free_succ, fst_no, fst_v, rngOf1, rngOf2, srcOf, kit_bb, wp_some, retq_rt, retq_nx, turn_nx, turn_ct, turnp_nx, turnp_ct, turnp_rt, turnp_bk, Option.toList, Int.zero_add, Int.sub_zero, List.getElem?_cons_succ, List.getElem?_cons_zero, List.set_cons_succ, List.set_cons_zero, Option.bind_some, Option.map_some, if_true, if_false, decide_true, decide_false, Bool.false_eq_true, store_zero, store_succ, st_no, st_v, atI_pos, ix50, ix51, ix52, ix53, ix54, ixN_pos, Option.bind_some, List.nodup_nil, List.nodup_cons, List.mem_cons, List.not_mem_nil, or_false, or_true, false_or, not_false_eq_true, not_true, and_self, and_true, true_and, Bool.and_true, Bool.true_and, Bool.and_self, Bool.and_false, Bool.false_and, Bool.not_true, Bool.not_false, List.length_cons, List.length_nil, List.cons_append, List.nil_append, List.replicate, Out.map, List.append_eq, List.all_cons, List.all_nil, decide_not, ne_eq, lim_lit, List.length_map, Int.reduceLE, Int.reduceLT, Int.reduceToNat, Nat.reduceAdd, Nat.reduceSub, Nat.reduceLeDiff, Nat.reduceEqDiff, Int.reduceNeg, Int.reduceEq, Nat.reduceLT, Nat.reduceMul, b_points_of, fz_sp, fz_tr, hl, e1]
def basicR (h : Int) (n : Nat) (sp : List (Int × Int)) (bs ws : List (Int × Int × Int)) : List Row := ptR h (2 * n) ++ spR sp n ++ bdR bs ++ ws.map (trW sp)
theorem tr_get {l : List (Int × Int × Int)} {i : Nat} {d : D} (h : (l.map trD)[i]? = some d) : ∃ w, l[i]? = some w ∧ d = trD w := by
  rw [List.getElem?_map] at h
  cases e : l[i]? with
  | none => rw [e] at h; cases h
  | some w => rw [e] at h; cases h; exact ⟨w, rfl, rfl⟩
theorem ttake {l : List (Int × Int × Int)} {i : Nat} {w : Int × Int × Int} (h : l[i]? = some w) : l.take (i + 1) = l.take i ++ [w] := by
  rw [List.take_add_one, h]
  rfl
theorem basic_ok {k n : Nat} {h : Int} {sp : List (Int × Int)} {bs ws : List (Int × Int × Int)} {net : D} (hn : NetD n h sp bs ws net) (hn2 : n ≤ 12) : Wp (fun r => r = (.tup ((basicR h n sp bs ws).map rowD), [.no])) (evF T 1000 (k + 3) 7 [.v net]) := by
  have hnet := hn
  obtain ⟨rfl, hl, hp, hbs, hws, lb, lw⟩ := hn
  refine evF_wp T_basic_rows rfl ?_
  obtain ⟨_, e1, rfl⟩ := points_ok (k := k + 1) hnet hn2
  obtain ⟨_, e2, rfl⟩ := prows_ok (k := k + 1) (m := 2 * n) (h := h) (by omega)
  obtain ⟨_, e3, rfl⟩ := srows_ok (k := k) (sp := sp) (by omega)
  rw [hl] at e3
  have l1 := ptR_len h (2 * n)
  have l2 := spR_len sp n
  have e4 : binD .Add (.own ((ptR h (2 * n)).map rowD)) (.own ((spR sp n).map rowD)) = some (.own ((ptR h (2 * n) ++ spR sp n).map rowD)) := by
    unfold binD
    simp only
    unfold addD
    simp only
    have hx : (ptR h (2 * n)).length + (spR sp n).length ≤ lim := by rw [l1, l2, lim_lit]; omega
    rw [fz_rows, fz_rows, List.length_map, List.length_map, List.map_append, decide_eq_true hx]
    rfl
  simp -implicitDefEqProofs only [xs1, xs2, xs3, rd, rds, vals, cont, Sl.cont, D.fz, fzL, cmpD, ordD, eqD_int, eqD_in, eqD_ni, eqD_nn, eqD_bb, isD, D.isNon, idx_tup, idx_lst, idx_ro, idx_own, addI, subI, fdivD, modD, negD, truD, bltD, lenD_items, listD, tupleD, absD_int, intD, tyD, D.items, D.isL, mutD, appD, extD, mutArgs, argsOf, argOf, lentS, places, back, backOne, outs, setL, ownAt, parS, lock, unlock, wipeS, putBack, free_zero, free_succ, fst_no, fst_v, rngOf1, rngOf2, srcOf, kit_bb, wp_some, retq_rt, retq_nx, turn_nx, turn_ct, turnp_nx, turnp_ct, turnp_rt, turnp_bk, Option.toList, Int.zero_add, Int.sub_zero, List.getElem?_cons_succ, List.getElem?_cons_zero, List.set_cons_succ, List.set_cons_zero, Option.bind_some, Option.map_some, if_true, if_false, decide_true, decide_false, Bool.false_eq_true, store_zero, store_succ, st_no, st_v, atI_pos, ix50, ix51, ix52, ix53, ix54, ixN_pos, Option.bind_some, List.nodup_nil, List.nodup_cons, List.mem_cons, List.not_mem_nil, or_false, or_true, false_or, not_false_eq_true, not_true, and_self, and_true, true_and, Bool.and_true, Bool.true_and, Bool.and_self, Bool.and_false, Bool.false_and, Bool.not_true, Bool.not_false, List.length_cons, List.length_nil, List.cons_append, List.nil_append, List.replicate, Out.map, List.append_eq, List.all_cons, List.all_nil, decide_not, ne_eq, lim_lit, List.length_map, Int.reduceLE, Int.reduceLT, Int.reduceToNat, Nat.reduceAdd, Nat.reduceSub, Nat.reduceLeDiff, Nat.reduceEqDiff, Int.reduceNeg, Int.reduceEq, Nat.reduceLT, Nat.reduceMul, b_basic_rows, fz_sp, fz_tr, e1, e2, e3, e4]
  repeat with_reducible refine wp_b ?_
  generalize hA : ptR h (2 * n) ++ spR sp n = A
  have lA : A.length ≤ 100 := by rw [← hA, List.length_append]; omega
  refine wp_comp (fun i acc ρ => ρ = [.v (.tup [.str "net", .int h, .tup (sp.map spD), .tup (bs.map trD), .tup (ws.map trD)]), .v (.own (A.map rowD)), .v (.int h), .v (.tup (sp.map spD)), .v (.tup (bs.map trD)), .v (.tup (ws.map trD)), .no, .no, .no, .no] ∧ acc = (bdR (bs.take i)).map rowD) ?_ ?_ ?_ ?_
  · exact ⟨rfl, rfl⟩
  · rw [List.length_map, lim_lit]; simp; omega
  · rintro i v acc _ hi ⟨rfl, rfl⟩
    obtain ⟨t, ht, rfl⟩ := tr_get hi
    obtain ⟨a, b, w⟩ := t
    simp -implicitDefEqProofs only [xs1, xs2, xs3, rd, rds, vals, cont, Sl.cont, D.fz, fzL, cmpD, ordD, eqD_int, eqD_in, eqD_ni, eqD_nn, eqD_bb, isD, D.isNon, idx_tup, idx_lst, idx_ro, idx_own, addI, subI, fdivD, modD, negD, truD, bltD, lenD_items, listD, tupleD, absD_int, intD, tyD, D.items, D.isL, mutD, appD, extD, mutArgs, argsOf, argOf, lentS, places, back, backOne, outs, setL, ownAt, parS, lock, unlock, wipeS, putBack, free_zero, free_succ, fst_no, fst_v, rngOf1, rngOf2, srcOf, kit_bb, wp_some, retq_rt, retq_nx, turn_nx, turn_ct, turnp_nx, turnp_ct, turnp_rt, turnp_bk, Option.toList, Int.zero_add, Int.sub_zero, List.getElem?_cons_succ, List.getElem?_cons_zero, List.set_cons_succ, List.set_cons_zero, Option.bind_some, Option.map_some, if_true, if_false, decide_true, decide_false, Bool.false_eq_true, store_zero, store_succ, st_no, st_v, atI_pos, ix50, ix51, ix52, ix53, ix54, ixN_pos, Option.bind_some, List.nodup_nil, List.nodup_cons, List.mem_cons, List.not_mem_nil, or_false, or_true, false_or, not_false_eq_true, not_true, and_self, and_true, true_and, Bool.and_true, Bool.true_and, Bool.and_self, Bool.and_false, Bool.false_and, Bool.not_true, Bool.not_false, List.length_cons, List.length_nil, List.cons_append, List.nil_append, List.replicate, Out.map, List.append_eq, List.all_cons, List.all_nil, decide_not, ne_eq, lim_lit, List.length_map, Int.reduceLE, Int.reduceLT, Int.reduceToNat, Nat.reduceAdd, Nat.reduceSub, Nat.reduceLeDiff, Nat.reduceEqDiff, Int.reduceNeg, Int.reduceEq, Nat.reduceLT, Nat.reduceMul, compTu, trD]
    rw [ttake ht]
    unfold bdR
    rw [List.map_append, List.map_append]
    rfl
  · rintro acc _ ⟨rfl, rfl⟩ _
    rw [List.length_map, List.take_length]
    have lB : (bdR bs).length ≤ 1000 := by unfold bdR; rw [List.length_map]; exact lb
    have lx : A.length + (bdR bs).length ≤ 16777216 := by omega
    simp -implicitDefEqProofs only [xs1, xs2, xs3, rd, rds, vals, cont, Sl.cont, D.fz, fzL, cmpD, ordD, eqD_int, eqD_in, eqD_ni, eqD_nn, eqD_bb, isD, D.isNon, idx_tup, idx_lst, idx_ro, idx_own, addI, subI, fdivD, modD, negD, truD, bltD, lenD_items, listD, tupleD, absD_int, intD, tyD, D.items, D.isL, mutD, appD, extD, mutArgs, argsOf, argOf, lentS, places, back, backOne, outs, setL, ownAt, parS, lock, unlock, wipeS, putBack, free_zero, free_succ, fst_no, fst_v, rngOf1, rngOf2, srcOf, kit_bb, wp_some, retq_rt, retq_nx, turn_nx, turn_ct, turnp_nx, turnp_ct, turnp_rt, turnp_bk, Option.toList, Int.zero_add, Int.sub_zero, List.getElem?_cons_succ, List.getElem?_cons_zero, List.set_cons_succ, List.set_cons_zero, Option.bind_some, Option.map_some, if_true, if_false, decide_true, decide_false, Bool.false_eq_true, store_zero, store_succ, st_no, st_v, atI_pos, ix50, ix51, ix52, ix53, ix54, ixN_pos, Option.bind_some, List.nodup_nil, List.nodup_cons, List.mem_cons, List.not_mem_nil, or_false, or_true, false_or, not_false_eq_true, not_true, and_self, and_true, true_and, Bool.and_true, Bool.true_and, Bool.and_self, Bool.and_false, Bool.false_and, Bool.not_true, Bool.not_false, List.length_cons, List.length_nil, List.cons_append, List.nil_append, List.replicate, Out.map, List.append_eq, List.all_cons, List.all_nil, decide_not, ne_eq, lim_lit, List.length_map, Int.reduceLE, Int.reduceLT, Int.reduceToNat, Nat.reduceAdd, Nat.reduceSub, Nat.reduceLeDiff, Nat.reduceEqDiff, Int.reduceNeg, Int.reduceEq, Nat.reduceLT, Nat.reduceMul, fz_rows, fz_sp, fz_tr, lx]
    rw [← List.map_append]
    generalize hB : A ++ bdR bs = A2
    have lA2 : A2.length ≤ 1100 := by rw [← hB, List.length_append]; omega
    repeat with_reducible refine wp_b ?_
    refine wp_comp (fun i acc ρ => ρ = [.v (.tup [.str "net", .int h, .tup (sp.map spD), .tup (bs.map trD), .tup (ws.map trD)]), .v (.own (A2.map rowD)), .v (.int h), .v (.tup (sp.map spD)), .v (.tup (bs.map trD)), .v (.tup (ws.map trD)), .no, .no, .no, .no] ∧ acc = ((ws.take i).map (trW sp)).map rowD) ?_ ?_ ?_ ?_
    · exact ⟨rfl, rfl⟩
    · rw [List.length_map, lim_lit]; simp; omega
    · rintro i v acc _ hi ⟨rfl, rfl⟩
      obtain ⟨t, ht, rfl⟩ := tr_get hi
      obtain ⟨_, _, w0, w1, _, _⟩ := hws t (List.mem_of_getElem? ht)
      obtain ⟨_, e5, rfl⟩ := wrow_ok (k := k) (sp := sp) (t := t) (by omega) w0 (by omega)
      have ft : (trD t).fz = true := rfl
      simp -implicitDefEqProofs only [xs1, xs2, xs3, rd, rds, vals, cont, Sl.cont, D.fz, fzL, cmpD, ordD, eqD_int, eqD_in, eqD_ni, eqD_nn, eqD_bb, isD, D.isNon, idx_tup, idx_lst, idx_ro, idx_own, addI, subI, fdivD, modD, negD, truD, bltD, lenD_items, listD, tupleD, absD_int, intD, tyD, D.items, D.isL, mutD, appD, extD, mutArgs, argsOf, argOf, lentS, places, back, backOne, outs, setL, ownAt, parS, lock, unlock, wipeS, putBack, free_zero, free_succ, fst_no, fst_v, rngOf1, rngOf2, srcOf, kit_bb, wp_some, retq_rt, retq_nx, turn_nx, turn_ct, turnp_nx, turnp_ct, turnp_rt, turnp_bk, Option.toList, Int.zero_add, Int.sub_zero, List.getElem?_cons_succ, List.getElem?_cons_zero, List.set_cons_succ, List.set_cons_zero, Option.bind_some, Option.map_some, if_true, if_false, decide_true, decide_false, Bool.false_eq_true, store_zero, store_succ, st_no, st_v, atI_pos, ix50, ix51, ix52, ix53, ix54, ixN_pos, Option.bind_some, List.nodup_nil, List.nodup_cons, List.mem_cons, List.not_mem_nil, or_false, or_true, false_or, not_false_eq_true, not_true, and_self, and_true, true_and, Bool.and_true, Bool.true_and, Bool.and_self, Bool.and_false, Bool.false_and, Bool.not_true, Bool.not_false, List.length_cons, List.length_nil, List.cons_append, List.nil_append, List.replicate, Out.map, List.append_eq, List.all_cons, List.all_nil, decide_not, ne_eq, lim_lit, List.length_map, Int.reduceLE, Int.reduceLT, Int.reduceToNat, Nat.reduceAdd, Nat.reduceSub, Nat.reduceLeDiff, Nat.reduceEqDiff, Int.reduceNeg, Int.reduceEq, Nat.reduceLT, Nat.reduceMul, compTu, fz_sp, ft, e5, fz_row]
      rw [ttake ht, List.map_append, List.map_append]
      rfl
    · rintro acc _ ⟨rfl, rfl⟩ _
      rw [List.length_map, List.take_length]
      have lC : (ws.map (trW sp)).length ≤ 1000 := by rw [List.length_map]; exact lw
      have ly : A2.length + ws.length ≤ 16777216 := by omega
      have fr : fzL (A2.map rowD ++ (ws.map (trW sp)).map rowD) = true := fzL_app (fz_rows _) (fz_rows _)
      simp -implicitDefEqProofs only [xs1, xs2, xs3, rd, rds, vals, cont, Sl.cont, D.fz, fzL, cmpD, ordD, eqD_int, eqD_in, eqD_ni, eqD_nn, eqD_bb, isD, D.isNon, idx_tup, idx_lst, idx_ro, idx_own, addI, subI, fdivD, modD, negD, truD, bltD, lenD_items, listD, tupleD, absD_int, intD, tyD, D.items, D.isL, mutD, appD, extD, mutArgs, argsOf, argOf, lentS, places, back, backOne, outs, setL, ownAt, parS, lock, unlock, wipeS, putBack, free_zero, free_succ, fst_no, fst_v, rngOf1, rngOf2, srcOf, kit_bb, wp_some, retq_rt, retq_nx, turn_nx, turn_ct, turnp_nx, turnp_ct, turnp_rt, turnp_bk, Option.toList, Int.zero_add, Int.sub_zero, List.getElem?_cons_succ, List.getElem?_cons_zero, List.set_cons_succ, List.set_cons_zero, Option.bind_some, Option.map_some, if_true, if_false, decide_true, decide_false, Bool.false_eq_true, store_zero, store_succ, st_no, st_v, atI_pos, ix50, ix51, ix52, ix53, ix54, ixN_pos, Option.bind_some, List.nodup_nil, List.nodup_cons, List.mem_cons, List.not_mem_nil, or_false, or_true, false_or, not_false_eq_true, not_true, and_self, and_true, true_and, Bool.and_true, Bool.true_and, Bool.and_self, Bool.and_false, Bool.false_and, Bool.not_true, Bool.not_false, List.length_cons, List.length_nil, List.cons_append, List.nil_append, List.replicate, Out.map, List.append_eq, List.all_cons, List.all_nil, decide_not, ne_eq, lim_lit, List.length_map, Int.reduceLE, Int.reduceLT, Int.reduceToNat, Nat.reduceAdd, Nat.reduceSub, Nat.reduceLeDiff, Nat.reduceEqDiff, Int.reduceNeg, Int.reduceEq, Nat.reduceLT, Nat.reduceMul, fz_rows, fz_sp, fz_tr, ly, fr]
      unfold basicR
      rw [hA, hB, List.map_append]
end K22


set_option maxRecDepth 100000
set_option maxHeartbeats 4000000
namespace K22
open PySem Co
theorem lbasic_ok {k n : Nat} {h : Int} {sp : List (Int × Int)} {bs ws : List (Int × Int × Int)} {net : D} (hn : NetD n h sp bs ws net) (hn2 : n ≤ 12) : Wp (fun r => r = (.own ((basicR h n sp bs ws).map rowD), [.no])) (evF T 1000 (k + 1) 23 [.v net]) := by
  obtain ⟨rfl, hl, hp, hbs, hws, lb, lw⟩ := hn
  refine evF_wp T__law_basic rfl ?_
  have e0 : binD .Mult (.int 2) (.int (n : Int)) = some (.int ((2 * n : Nat) : Int)) := by
    have : binD .Mult (.int 2) (.int (n : Int)) = _ := mulD (by omega) (by omega)
    rw [this]
    congr 2
  have r1 : rngOf [.int 1, .int (((2 * n : Nat) : Int) + 1)] = _ := rngOf2 (by omega) (by omega) (by omega) (by omega)
  have hlen : (rngD 1 (((2 * n : Nat) : Int) + 1)).length = 2 * n := by rw [rngd_len]; omega
  simp -implicitDefEqProofs only [xs1, xs2, xs3, rd, rds, vals, cont, Sl.cont, D.fz, fzL, cmpD, ordD, eqD_int, eqD_in, eqD_ni, eqD_nn, eqD_bb, isD, D.isNon, idx_tup, idx_lst, idx_ro, idx_own, addI, subI, fdivD, modD, negD, truD, bltD, lenD_items, listD, tupleD, absD_int, intD, tyD, D.items, D.isL, mutD, appD, extD, mutArgs, argsOf, argOf, lentS, places, back, backOne, outs, setL, ownAt, parS, lock, unlock, wipeS, putBack, free_zero, free_succ, fst_no, fst_v, rngOf1, rngOf2, srcOf, kit_bb, wp_some, retq_rt, retq_nx, turn_nx, turn_ct, turnp_nx, turnp_ct, turnp_rt, turnp_bk, Option.toList, Int.zero_add, Int.sub_zero, List.getElem?_cons_succ, List.getElem?_cons_zero, List.set_cons_succ, List.set_cons_zero, Option.bind_some, Option.map_some, if_true, if_false, decide_true, decide_false, Bool.false_eq_true, store_zero, store_succ, st_no, st_v, atI_pos, ix50, ix51, ix52, ix53, ix54, ixN_pos, Option.bind_some, List.nodup_nil, List.nodup_cons, List.mem_cons, List.not_mem_nil, or_false, or_true, false_or, not_false_eq_true, not_true, and_self, and_true, true_and, Bool.and_true, Bool.true_and, Bool.and_self, Bool.and_false, Bool.false_and, Bool.not_true, Bool.not_false, List.length_cons, List.length_nil, List.cons_append, List.nil_append, List.replicate, Out.map, List.append_eq, List.all_cons, List.all_nil, decide_not, ne_eq, lim_lit, List.length_map, Int.reduceLE, Int.reduceLT, Int.reduceToNat, Nat.reduceAdd, Nat.reduceSub, Nat.reduceLeDiff, Nat.reduceEqDiff, Int.reduceNeg, Int.reduceEq, Nat.reduceLT, Nat.reduceMul, b__law_basic, fz_sp, fz_tr, hl, e0, r1]
  repeat with_reducible refine wp_b ?_
  refine wp_for (fun i ρ => ∃ s3, ρ = [.v (.tup [.str "net", .int h, .tup (sp.map spD), .tup (bs.map trD), .tup (ws.map trD)]), .v (.own ((ptR h i).map rowD)), .v (.int (((2 * n : Nat) : Int) + 1)), s3, .no, .no, .no, .no] ∧ St s3) ?_ ?_ ?_
  · exact ⟨_, rfl, st_no⟩
  · rintro i v _ hi ⟨s3, rfl, h3⟩
    obtain ⟨rfl, hlt⟩ := rngd_get hi
    have l1 : (ptR h i).length < 16777216 := by rw [ptR_len]; omega
    have l2 : (ptR h i).length + 1 < 16777216 := by rw [ptR_len]; omega
    simp -implicitDefEqProofs only [xs1, xs2, xs3, rd, rds, vals, cont, Sl.cont, D.fz, fzL, cmpD, ordD, eqD_int, eqD_in, eqD_ni, eqD_nn, eqD_bb, isD, D.isNon, idx_tup, idx_lst, idx_ro, idx_own, addI, subI, fdivD, modD, negD, truD, bltD, lenD_items, listD, tupleD, absD_int, intD, tyD, D.items, D.isL, mutD, appD, extD, mutArgs, argsOf, argOf, lentS, places, back, backOne, outs, setL, ownAt, parS, lock, unlock, wipeS, putBack, free_zero, free_succ, fst_no, fst_v, rngOf1, rngOf2, srcOf, kit_bb, wp_some, retq_rt, retq_nx, turn_nx, turn_ct, turnp_nx, turnp_ct, turnp_rt, turnp_bk, Option.toList, Int.zero_add, Int.sub_zero, List.getElem?_cons_succ, List.getElem?_cons_zero, List.set_cons_succ, List.set_cons_zero, Option.bind_some, Option.map_some, if_true, if_false, decide_true, decide_false, Bool.false_eq_true, store_zero, store_succ, st_no, st_v, atI_pos, ix50, ix51, ix52, ix53, ix54, ixN_pos, Option.bind_some, List.nodup_nil, List.nodup_cons, List.mem_cons, List.not_mem_nil, or_false, or_true, false_or, not_false_eq_true, not_true, and_self, and_true, true_and, Bool.and_true, Bool.true_and, Bool.and_self, Bool.and_false, Bool.false_and, Bool.not_true, Bool.not_false, List.length_cons, List.length_nil, List.cons_append, List.nil_append, List.replicate, Out.map, List.append_eq, List.all_cons, List.all_nil, decide_not, ne_eq, lim_lit, List.length_map, Int.reduceLE, Int.reduceLT, Int.reduceToNat, Nat.reduceAdd, Nat.reduceSub, Nat.reduceLeDiff, Nat.reduceEqDiff, Int.reduceNeg, Int.reduceEq, Nat.reduceLT, Nat.reduceMul, forTu, h3, l1, l2, List.length_append, fz_sp, fz_tr]
    exact ⟨_, by rw [ptR_succ], st_v⟩
  · rintro _ ⟨s3, rfl, h3⟩
    rw [hlen]
    have r2 : rngOf [.int (n : Int)] = _ := rngOf1 (by omega) (by omega)
    simp -implicitDefEqProofs only [xs1, xs2, xs3, rd, rds, vals, cont, Sl.cont, D.fz, fzL, cmpD, ordD, eqD_int, eqD_in, eqD_ni, eqD_nn, eqD_bb, isD, D.isNon, idx_tup, idx_lst, idx_ro, idx_own, addI, subI, fdivD, modD, negD, truD, bltD, lenD_items, listD, tupleD, absD_int, intD, tyD, D.items, D.isL, mutD, appD, extD, mutArgs, argsOf, argOf, lentS, places, back, backOne, outs, setL, ownAt, parS, lock, unlock, wipeS, putBack, free_zero, free_succ, fst_no, fst_v, rngOf1, rngOf2, srcOf, kit_bb, wp_some, retq_rt, retq_nx, turn_nx, turn_ct, turnp_nx, turnp_ct, turnp_rt, turnp_bk, Option.toList, Int.zero_add, Int.sub_zero, List.getElem?_cons_succ, List.getElem?_cons_zero, List.set_cons_succ, List.set_cons_zero, Option.bind_some, Option.map_some, if_true, if_false, decide_true, decide_false, Bool.false_eq_true, store_zero, store_succ, st_no, st_v, atI_pos, ix50, ix51, ix52, ix53, ix54, ixN_pos, Option.bind_some, List.nodup_nil, List.nodup_cons, List.mem_cons, List.not_mem_nil, or_false, or_true, false_or, not_false_eq_true, not_true, and_self, and_true, true_and, Bool.and_true, Bool.true_and, Bool.and_self, Bool.and_false, Bool.false_and, Bool.not_true, Bool.not_false, List.length_cons, List.length_nil, List.cons_append, List.nil_append, List.replicate, Out.map, List.append_eq, List.all_cons, List.all_nil, decide_not, ne_eq, lim_lit, List.length_map, Int.reduceLE, Int.reduceLT, Int.reduceToNat, Nat.reduceAdd, Nat.reduceSub, Nat.reduceLeDiff, Nat.reduceEqDiff, Int.reduceNeg, Int.reduceEq, Nat.reduceLT, Nat.reduceMul, fz_sp, fz_tr, hl, r2]
    repeat with_reducible refine wp_b ?_
    have hl2 : (rngD 0 (n : Int)).length = n := by rw [rngd_len]; omega
    have lp := ptR_len h (2 * n)
    generalize hA : ptR h (2 * n) = A at lp
    refine wp_for (fun i ρ => ∃ s4, ρ = [.v (.tup [.str "net", .int h, .tup (sp.map spD), .tup (bs.map trD), .tup (ws.map trD)]), .v (.own (A.map rowD ++ (spR sp i).map rowD)), .v (.int (((2 * n : Nat) : Int) + 1)), s3, s4, .no, .no, .no] ∧ St s4) ?_ ?_ ?_
    · exact ⟨_, by simp [spR], st_no⟩
    · rintro i v _ hi ⟨s4, rfl, h4⟩
      obtain ⟨rfl, hlt⟩ := rngd_get hi
      have l1 : A.length + (spR sp i).length < 16777216 := by rw [spR_len]; omega
      have l2 : A.length + (spR sp i).length + 1 < 16777216 := by rw [spR_len]; omega
      have e1 : binD .Mult (.int 2) (.int (i : Int)) = _ := mulD (by omega) (by omega)
      have j0 : (0 : Int) ≤ (i : Int) := by omega
      have gs : (sp.map spD)[(i : Int).toNat]? = _ := get_lo j0 (by omega)
      have gs' : (sp.map spD)[i]? = some (.tup [.int (lo sp i), .int (K22.hi sp i)]) := gs
      simp -implicitDefEqProofs only [xs1, xs2, xs3, rd, rds, vals, cont, Sl.cont, D.fz, fzL, cmpD, ordD, eqD_int, eqD_in, eqD_ni, eqD_nn, eqD_bb, isD, D.isNon, idx_tup, idx_lst, idx_ro, idx_own, addI, subI, fdivD, modD, negD, truD, bltD, lenD_items, listD, tupleD, absD_int, intD, tyD, D.items, D.isL, mutD, appD, extD, mutArgs, argsOf, argOf, lentS, places, back, backOne, outs, setL, ownAt, parS, lock, unlock, wipeS, putBack, free_zero, free_succ, fst_no, fst_v, rngOf1, rngOf2, srcOf, kit_bb, wp_some, retq_rt, retq_nx, turn_nx, turn_ct, turnp_nx, turnp_ct, turnp_rt, turnp_bk, Option.toList, Int.zero_add, Int.sub_zero, List.getElem?_cons_succ, List.getElem?_cons_zero, List.set_cons_succ, List.set_cons_zero, Option.bind_some, Option.map_some, if_true, if_false, decide_true, decide_false, Bool.false_eq_true, store_zero, store_succ, st_no, st_v, atI_pos, ix50, ix51, ix52, ix53, ix54, ixN_pos, Option.bind_some, List.nodup_nil, List.nodup_cons, List.mem_cons, List.not_mem_nil, or_false, or_true, false_or, not_false_eq_true, not_true, and_self, and_true, true_and, Bool.and_true, Bool.true_and, Bool.and_self, Bool.and_false, Bool.false_and, Bool.not_true, Bool.not_false, List.length_cons, List.length_nil, List.cons_append, List.nil_append, List.replicate, Out.map, List.append_eq, List.all_cons, List.all_nil, decide_not, ne_eq, lim_lit, List.length_map, Int.reduceLE, Int.reduceLT, Int.reduceToNat, Nat.reduceAdd, Nat.reduceSub, Nat.reduceLeDiff, Nat.reduceEqDiff, Int.reduceNeg, Int.reduceEq, Nat.reduceLT, Nat.reduceMul, forTu, h4, l1, l2, e1, j0, gs, gs', List.length_append, fz_sp, fz_tr, Int.toNat_natCast]
      exact ⟨_, by rw [spR_succ, List.append_assoc, List.append_assoc, List.append_assoc], st_v⟩
    · rintro _ ⟨s4, rfl, h4⟩
      rw [hl2]
      have lq : (A.map rowD ++ (spR sp n).map rowD).length ≤ 100 := by rw [List.length_append, List.length_map, List.length_map, spR_len]; omega
      have eQ : (basicR h n sp bs ws).map rowD = (A.map rowD ++ (spR sp n).map rowD) ++ (bdR bs).map rowD ++ (ws.map (trW sp)).map rowD := by unfold basicR; rw [hA, List.map_append, List.map_append, List.map_append]
      generalize A.map rowD ++ (spR sp n).map rowD = B at lq eQ
      simp -implicitDefEqProofs only [xs1, xs2, xs3, rd, rds, vals, cont, Sl.cont, D.fz, fzL, cmpD, ordD, eqD_int, eqD_in, eqD_ni, eqD_nn, eqD_bb, isD, D.isNon, idx_tup, idx_lst, idx_ro, idx_own, addI, subI, fdivD, modD, negD, truD, bltD, lenD_items, listD, tupleD, absD_int, intD, tyD, D.items, D.isL, mutD, appD, extD, mutArgs, argsOf, argOf, lentS, places, back, backOne, outs, setL, ownAt, parS, lock, unlock, wipeS, putBack, free_zero, free_succ, fst_no, fst_v, rngOf1, rngOf2, srcOf, kit_bb, wp_some, retq_rt, retq_nx, turn_nx, turn_ct, turnp_nx, turnp_ct, turnp_rt, turnp_bk, Option.toList, Int.zero_add, Int.sub_zero, List.getElem?_cons_succ, List.getElem?_cons_zero, List.set_cons_succ, List.set_cons_zero, Option.bind_some, Option.map_some, if_true, if_false, decide_true, decide_false, Bool.false_eq_true, store_zero, store_succ, st_no, st_v, atI_pos, ix50, ix51, ix52, ix53, ix54, ixN_pos, Option.bind_some, List.nodup_nil, List.nodup_cons, List.mem_cons, List.not_mem_nil, or_false, or_true, false_or, not_false_eq_true, not_true, and_self, and_true, true_and, Bool.and_true, Bool.true_and, Bool.and_self, Bool.and_false, Bool.false_and, Bool.not_true, Bool.not_false, List.length_cons, List.length_nil, List.cons_append, List.nil_append, List.replicate, Out.map, List.append_eq, List.all_cons, List.all_nil, decide_not, ne_eq, lim_lit, List.length_map, Int.reduceLE, Int.reduceLT, Int.reduceToNat, Nat.reduceAdd, Nat.reduceSub, Nat.reduceLeDiff, Nat.reduceEqDiff, Int.reduceNeg, Int.reduceEq, Nat.reduceLT, Nat.reduceMul, fz_sp, fz_tr]
      repeat with_reducible refine wp_b ?_
      refine wp_for (fun i ρ => ∃ s5, ρ = [.v (.tup [.str "net", .int h, .tup (sp.map spD), .tup (bs.map trD), .tup (ws.map trD)]), .v (.own (B ++ (bdR (bs.take i)).map rowD)), .v (.int (((2 * n : Nat) : Int) + 1)), s3, s4, s5, .no, .no] ∧ St s5) ?_ ?_ ?_
      · exact ⟨_, by simp [bdR], st_no⟩
      · rintro i v _ hi ⟨s5, rfl, h5⟩
        obtain ⟨t, ht, rfl⟩ := tr_get hi
        have hi2 := (List.getElem?_eq_some_iff.mp ht).1
        obtain ⟨a, b, w⟩ := t
        have l1 : B.length + (bdR (bs.take i)).length < 16777216 := by unfold bdR; rw [List.length_map, List.length_take]; omega
        simp -implicitDefEqProofs only [xs1, xs2, xs3, rd, rds, vals, cont, Sl.cont, D.fz, fzL, cmpD, ordD, eqD_int, eqD_in, eqD_ni, eqD_nn, eqD_bb, isD, D.isNon, idx_tup, idx_lst, idx_ro, idx_own, addI, subI, fdivD, modD, negD, truD, bltD, lenD_items, listD, tupleD, absD_int, intD, tyD, D.items, D.isL, mutD, appD, extD, mutArgs, argsOf, argOf, lentS, places, back, backOne, outs, setL, ownAt, parS, lock, unlock, wipeS, putBack, free_zero, free_succ, fst_no, fst_v, rngOf1, rngOf2, srcOf, kit_bb, wp_some, retq_rt, retq_nx, turn_nx, turn_ct, turnp_nx, turnp_ct, turnp_rt, turnp_bk, Option.toList, Int.zero_add, Int.sub_zero, List.getElem?_cons_succ, List.getElem?_cons_zero, List.set_cons_succ, List.set_cons_zero, Option.bind_some, Option.map_some, if_true, if_false, decide_true, decide_false, Bool.false_eq_true, store_zero, store_succ, st_no, st_v, atI_pos, ix50, ix51, ix52, ix53, ix54, ixN_pos, Option.bind_some, List.nodup_nil, List.nodup_cons, List.mem_cons, List.not_mem_nil, or_false, or_true, false_or, not_false_eq_true, not_true, and_self, and_true, true_and, Bool.and_true, Bool.true_and, Bool.and_self, Bool.and_false, Bool.false_and, Bool.not_true, Bool.not_false, List.length_cons, List.length_nil, List.cons_append, List.nil_append, List.replicate, Out.map, List.append_eq, List.all_cons, List.all_nil, decide_not, ne_eq, lim_lit, List.length_map, Int.reduceLE, Int.reduceLT, Int.reduceToNat, Nat.reduceAdd, Nat.reduceSub, Nat.reduceLeDiff, Nat.reduceEqDiff, Int.reduceNeg, Int.reduceEq, Nat.reduceLT, Nat.reduceMul, forTu, h5, trD, l1, List.length_append]
        refine ⟨.v (.tup [.int a, .int b, .int w]), ?_, st_v⟩
        rw [ttake ht]
        unfold bdR
        rw [List.map_append, List.map_append, ← List.append_assoc]
        rfl
      · rintro _ ⟨s5, rfl, h5⟩
        rw [List.length_map, List.take_length]
        have lq2 : (B ++ (bdR bs).map rowD).length ≤ 1200 := by rw [List.length_append]; unfold bdR; rw [List.length_map, List.length_map]; omega
        generalize B ++ (bdR bs).map rowD = B2 at lq2 eQ
        simp -implicitDefEqProofs only [xs1, xs2, xs3, rd, rds, vals, cont, Sl.cont, D.fz, fzL, cmpD, ordD, eqD_int, eqD_in, eqD_ni, eqD_nn, eqD_bb, isD, D.isNon, idx_tup, idx_lst, idx_ro, idx_own, addI, subI, fdivD, modD, negD, truD, bltD, lenD_items, listD, tupleD, absD_int, intD, tyD, D.items, D.isL, mutD, appD, extD, mutArgs, argsOf, argOf, lentS, places, back, backOne, outs, setL, ownAt, parS, lock, unlock, wipeS, putBack, free_zero, free_succ, fst_no, fst_v, rngOf1, rngOf2, srcOf, kit_bb, wp_some, retq_rt, retq_nx, turn_nx, turn_ct, turnp_nx, turnp_ct, turnp_rt, turnp_bk, Option.toList, Int.zero_add, Int.sub_zero, List.getElem?_cons_succ, List.getElem?_cons_zero, List.set_cons_succ, List.set_cons_zero, Option.bind_some, Option.map_some, if_true, if_false, decide_true, decide_false, Bool.false_eq_true, store_zero, store_succ, st_no, st_v, atI_pos, ix50, ix51, ix52, ix53, ix54, ixN_pos, Option.bind_some, List.nodup_nil, List.nodup_cons, List.mem_cons, List.not_mem_nil, or_false, or_true, false_or, not_false_eq_true, not_true, and_self, and_true, true_and, Bool.and_true, Bool.true_and, Bool.and_self, Bool.and_false, Bool.false_and, Bool.not_true, Bool.not_false, List.length_cons, List.length_nil, List.cons_append, List.nil_append, List.replicate, Out.map, List.append_eq, List.all_cons, List.all_nil, decide_not, ne_eq, lim_lit, List.length_map, Int.reduceLE, Int.reduceLT, Int.reduceToNat, Nat.reduceAdd, Nat.reduceSub, Nat.reduceLeDiff, Nat.reduceEqDiff, Int.reduceNeg, Int.reduceEq, Nat.reduceLT, Nat.reduceMul, fz_sp, fz_tr]
        repeat with_reducible refine wp_b ?_
        refine wp_for (fun i ρ => ∃ s6 s7, ρ = [.v (.tup [.str "net", .int h, .tup (sp.map spD), .tup (bs.map trD), .tup (ws.map trD)]), .v (.own (B2 ++ ((ws.take i).map (trW sp)).map rowD)), .v (.int (((2 * n : Nat) : Int) + 1)), s3, s4, s5, s6, s7] ∧ St s6 ∧ St s7) ?_ ?_ ?_
        · exact ⟨_, _, by simp, st_no, st_no⟩
        · rintro i v _ hix ⟨s6, s7, rfl, h6, h7⟩
          obtain ⟨t, ht, rfl⟩ := tr_get hix
          have hi2 := (List.getElem?_eq_some_iff.mp ht).1
          obtain ⟨_, _, w0, w1, _, _⟩ := hws t (List.mem_of_getElem? ht)
          obtain ⟨p, u, m⟩ := t
          simp only at w0 w1
          have l1 : B2.length + ((ws.take i).map (trW sp)).length < 16777216 := by rw [List.length_map, List.length_take]; omega
          have l2 : B2.length + min i ws.length < 16777216 := by omega
          have e1 : binD .Mult (.int 2) (.int u) = _ := mulD (by omega) (by omega)
          have gs : (sp.map spD)[u.toNat]? = _ := get_lo w0 (by omega)
          have eT : ((ws.take (i + 1)).map (trW sp)).map rowD = ((ws.take i).map (trW sp)).map rowD ++ [rowD (trW sp (p, u, m))] := by
            rw [ttake ht, List.map_append, List.map_append]
            rfl
          by_cases hc : hi sp u < m
          · have em : minD [.int m, .int (hi sp u)] = some (.int (hi sp u)) := by show some (D.int (if hi sp u < m then _ else _)) = _; rw [if_pos hc]
            have eR : rowD (trW sp (p, u, m)) = .tup [.int p, .int (2 * u + 1), .int (-hi sp u), .int u] := by unfold rowD trW; simp only [hc, if_true]; rfl
            rw [eT, eR]
            simp -implicitDefEqProofs only [xs1, xs2, xs3, rd, rds, vals, cont, Sl.cont, D.fz, fzL, cmpD, ordD, eqD_int, eqD_in, eqD_ni, eqD_nn, eqD_bb, isD, D.isNon, idx_tup, idx_lst, idx_ro, idx_own, addI, subI, fdivD, modD, negD, truD, bltD, lenD_items, listD, tupleD, absD_int, intD, tyD, D.items, D.isL, mutD, appD, extD, mutArgs, argsOf, argOf, lentS, places, back, backOne, outs, setL, ownAt, parS, lock, unlock, wipeS, putBack, free_zero, free_succ, fst_no, fst_v, rngOf1, rngOf2, srcOf, kit_bb, wp_some, retq_rt, retq_nx, turn_nx, turn_ct, turnp_nx, turnp_ct, turnp_rt, turnp_bk, Option.toList, Int.zero_add, Int.sub_zero, List.getElem?_cons_succ, List.getElem?_cons_zero, List.set_cons_succ, List.set_cons_zero, Option.bind_some, Option.map_some, if_true, if_false, decide_true, decide_false, Bool.false_eq_true, store_zero, store_succ, st_no, st_v, atI_pos, ix50, ix51, ix52, ix53, ix54, ixN_pos, Option.bind_some, List.nodup_nil, List.nodup_cons, List.mem_cons, List.not_mem_nil, or_false, or_true, false_or, not_false_eq_true, not_true, and_self, and_true, true_and, Bool.and_true, Bool.true_and, Bool.and_self, Bool.and_false, Bool.false_and, Bool.not_true, Bool.not_false, List.length_cons, List.length_nil, List.cons_append, List.nil_append, List.replicate, Out.map, List.append_eq, List.all_cons, List.all_nil, decide_not, ne_eq, lim_lit, List.length_map, Int.reduceLE, Int.reduceLT, Int.reduceToNat, Nat.reduceAdd, Nat.reduceSub, Nat.reduceLeDiff, Nat.reduceEqDiff, Int.reduceNeg, Int.reduceEq, Nat.reduceLT, Nat.reduceMul, forTu, h6, h7, trD, l1, l2, e1, gs, w0, em, List.length_append, fz_sp, fz_tr, List.length_take]
            exact ⟨_, _, by rw [List.append_assoc], st_v, st_v⟩
          · have em : minD [.int m, .int (hi sp u)] = some (.int m) := by show some (D.int (if hi sp u < m then _ else _)) = _; rw [if_neg hc]
            have eR : rowD (trW sp (p, u, m)) = .tup [.int p, .int (2 * u + 1), .int (-m), .int u] := by unfold rowD trW; simp only [hc, if_false]; rfl
            rw [eT, eR]
            simp -implicitDefEqProofs only [xs1, xs2, xs3, rd, rds, vals, cont, Sl.cont, D.fz, fzL, cmpD, ordD, eqD_int, eqD_in, eqD_ni, eqD_nn, eqD_bb, isD, D.isNon, idx_tup, idx_lst, idx_ro, idx_own, addI, subI, fdivD, modD, negD, truD, bltD, lenD_items, listD, tupleD, absD_int, intD, tyD, D.items, D.isL, mutD, appD, extD, mutArgs, argsOf, argOf, lentS, places, back, backOne, outs, setL, ownAt, parS, lock, unlock, wipeS, putBack, free_zero, free_succ, fst_no, fst_v, rngOf1, rngOf2, srcOf, kit_bb, wp_some, retq_rt, retq_nx, turn_nx, turn_ct, turnp_nx, turnp_ct, turnp_rt, turnp_bk, Option.toList, Int.zero_add, Int.sub_zero, List.getElem?_cons_succ, List.getElem?_cons_zero, List.set_cons_succ, List.set_cons_zero, Option.bind_some, Option.map_some, if_true, if_false, decide_true, decide_false, Bool.false_eq_true, store_zero, store_succ, st_no, st_v, atI_pos, ix50, ix51, ix52, ix53, ix54, ixN_pos, Option.bind_some, List.nodup_nil, List.nodup_cons, List.mem_cons, List.not_mem_nil, or_false, or_true, false_or, not_false_eq_true, not_true, and_self, and_true, true_and, Bool.and_true, Bool.true_and, Bool.and_self, Bool.and_false, Bool.false_and, Bool.not_true, Bool.not_false, List.length_cons, List.length_nil, List.cons_append, List.nil_append, List.replicate, Out.map, List.append_eq, List.all_cons, List.all_nil, decide_not, ne_eq, lim_lit, List.length_map, Int.reduceLE, Int.reduceLT, Int.reduceToNat, Nat.reduceAdd, Nat.reduceSub, Nat.reduceLeDiff, Nat.reduceEqDiff, Int.reduceNeg, Int.reduceEq, Nat.reduceLT, Nat.reduceMul, forTu, h6, h7, trD, l1, l2, e1, gs, w0, em, List.length_append, fz_sp, fz_tr, List.length_take]
            exact ⟨_, _, by rw [List.append_assoc], st_v, st_v⟩
        · rintro _ ⟨s6, s7, rfl, h6, h7⟩
          rw [List.length_map, List.take_length]
          simp -implicitDefEqProofs only [xs1, xs2, xs3, rd, rds, vals, cont, Sl.cont, D.fz, fzL, cmpD, ordD, eqD_int, eqD_in, eqD_ni, eqD_nn, eqD_bb, isD, D.isNon, idx_tup, idx_lst, idx_ro, idx_own, addI, subI, fdivD, modD, negD, truD, bltD, lenD_items, listD, tupleD, absD_int, intD, tyD, D.items, D.isL, mutD, appD, extD, mutArgs, argsOf, argOf, lentS, places, back, backOne, outs, setL, ownAt, parS, lock, unlock, wipeS, putBack, free_zero, free_succ, fst_no, fst_v, rngOf1, rngOf2, srcOf, kit_bb, wp_some, retq_rt, retq_nx, turn_nx, turn_ct, turnp_nx, turnp_ct, turnp_rt, turnp_bk, Option.toList, Int.zero_add, Int.sub_zero, List.getElem?_cons_succ, List.getElem?_cons_zero, List.set_cons_succ, List.set_cons_zero, Option.bind_some, Option.map_some, if_true, if_false, decide_true, decide_false, Bool.false_eq_true, store_zero, store_succ, st_no, st_v, atI_pos, ix50, ix51, ix52, ix53, ix54, ixN_pos, Option.bind_some, List.nodup_nil, List.nodup_cons, List.mem_cons, List.not_mem_nil, or_false, or_true, false_or, not_false_eq_true, not_true, and_self, and_true, true_and, Bool.and_true, Bool.true_and, Bool.and_self, Bool.and_false, Bool.false_and, Bool.not_true, Bool.not_false, List.length_cons, List.length_nil, List.cons_append, List.nil_append, List.replicate, Out.map, List.append_eq, List.all_cons, List.all_nil, decide_not, ne_eq, lim_lit, List.length_map, Int.reduceLE, Int.reduceLT, Int.reduceToNat, Nat.reduceAdd, Nat.reduceSub, Nat.reduceLeDiff, Nat.reduceEqDiff, Int.reduceNeg, Int.reduceEq, Nat.reduceLT, Nat.reduceMul]
          rw [eQ]
end K22


set_option maxRecDepth 100000
set_option maxHeartbeats 4000000
namespace K22
open PySem Co
theorem wp_eq {α : Type} {o : Option α} {x : α} : Wp (fun r => r = x) o ↔ o = some x := ⟨fun ⟨y, e, h⟩ => by rw [e, h], fun h => ⟨x, h, rfl⟩⟩
section
variable {n : Nat} {h : Int} {sp : List (Int × Int)} {bs ws : List (Int × Int × Int)} {net : D}
theorem NetD.fz (hn : NetD n h sp bs ws net) : net.fz = true := by rw [hn.eq]; simp only [D.fz, fzL, fz_sp, fz_tr, Bool.and_true]
theorem NetD.i1 (hn : NetD n h sp bs ws net) : idxD net (.int 1) = some (.int h) := by rw [hn.eq]; rfl
theorem NetD.i2 (hn : NetD n h sp bs ws net) : idxD net (.int 2) = some (.tup (sp.map spD)) := by rw [hn.eq]; show (if fzL _ = true then _ else _) = _; rw [if_pos (fz_sp _)]
theorem NetD.i3 (hn : NetD n h sp bs ws net) : idxD net (.int 3) = some (.tup (bs.map trD)) := by rw [hn.eq]; show (if fzL _ = true then _ else _) = _; rw [if_pos (fz_tr _)]
theorem NetD.i4 (hn : NetD n h sp bs ws net) : idxD net (.int 4) = some (.tup (ws.map trD)) := by rw [hn.eq]; show (if fzL _ = true then _ else _) = _; rw [if_pos (fz_tr _)]
end
theorem get_lo2 {sp : List (Int × Int)} {w : Int} (h0 : 0 ≤ w) (h : w < sp.length) : idxD (.tup (sp.map spD)) (.int w) = some (.tup [.int (lo sp w), .int (hi sp w)]) := by
  rw [idx_tup, atI_pos h0, get_lo h0 h]
  rfl
theorem tr1 : ((1 : Int) != 0) = true := rfl
theorem tr0 : ((0 : Int) != 0) = false := rfl
theorem and1 {i : Int} : binD .BitAnd (.int i) (.int 1) = some (.int (i % 2)) := by
  show some (D.int (Builtin.bitAnd i 1)) = _
  rw [show (1 : Int) = 2 ^ 1 - 1 from rfl, PySem.W.kbt_mask]
  rfl
theorem shr1 {i : Int} : binD .RShift (.int i) (.int 1) = some (.int (i / 2)) := by
  show (if (0 : Int) ≤ 1 then some (D.int (i / 2 ^ (1 : Int).toNat)) else none) = _
  rw [if_pos (by decide)]
  rfl
def anc (p : Int) : Int := if p = 0 then 0 else 2 * ((p - 1) / 2) + 1
/-- a point is the end of a work -/
def isE (p : Int) : Bool := decide (0 < p ∧ p % 2 = 0)
def dW (sp : List (Int × Int)) (r : Row) : Int := r.w + (if isE r.a then lo sp ((r.a - 1) / 2) else 0) - (if isE r.b then hi sp ((r.b - 1) / 2) else 0)
def dem (sp : List (Int × Int)) (r : Row) : Int × Int × Int := (anc r.a, anc r.b, dW sp r)
structure RowP (n : Nat) (r : Row) : Prop where
  a0 : 0 ≤ r.a
  a1 : r.a ≤ 2 * n
  b0 : 0 ≤ r.b
  b1 : r.b ≤ 2 * n
section
variable {k n : Nat} {h : Int} {sp : List (Int × Int)} {bs ws : List (Int × Int × Int)} {net : D}
theorem isend_eq {p : Int} : evF T 1000 (k + 1) 8 [.v (.int p)] = some (.bl (isE p), [.no]) := by
  refine wp_eq.mp (evF_wp T_is_end rfl ?_)
  unfold isE
  by_cases h1 : 0 < p
  · by_cases h2 : p % 2 = 0
    · rw [decide_eq_true ⟨h1, h2⟩]
      simp -implicitDefEqProofs (disch := first | assumption | exact st_no | exact st_v | exact fst_no | omega) only [xs1, xs2, xs3, rd, rds, vals, cont, Sl.cont, D.fz, fzL, cmpD, ordD, eqD_int, eqD_in, eqD_ni, eqD_nn, eqD_bb, isD, D.isNon, idx_tup, idx_lst, idx_ro, idx_own, addI, subI, fdivD, modD, negD, truD, bltD, lenD_items, listD, tupleD, absD_int, intD, tyD, D.items, D.isL, mutD, appD, extD, mutArgs, argsOf, argOf, lentS, places, back, backOne, outs, setL, ownAt, parS, lock, unlock, wipeS, putBack, free_zero, free_succ, fst_no, fst_v, rngOf1, rngOf2, srcOf, kit_bb, wp_some, retq_rt, retq_nx, turn_nx, turn_ct, turnp_nx, turnp_ct, turnp_rt, turnp_bk, Option.toList, Int.zero_add, Int.sub_zero, List.getElem?_cons_succ, List.getElem?_cons_zero, List.set_cons_succ, List.set_cons_zero, Option.bind_some, Option.map_some, if_true, if_false, decide_true, decide_false, Bool.false_eq_true, store_zero, store_succ, st_no, st_v, atI_pos, ix50, ix51, ix52, ix53, ix54, ixN_pos, Option.bind_some, List.nodup_nil, List.nodup_cons, List.mem_cons, List.not_mem_nil, or_false, or_true, false_or, not_false_eq_true, not_true, and_self, and_true, true_and, Bool.and_true, Bool.true_and, Bool.and_self, Bool.and_false, Bool.false_and, Bool.not_true, Bool.not_false, List.length_cons, List.length_nil, List.cons_append, List.nil_append, List.replicate, Out.map, List.append_eq, List.all_cons, List.all_nil, decide_not, ne_eq, lim_lit, List.length_map, Int.reduceLE, Int.reduceLT, Int.reduceToNat, Nat.reduceAdd, Nat.reduceSub, Nat.reduceLeDiff, Nat.reduceEqDiff, Int.reduceNeg, Int.reduceEq, Nat.reduceLT, Nat.reduceMul, mulI, fdivI, rngI1, rngI2, Int.cast_ofNat_Int, Int.toNat_natCast, Option.bind_none, Option.map_none, Int.reduceAdd, Int.reduceSub, b_is_end, h1, h2]
    · rw [decide_eq_false fun e => h2 e.2]
      simp -implicitDefEqProofs (disch := first | assumption | exact st_no | exact st_v | exact fst_no | omega) only [xs1, xs2, xs3, rd, rds, vals, cont, Sl.cont, D.fz, fzL, cmpD, ordD, eqD_int, eqD_in, eqD_ni, eqD_nn, eqD_bb, isD, D.isNon, idx_tup, idx_lst, idx_ro, idx_own, addI, subI, fdivD, modD, negD, truD, bltD, lenD_items, listD, tupleD, absD_int, intD, tyD, D.items, D.isL, mutD, appD, extD, mutArgs, argsOf, argOf, lentS, places, back, backOne, outs, setL, ownAt, parS, lock, unlock, wipeS, putBack, free_zero, free_succ, fst_no, fst_v, rngOf1, rngOf2, srcOf, kit_bb, wp_some, retq_rt, retq_nx, turn_nx, turn_ct, turnp_nx, turnp_ct, turnp_rt, turnp_bk, Option.toList, Int.zero_add, Int.sub_zero, List.getElem?_cons_succ, List.getElem?_cons_zero, List.set_cons_succ, List.set_cons_zero, Option.bind_some, Option.map_some, if_true, if_false, decide_true, decide_false, Bool.false_eq_true, store_zero, store_succ, st_no, st_v, atI_pos, ix50, ix51, ix52, ix53, ix54, ixN_pos, Option.bind_some, List.nodup_nil, List.nodup_cons, List.mem_cons, List.not_mem_nil, or_false, or_true, false_or, not_false_eq_true, not_true, and_self, and_true, true_and, Bool.and_true, Bool.true_and, Bool.and_self, Bool.and_false, Bool.false_and, Bool.not_true, Bool.not_false, List.length_cons, List.length_nil, List.cons_append, List.nil_append, List.replicate, Out.map, List.append_eq, List.all_cons, List.all_nil, decide_not, ne_eq, lim_lit, List.length_map, Int.reduceLE, Int.reduceLT, Int.reduceToNat, Nat.reduceAdd, Nat.reduceSub, Nat.reduceLeDiff, Nat.reduceEqDiff, Int.reduceNeg, Int.reduceEq, Nat.reduceLT, Nat.reduceMul, mulI, fdivI, rngI1, rngI2, Int.cast_ofNat_Int, Int.toNat_natCast, Option.bind_none, Option.map_none, Int.reduceAdd, Int.reduceSub, b_is_end, h1, h2]
  · rw [decide_eq_false fun e => h1 e.1]
    simp -implicitDefEqProofs (disch := first | assumption | exact st_no | exact st_v | exact fst_no | omega) only [xs1, xs2, xs3, rd, rds, vals, cont, Sl.cont, D.fz, fzL, cmpD, ordD, eqD_int, eqD_in, eqD_ni, eqD_nn, eqD_bb, isD, D.isNon, idx_tup, idx_lst, idx_ro, idx_own, addI, subI, fdivD, modD, negD, truD, bltD, lenD_items, listD, tupleD, absD_int, intD, tyD, D.items, D.isL, mutD, appD, extD, mutArgs, argsOf, argOf, lentS, places, back, backOne, outs, setL, ownAt, parS, lock, unlock, wipeS, putBack, free_zero, free_succ, fst_no, fst_v, rngOf1, rngOf2, srcOf, kit_bb, wp_some, retq_rt, retq_nx, turn_nx, turn_ct, turnp_nx, turnp_ct, turnp_rt, turnp_bk, Option.toList, Int.zero_add, Int.sub_zero, List.getElem?_cons_succ, List.getElem?_cons_zero, List.set_cons_succ, List.set_cons_zero, Option.bind_some, Option.map_some, if_true, if_false, decide_true, decide_false, Bool.false_eq_true, store_zero, store_succ, st_no, st_v, atI_pos, ix50, ix51, ix52, ix53, ix54, ixN_pos, Option.bind_some, List.nodup_nil, List.nodup_cons, List.mem_cons, List.not_mem_nil, or_false, or_true, false_or, not_false_eq_true, not_true, and_self, and_true, true_and, Bool.and_true, Bool.true_and, Bool.and_self, Bool.and_false, Bool.false_and, Bool.not_true, Bool.not_false, List.length_cons, List.length_nil, List.cons_append, List.nil_append, List.replicate, Out.map, List.append_eq, List.all_cons, List.all_nil, decide_not, ne_eq, lim_lit, List.length_map, Int.reduceLE, Int.reduceLT, Int.reduceToNat, Nat.reduceAdd, Nat.reduceSub, Nat.reduceLeDiff, Nat.reduceEqDiff, Int.reduceNeg, Int.reduceEq, Nat.reduceLT, Nat.reduceMul, mulI, fdivI, rngI1, rngI2, Int.cast_ofNat_Int, Int.toNat_natCast, Option.bind_none, Option.map_none, Int.reduceAdd, Int.reduceSub, b_is_end, h1]
theorem anchor_eq {p : Int} (h : p.natAbs < 1000) : evF T 1000 (k + 2) 9 [.v (.int p)] = some (.int (anc p), [.no]) := by
  refine wp_eq.mp (evF_wp T_anchor_of rfl ?_)
  unfold anc
  by_cases h1 : p = 0
  · subst h1
    simp -implicitDefEqProofs (disch := first | assumption | exact st_no | exact st_v | exact fst_no | omega) only [xs1, xs2, xs3, rd, rds, vals, cont, Sl.cont, D.fz, fzL, cmpD, ordD, eqD_int, eqD_in, eqD_ni, eqD_nn, eqD_bb, isD, D.isNon, idx_tup, idx_lst, idx_ro, idx_own, addI, subI, fdivD, modD, negD, truD, bltD, lenD_items, listD, tupleD, absD_int, intD, tyD, D.items, D.isL, mutD, appD, extD, mutArgs, argsOf, argOf, lentS, places, back, backOne, outs, setL, ownAt, parS, lock, unlock, wipeS, putBack, free_zero, free_succ, fst_no, fst_v, rngOf1, rngOf2, srcOf, kit_bb, wp_some, retq_rt, retq_nx, turn_nx, turn_ct, turnp_nx, turnp_ct, turnp_rt, turnp_bk, Option.toList, Int.zero_add, Int.sub_zero, List.getElem?_cons_succ, List.getElem?_cons_zero, List.set_cons_succ, List.set_cons_zero, Option.bind_some, Option.map_some, if_true, if_false, decide_true, decide_false, Bool.false_eq_true, store_zero, store_succ, st_no, st_v, atI_pos, ix50, ix51, ix52, ix53, ix54, ixN_pos, Option.bind_some, List.nodup_nil, List.nodup_cons, List.mem_cons, List.not_mem_nil, or_false, or_true, false_or, not_false_eq_true, not_true, and_self, and_true, true_and, Bool.and_true, Bool.true_and, Bool.and_self, Bool.and_false, Bool.false_and, Bool.not_true, Bool.not_false, List.length_cons, List.length_nil, List.cons_append, List.nil_append, List.replicate, Out.map, List.append_eq, List.all_cons, List.all_nil, decide_not, ne_eq, lim_lit, List.length_map, Int.reduceLE, Int.reduceLT, Int.reduceToNat, Nat.reduceAdd, Nat.reduceSub, Nat.reduceLeDiff, Nat.reduceEqDiff, Int.reduceNeg, Int.reduceEq, Nat.reduceLT, Nat.reduceMul, mulI, fdivI, rngI1, rngI2, Int.cast_ofNat_Int, Int.toNat_natCast, Option.bind_none, Option.map_none, Int.reduceAdd, Int.reduceSub, b_anchor_of]
  · obtain ⟨_, e1, rfl⟩ := workof_ok (k := k) (p := p)
    obtain ⟨_, e2, rfl⟩ := start_ok (k := k) (w := (p - 1) / 2) (by omega)
    rw [if_neg h1]
    simp -implicitDefEqProofs (disch := first | assumption | exact st_no | exact st_v | exact fst_no | omega) only [xs1, xs2, xs3, rd, rds, vals, cont, Sl.cont, D.fz, fzL, cmpD, ordD, eqD_int, eqD_in, eqD_ni, eqD_nn, eqD_bb, isD, D.isNon, idx_tup, idx_lst, idx_ro, idx_own, addI, subI, fdivD, modD, negD, truD, bltD, lenD_items, listD, tupleD, absD_int, intD, tyD, D.items, D.isL, mutD, appD, extD, mutArgs, argsOf, argOf, lentS, places, back, backOne, outs, setL, ownAt, parS, lock, unlock, wipeS, putBack, free_zero, free_succ, fst_no, fst_v, rngOf1, rngOf2, srcOf, kit_bb, wp_some, retq_rt, retq_nx, turn_nx, turn_ct, turnp_nx, turnp_ct, turnp_rt, turnp_bk, Option.toList, Int.zero_add, Int.sub_zero, List.getElem?_cons_succ, List.getElem?_cons_zero, List.set_cons_succ, List.set_cons_zero, Option.bind_some, Option.map_some, if_true, if_false, decide_true, decide_false, Bool.false_eq_true, store_zero, store_succ, st_no, st_v, atI_pos, ix50, ix51, ix52, ix53, ix54, ixN_pos, Option.bind_some, List.nodup_nil, List.nodup_cons, List.mem_cons, List.not_mem_nil, or_false, or_true, false_or, not_false_eq_true, not_true, and_self, and_true, true_and, Bool.and_true, Bool.true_and, Bool.and_self, Bool.and_false, Bool.false_and, Bool.not_true, Bool.not_false, List.length_cons, List.length_nil, List.cons_append, List.nil_append, List.replicate, Out.map, List.append_eq, List.all_cons, List.all_nil, decide_not, ne_eq, lim_lit, List.length_map, Int.reduceLE, Int.reduceLT, Int.reduceToNat, Nat.reduceAdd, Nat.reduceSub, Nat.reduceLeDiff, Nat.reduceEqDiff, Int.reduceNeg, Int.reduceEq, Nat.reduceLT, Nat.reduceMul, mulI, fdivI, rngI1, rngI2, Int.cast_ofNat_Int, Int.toNat_natCast, Option.bind_none, Option.map_none, Int.reduceAdd, Int.reduceSub, b_anchor_of, h1, e1, e2]
theorem lanchor_eq {p : Int} (h : 0 ≤ p) : evF T 1000 (k + 1) 27 [.v (.int p)] = some (.int (anc p), [.no]) := by
  refine wp_eq.mp (evF_wp T__law_anchor rfl ?_)
  unfold anc
  by_cases h1 : p = 0
  · subst h1
    simp -implicitDefEqProofs (disch := first | assumption | exact st_no | exact st_v | exact fst_no | omega) only [xs1, xs2, xs3, rd, rds, vals, cont, Sl.cont, D.fz, fzL, cmpD, ordD, eqD_int, eqD_in, eqD_ni, eqD_nn, eqD_bb, isD, D.isNon, idx_tup, idx_lst, idx_ro, idx_own, addI, subI, fdivD, modD, negD, truD, bltD, lenD_items, listD, tupleD, absD_int, intD, tyD, D.items, D.isL, mutD, appD, extD, mutArgs, argsOf, argOf, lentS, places, back, backOne, outs, setL, ownAt, parS, lock, unlock, wipeS, putBack, free_zero, free_succ, fst_no, fst_v, rngOf1, rngOf2, srcOf, kit_bb, wp_some, retq_rt, retq_nx, turn_nx, turn_ct, turnp_nx, turnp_ct, turnp_rt, turnp_bk, Option.toList, Int.zero_add, Int.sub_zero, List.getElem?_cons_succ, List.getElem?_cons_zero, List.set_cons_succ, List.set_cons_zero, Option.bind_some, Option.map_some, if_true, if_false, decide_true, decide_false, Bool.false_eq_true, store_zero, store_succ, st_no, st_v, atI_pos, ix50, ix51, ix52, ix53, ix54, ixN_pos, Option.bind_some, List.nodup_nil, List.nodup_cons, List.mem_cons, List.not_mem_nil, or_false, or_true, false_or, not_false_eq_true, not_true, and_self, and_true, true_and, Bool.and_true, Bool.true_and, Bool.and_self, Bool.and_false, Bool.false_and, Bool.not_true, Bool.not_false, List.length_cons, List.length_nil, List.cons_append, List.nil_append, List.replicate, Out.map, List.append_eq, List.all_cons, List.all_nil, decide_not, ne_eq, lim_lit, List.length_map, Int.reduceLE, Int.reduceLT, Int.reduceToNat, Nat.reduceAdd, Nat.reduceSub, Nat.reduceLeDiff, Nat.reduceEqDiff, Int.reduceNeg, Int.reduceEq, Nat.reduceLT, Nat.reduceMul, mulI, fdivI, rngI1, rngI2, Int.cast_ofNat_Int, Int.toNat_natCast, Option.bind_none, Option.map_none, Int.reduceAdd, Int.reduceSub, b__law_anchor]
  · rw [if_neg h1, show 2 * ((p - 1) / 2) + 1 = p - 1 + p % 2 by omega]
    simp -implicitDefEqProofs (disch := first | assumption | exact st_no | exact st_v | exact fst_no | omega) only [xs1, xs2, xs3, rd, rds, vals, cont, Sl.cont, D.fz, fzL, cmpD, ordD, eqD_int, eqD_in, eqD_ni, eqD_nn, eqD_bb, isD, D.isNon, idx_tup, idx_lst, idx_ro, idx_own, addI, subI, fdivD, modD, negD, truD, bltD, lenD_items, listD, tupleD, absD_int, intD, tyD, D.items, D.isL, mutD, appD, extD, mutArgs, argsOf, argOf, lentS, places, back, backOne, outs, setL, ownAt, parS, lock, unlock, wipeS, putBack, free_zero, free_succ, fst_no, fst_v, rngOf1, rngOf2, srcOf, kit_bb, wp_some, retq_rt, retq_nx, turn_nx, turn_ct, turnp_nx, turnp_ct, turnp_rt, turnp_bk, Option.toList, Int.zero_add, Int.sub_zero, List.getElem?_cons_succ, List.getElem?_cons_zero, List.set_cons_succ, List.set_cons_zero, Option.bind_some, Option.map_some, if_true, if_false, decide_true, decide_false, Bool.false_eq_true, store_zero, store_succ, st_no, st_v, atI_pos, ix50, ix51, ix52, ix53, ix54, ixN_pos, Option.bind_some, List.nodup_nil, List.nodup_cons, List.mem_cons, List.not_mem_nil, or_false, or_true, false_or, not_false_eq_true, not_true, and_self, and_true, true_and, Bool.and_true, Bool.true_and, Bool.and_self, Bool.and_false, Bool.false_and, Bool.not_true, Bool.not_false, List.length_cons, List.length_nil, List.cons_append, List.nil_append, List.replicate, Out.map, List.append_eq, List.all_cons, List.all_nil, decide_not, ne_eq, lim_lit, List.length_map, Int.reduceLE, Int.reduceLT, Int.reduceToNat, Nat.reduceAdd, Nat.reduceSub, Nat.reduceLeDiff, Nat.reduceEqDiff, Int.reduceNeg, Int.reduceEq, Nat.reduceLT, Nat.reduceMul, mulI, fdivI, rngI1, rngI2, Int.cast_ofNat_Int, Int.toNat_natCast, Option.bind_none, Option.map_none, Int.reduceAdd, Int.reduceSub, b__law_anchor, h1, and1]
theorem rowsl (r : Row) : slD (rowD r) none (some 3) = some (.tup [.int r.a, .int r.b, .int r.w]) := by
  obtain ⟨a, b, w, kk⟩ := r
  cases kk <;> rfl
theorem demand_eq {r : Row} (hr : RowP n r) (hl : sp.length = n) (hn : n ≤ 12) : evF T 1000 (k + 3) 10 [.v (.tup (sp.map spD)), .v (rowD r)] = some (trD (dem sp r), [.no, .no]) := by
  refine wp_eq.mp (evF_wp T_demand_of rfl ?_)
  obtain ⟨a0, a1, b0, b1⟩ := hr
  have fr := fz_row r
  have sl := rowsl r
  have e1 := isend_eq (k := k + 1) (p := r.a)
  have e2 := isend_eq (k := k + 1) (p := r.b)
  have e3 := anchor_eq (k := k) (p := r.a) (by omega)
  have e4 := anchor_eq (k := k) (p := r.b) (by omega)
  obtain ⟨_, e5, rfl⟩ := workof_ok (k := k + 1) (p := r.a)
  obtain ⟨_, e6, rfl⟩ := workof_ok (k := k + 1) (p := r.b)
  have ga : isE r.a = true → idxD (.tup (sp.map spD)) (.int ((r.a - 1) / 2)) = _ := fun q => get_lo2 (by have := of_decide_eq_true q; omega) (by have := of_decide_eq_true q; omega)
  have gb : isE r.b = true → idxD (.tup (sp.map spD)) (.int ((r.b - 1) / 2)) = _ := fun q => get_lo2 (by have := of_decide_eq_true q; omega) (by have := of_decide_eq_true q; omega)
  unfold trD dem dW
  cases qa : isE r.a <;> cases qb : isE r.b
  · simp -implicitDefEqProofs (disch := first | assumption | exact st_no | exact st_v | exact fst_no | omega) only [xs1, xs2, xs3, rd, rds, vals, cont, Sl.cont, D.fz, fzL, cmpD, ordD, eqD_int, eqD_in, eqD_ni, eqD_nn, eqD_bb, isD, D.isNon, idx_tup, idx_lst, idx_ro, idx_own, addI, subI, fdivD, modD, negD, truD, bltD, lenD_items, listD, tupleD, absD_int, intD, tyD, D.items, D.isL, mutD, appD, extD, mutArgs, argsOf, argOf, lentS, places, back, backOne, outs, setL, ownAt, parS, lock, unlock, wipeS, putBack, free_zero, free_succ, fst_no, fst_v, rngOf1, rngOf2, srcOf, kit_bb, wp_some, retq_rt, retq_nx, turn_nx, turn_ct, turnp_nx, turnp_ct, turnp_rt, turnp_bk, Option.toList, Int.zero_add, Int.sub_zero, List.getElem?_cons_succ, List.getElem?_cons_zero, List.set_cons_succ, List.set_cons_zero, Option.bind_some, Option.map_some, if_true, if_false, decide_true, decide_false, Bool.false_eq_true, store_zero, store_succ, st_no, st_v, atI_pos, ix50, ix51, ix52, ix53, ix54, ixN_pos, Option.bind_some, List.nodup_nil, List.nodup_cons, List.mem_cons, List.not_mem_nil, or_false, or_true, false_or, not_false_eq_true, not_true, and_self, and_true, true_and, Bool.and_true, Bool.true_and, Bool.and_self, Bool.and_false, Bool.false_and, Bool.not_true, Bool.not_false, List.length_cons, List.length_nil, List.cons_append, List.nil_append, List.replicate, Out.map, List.append_eq, List.all_cons, List.all_nil, decide_not, ne_eq, lim_lit, List.length_map, Int.reduceLE, Int.reduceLT, Int.reduceToNat, Nat.reduceAdd, Nat.reduceSub, Nat.reduceLeDiff, Nat.reduceEqDiff, Int.reduceNeg, Int.reduceEq, Nat.reduceLT, Nat.reduceMul, mulI, fdivI, rngI1, rngI2, Int.cast_ofNat_Int, Int.toNat_natCast, Option.bind_none, Option.map_none, Int.reduceAdd, Int.reduceSub, b_demand_of, fr, sl, e1, e2, e3, e4, e5, e6, qa, qb, fz_sp, Int.add_zero]
  · have g2 := gb qb
    simp -implicitDefEqProofs (disch := first | assumption | exact st_no | exact st_v | exact fst_no | omega) only [xs1, xs2, xs3, rd, rds, vals, cont, Sl.cont, D.fz, fzL, cmpD, ordD, eqD_int, eqD_in, eqD_ni, eqD_nn, eqD_bb, isD, D.isNon, idx_tup, idx_lst, idx_ro, idx_own, addI, subI, fdivD, modD, negD, truD, bltD, lenD_items, listD, tupleD, absD_int, intD, tyD, D.items, D.isL, mutD, appD, extD, mutArgs, argsOf, argOf, lentS, places, back, backOne, outs, setL, ownAt, parS, lock, unlock, wipeS, putBack, free_zero, free_succ, fst_no, fst_v, rngOf1, rngOf2, srcOf, kit_bb, wp_some, retq_rt, retq_nx, turn_nx, turn_ct, turnp_nx, turnp_ct, turnp_rt, turnp_bk, Option.toList, Int.zero_add, Int.sub_zero, List.getElem?_cons_succ, List.getElem?_cons_zero, List.set_cons_succ, List.set_cons_zero, Option.bind_some, Option.map_some, if_true, if_false, decide_true, decide_false, Bool.false_eq_true, store_zero, store_succ, st_no, st_v, atI_pos, ix50, ix51, ix52, ix53, ix54, ixN_pos, Option.bind_some, List.nodup_nil, List.nodup_cons, List.mem_cons, List.not_mem_nil, or_false, or_true, false_or, not_false_eq_true, not_true, and_self, and_true, true_and, Bool.and_true, Bool.true_and, Bool.and_self, Bool.and_false, Bool.false_and, Bool.not_true, Bool.not_false, List.length_cons, List.length_nil, List.cons_append, List.nil_append, List.replicate, Out.map, List.append_eq, List.all_cons, List.all_nil, decide_not, ne_eq, lim_lit, List.length_map, Int.reduceLE, Int.reduceLT, Int.reduceToNat, Nat.reduceAdd, Nat.reduceSub, Nat.reduceLeDiff, Nat.reduceEqDiff, Int.reduceNeg, Int.reduceEq, Nat.reduceLT, Nat.reduceMul, mulI, fdivI, rngI1, rngI2, Int.cast_ofNat_Int, Int.toNat_natCast, Option.bind_none, Option.map_none, Int.reduceAdd, Int.reduceSub, b_demand_of, fr, sl, e1, e2, e3, e4, e5, e6, qa, qb, g2, fz_sp, Int.add_zero]
  · have g1 := ga qa
    simp -implicitDefEqProofs (disch := first | assumption | exact st_no | exact st_v | exact fst_no | omega) only [xs1, xs2, xs3, rd, rds, vals, cont, Sl.cont, D.fz, fzL, cmpD, ordD, eqD_int, eqD_in, eqD_ni, eqD_nn, eqD_bb, isD, D.isNon, idx_tup, idx_lst, idx_ro, idx_own, addI, subI, fdivD, modD, negD, truD, bltD, lenD_items, listD, tupleD, absD_int, intD, tyD, D.items, D.isL, mutD, appD, extD, mutArgs, argsOf, argOf, lentS, places, back, backOne, outs, setL, ownAt, parS, lock, unlock, wipeS, putBack, free_zero, free_succ, fst_no, fst_v, rngOf1, rngOf2, srcOf, kit_bb, wp_some, retq_rt, retq_nx, turn_nx, turn_ct, turnp_nx, turnp_ct, turnp_rt, turnp_bk, Option.toList, Int.zero_add, Int.sub_zero, List.getElem?_cons_succ, List.getElem?_cons_zero, List.set_cons_succ, List.set_cons_zero, Option.bind_some, Option.map_some, if_true, if_false, decide_true, decide_false, Bool.false_eq_true, store_zero, store_succ, st_no, st_v, atI_pos, ix50, ix51, ix52, ix53, ix54, ixN_pos, Option.bind_some, List.nodup_nil, List.nodup_cons, List.mem_cons, List.not_mem_nil, or_false, or_true, false_or, not_false_eq_true, not_true, and_self, and_true, true_and, Bool.and_true, Bool.true_and, Bool.and_self, Bool.and_false, Bool.false_and, Bool.not_true, Bool.not_false, List.length_cons, List.length_nil, List.cons_append, List.nil_append, List.replicate, Out.map, List.append_eq, List.all_cons, List.all_nil, decide_not, ne_eq, lim_lit, List.length_map, Int.reduceLE, Int.reduceLT, Int.reduceToNat, Nat.reduceAdd, Nat.reduceSub, Nat.reduceLeDiff, Nat.reduceEqDiff, Int.reduceNeg, Int.reduceEq, Nat.reduceLT, Nat.reduceMul, mulI, fdivI, rngI1, rngI2, Int.cast_ofNat_Int, Int.toNat_natCast, Option.bind_none, Option.map_none, Int.reduceAdd, Int.reduceSub, b_demand_of, fr, sl, e1, e2, e3, e4, e5, e6, qa, qb, g1, fz_sp, Int.add_zero]
  · have g1 := ga qa
    have g2 := gb qb
    simp -implicitDefEqProofs (disch := first | assumption | exact st_no | exact st_v | exact fst_no | omega) only [xs1, xs2, xs3, rd, rds, vals, cont, Sl.cont, D.fz, fzL, cmpD, ordD, eqD_int, eqD_in, eqD_ni, eqD_nn, eqD_bb, isD, D.isNon, idx_tup, idx_lst, idx_ro, idx_own, addI, subI, fdivD, modD, negD, truD, bltD, lenD_items, listD, tupleD, absD_int, intD, tyD, D.items, D.isL, mutD, appD, extD, mutArgs, argsOf, argOf, lentS, places, back, backOne, outs, setL, ownAt, parS, lock, unlock, wipeS, putBack, free_zero, free_succ, fst_no, fst_v, rngOf1, rngOf2, srcOf, kit_bb, wp_some, retq_rt, retq_nx, turn_nx, turn_ct, turnp_nx, turnp_ct, turnp_rt, turnp_bk, Option.toList, Int.zero_add, Int.sub_zero, List.getElem?_cons_succ, List.getElem?_cons_zero, List.set_cons_succ, List.set_cons_zero, Option.bind_some, Option.map_some, if_true, if_false, decide_true, decide_false, Bool.false_eq_true, store_zero, store_succ, st_no, st_v, atI_pos, ix50, ix51, ix52, ix53, ix54, ixN_pos, Option.bind_some, List.nodup_nil, List.nodup_cons, List.mem_cons, List.not_mem_nil, or_false, or_true, false_or, not_false_eq_true, not_true, and_self, and_true, true_and, Bool.and_true, Bool.true_and, Bool.and_self, Bool.and_false, Bool.false_and, Bool.not_true, Bool.not_false, List.length_cons, List.length_nil, List.cons_append, List.nil_append, List.replicate, Out.map, List.append_eq, List.all_cons, List.all_nil, decide_not, ne_eq, lim_lit, List.length_map, Int.reduceLE, Int.reduceLT, Int.reduceToNat, Nat.reduceAdd, Nat.reduceSub, Nat.reduceLeDiff, Nat.reduceEqDiff, Int.reduceNeg, Int.reduceEq, Nat.reduceLT, Nat.reduceMul, mulI, fdivI, rngI1, rngI2, Int.cast_ofNat_Int, Int.toNat_natCast, Option.bind_none, Option.map_none, Int.reduceAdd, Int.reduceSub, b_demand_of, fr, sl, e1, e2, e3, e4, e5, e6, qa, qb, g1, g2, fz_sp, Int.add_zero]
theorem row_i0 (r : Row) : idxD (rowD r) (.int 0) = some (.int r.a) := rfl
theorem row_i1 (r : Row) : idxD (rowD r) (.int 1) = some (.int r.b) := rfl
theorem row_i2 (r : Row) : idxD (rowD r) (.int 2) = some (.int r.w) := rfl
theorem ldemand_eq {r : Row} (hr : RowP n r) (hl : sp.length = n) (hn : n ≤ 12) : evF T 1000 (k + 2) 28 [.v (.tup (sp.map spD)), .v (rowD r)] = some (trD (dem sp r), [.no, .no]) := by
  refine wp_eq.mp (evF_wp T__law_demand rfl ?_)
  obtain ⟨a0, a1, b0, b1⟩ := hr
  have fr := fz_row r
  have r0 := row_i0 r
  have r1 := row_i1 r
  have r2 := row_i2 r
  have e3 := lanchor_eq (k := k) (p := r.a) a0
  have e4 := lanchor_eq (k := k) (p := r.b) b0
  have ga : 0 < r.a → r.a % 2 = 0 → idxD (.tup (sp.map spD)) (.int (r.a / 2 - 1)) = some (.tup [.int (lo sp ((r.a - 1) / 2)), .int (hi sp ((r.a - 1) / 2))]) := fun q q2 => by
    rw [show r.a / 2 - 1 = (r.a - 1) / 2 by omega]
    exact get_lo2 (by omega) (by omega)
  have gb : 0 < r.b → r.b % 2 = 0 → idxD (.tup (sp.map spD)) (.int (r.b / 2 - 1)) = some (.tup [.int (lo sp ((r.b - 1) / 2)), .int (hi sp ((r.b - 1) / 2))]) := fun q q2 => by
    rw [show r.b / 2 - 1 = (r.b - 1) / 2 by omega]
    exact get_lo2 (by omega) (by omega)
  have tail : ∀ w : Int, w = r.w + (if isE r.a then lo sp ((r.a - 1) / 2) else 0) → Wp (RetQ (fun x => x = (trD (dem sp r), [.no, .no])) [.v (.tup (sp.map spD)), .v (rowD r)]) (evB (evF T 1000 (k + 1)) 1000 (match b__law_demand with
      | .cons _ (.cons _ r) => r
      | _ => .nil) [.v (.tup (sp.map spD)), .v (rowD r), .v (.int w)]) := by
    intro w hw
    unfold trD dem dW
    rw [← hw]
    unfold isE
    by_cases h1 : 0 < r.b
    · by_cases h2 : r.b % 2 = 0
      · have g := gb h1 h2
        have q : decide (0 < r.b ∧ r.b % 2 = 0) = true := decide_eq_true ⟨h1, h2⟩
        simp -implicitDefEqProofs (disch := first | assumption | exact st_no | exact st_v | exact fst_no | omega) only [xs1, xs2, xs3, rd, rds, vals, cont, Sl.cont, D.fz, fzL, cmpD, ordD, eqD_int, eqD_in, eqD_ni, eqD_nn, eqD_bb, isD, D.isNon, idx_tup, idx_lst, idx_ro, idx_own, addI, subI, fdivD, modD, negD, truD, bltD, lenD_items, listD, tupleD, absD_int, intD, tyD, D.items, D.isL, mutD, appD, extD, mutArgs, argsOf, argOf, lentS, places, back, backOne, outs, setL, ownAt, parS, lock, unlock, wipeS, putBack, free_zero, free_succ, fst_no, fst_v, rngOf1, rngOf2, srcOf, kit_bb, wp_some, retq_rt, retq_nx, turn_nx, turn_ct, turnp_nx, turnp_ct, turnp_rt, turnp_bk, Option.toList, Int.zero_add, Int.sub_zero, List.getElem?_cons_succ, List.getElem?_cons_zero, List.set_cons_succ, List.set_cons_zero, Option.bind_some, Option.map_some, if_true, if_false, decide_true, decide_false, Bool.false_eq_true, store_zero, store_succ, st_no, st_v, atI_pos, ix50, ix51, ix52, ix53, ix54, ixN_pos, Option.bind_some, List.nodup_nil, List.nodup_cons, List.mem_cons, List.not_mem_nil, or_false, or_true, false_or, not_false_eq_true, not_true, and_self, and_true, true_and, Bool.and_true, Bool.true_and, Bool.and_self, Bool.and_false, Bool.false_and, Bool.not_true, Bool.not_false, List.length_cons, List.length_nil, List.cons_append, List.nil_append, List.replicate, Out.map, List.append_eq, List.all_cons, List.all_nil, decide_not, ne_eq, lim_lit, List.length_map, Int.reduceLE, Int.reduceLT, Int.reduceToNat, Nat.reduceAdd, Nat.reduceSub, Nat.reduceLeDiff, Nat.reduceEqDiff, Int.reduceNeg, Int.reduceEq, Nat.reduceLT, Nat.reduceMul, mulI, fdivI, rngI1, rngI2, Int.cast_ofNat_Int, Int.toNat_natCast, Option.bind_none, Option.map_none, Int.reduceAdd, Int.reduceSub, b__law_demand, fr, r0, r1, r2, e3, e4, and1, h1, h2, g, q, tr0, tr1, fz_sp]
      · have h3 : r.b % 2 = 1 := by omega
        have q : decide (0 < r.b ∧ r.b % 2 = 0) = false := decide_eq_false fun e => h2 e.2
        have q1 : ¬ (1 : Int) = 0 := by decide
        simp only [q]
        simp -implicitDefEqProofs (disch := first | assumption | exact st_no | exact st_v | exact fst_no | omega) only [xs1, xs2, xs3, rd, rds, vals, cont, Sl.cont, D.fz, fzL, cmpD, ordD, eqD_int, eqD_in, eqD_ni, eqD_nn, eqD_bb, isD, D.isNon, idx_tup, idx_lst, idx_ro, idx_own, addI, subI, fdivD, modD, negD, truD, bltD, lenD_items, listD, tupleD, absD_int, intD, tyD, D.items, D.isL, mutD, appD, extD, mutArgs, argsOf, argOf, lentS, places, back, backOne, outs, setL, ownAt, parS, lock, unlock, wipeS, putBack, free_zero, free_succ, fst_no, fst_v, rngOf1, rngOf2, srcOf, kit_bb, wp_some, retq_rt, retq_nx, turn_nx, turn_ct, turnp_nx, turnp_ct, turnp_rt, turnp_bk, Option.toList, Int.zero_add, Int.sub_zero, List.getElem?_cons_succ, List.getElem?_cons_zero, List.set_cons_succ, List.set_cons_zero, Option.bind_some, Option.map_some, if_true, if_false, decide_true, decide_false, Bool.false_eq_true, store_zero, store_succ, st_no, st_v, atI_pos, ix50, ix51, ix52, ix53, ix54, ixN_pos, Option.bind_some, List.nodup_nil, List.nodup_cons, List.mem_cons, List.not_mem_nil, or_false, or_true, false_or, not_false_eq_true, not_true, and_self, and_true, true_and, Bool.and_true, Bool.true_and, Bool.and_self, Bool.and_false, Bool.false_and, Bool.not_true, Bool.not_false, List.length_cons, List.length_nil, List.cons_append, List.nil_append, List.replicate, Out.map, List.append_eq, List.all_cons, List.all_nil, decide_not, ne_eq, lim_lit, List.length_map, Int.reduceLE, Int.reduceLT, Int.reduceToNat, Nat.reduceAdd, Nat.reduceSub, Nat.reduceLeDiff, Nat.reduceEqDiff, Int.reduceNeg, Int.reduceEq, Nat.reduceLT, Nat.reduceMul, mulI, fdivI, rngI1, rngI2, Int.cast_ofNat_Int, Int.toNat_natCast, Option.bind_none, Option.map_none, Int.reduceAdd, Int.reduceSub, b__law_demand, fr, r0, r1, r2, e3, e4, and1, h1, h3, tr0, tr1, fz_sp]
    · have q : decide (0 < r.b ∧ r.b % 2 = 0) = false := decide_eq_false fun e => h1 e.1
      simp only [q]
      simp -implicitDefEqProofs (disch := first | assumption | exact st_no | exact st_v | exact fst_no | omega) only [xs1, xs2, xs3, rd, rds, vals, cont, Sl.cont, D.fz, fzL, cmpD, ordD, eqD_int, eqD_in, eqD_ni, eqD_nn, eqD_bb, isD, D.isNon, idx_tup, idx_lst, idx_ro, idx_own, addI, subI, fdivD, modD, negD, truD, bltD, lenD_items, listD, tupleD, absD_int, intD, tyD, D.items, D.isL, mutD, appD, extD, mutArgs, argsOf, argOf, lentS, places, back, backOne, outs, setL, ownAt, parS, lock, unlock, wipeS, putBack, free_zero, free_succ, fst_no, fst_v, rngOf1, rngOf2, srcOf, kit_bb, wp_some, retq_rt, retq_nx, turn_nx, turn_ct, turnp_nx, turnp_ct, turnp_rt, turnp_bk, Option.toList, Int.zero_add, Int.sub_zero, List.getElem?_cons_succ, List.getElem?_cons_zero, List.set_cons_succ, List.set_cons_zero, Option.bind_some, Option.map_some, if_true, if_false, decide_true, decide_false, Bool.false_eq_true, store_zero, store_succ, st_no, st_v, atI_pos, ix50, ix51, ix52, ix53, ix54, ixN_pos, Option.bind_some, List.nodup_nil, List.nodup_cons, List.mem_cons, List.not_mem_nil, or_false, or_true, false_or, not_false_eq_true, not_true, and_self, and_true, true_and, Bool.and_true, Bool.true_and, Bool.and_self, Bool.and_false, Bool.false_and, Bool.not_true, Bool.not_false, List.length_cons, List.length_nil, List.cons_append, List.nil_append, List.replicate, Out.map, List.append_eq, List.all_cons, List.all_nil, decide_not, ne_eq, lim_lit, List.length_map, Int.reduceLE, Int.reduceLT, Int.reduceToNat, Nat.reduceAdd, Nat.reduceSub, Nat.reduceLeDiff, Nat.reduceEqDiff, Int.reduceNeg, Int.reduceEq, Nat.reduceLT, Nat.reduceMul, mulI, fdivI, rngI1, rngI2, Int.cast_ofNat_Int, Int.toNat_natCast, Option.bind_none, Option.map_none, Int.reduceAdd, Int.reduceSub, b__law_demand, fr, r0, r1, r2, e3, e4, and1, h1, tr0, tr1, fz_sp]
  by_cases h1 : 0 < r.a
  · by_cases h2 : r.a % 2 = 0
    · have g := ga h1 h2
      have q : isE r.a = true := decide_eq_true ⟨h1, h2⟩
      have := tail (r.w + lo sp ((r.a - 1) / 2)) (by rw [q]; simp)
      simp -implicitDefEqProofs (disch := first | assumption | exact st_no | exact st_v | exact fst_no | omega) only [xs1, xs2, xs3, rd, rds, vals, cont, Sl.cont, D.fz, fzL, cmpD, ordD, eqD_int, eqD_in, eqD_ni, eqD_nn, eqD_bb, isD, D.isNon, idx_tup, idx_lst, idx_ro, idx_own, addI, subI, fdivD, modD, negD, truD, bltD, lenD_items, listD, tupleD, absD_int, intD, tyD, D.items, D.isL, mutD, appD, extD, mutArgs, argsOf, argOf, lentS, places, back, backOne, outs, setL, ownAt, parS, lock, unlock, wipeS, putBack, free_zero, free_succ, fst_no, fst_v, rngOf1, rngOf2, srcOf, kit_bb, wp_some, retq_rt, retq_nx, turn_nx, turn_ct, turnp_nx, turnp_ct, turnp_rt, turnp_bk, Option.toList, Int.zero_add, Int.sub_zero, List.getElem?_cons_succ, List.getElem?_cons_zero, List.set_cons_succ, List.set_cons_zero, Option.bind_some, Option.map_some, if_true, if_false, decide_true, decide_false, Bool.false_eq_true, store_zero, store_succ, st_no, st_v, atI_pos, ix50, ix51, ix52, ix53, ix54, ixN_pos, Option.bind_some, List.nodup_nil, List.nodup_cons, List.mem_cons, List.not_mem_nil, or_false, or_true, false_or, not_false_eq_true, not_true, and_self, and_true, true_and, Bool.and_true, Bool.true_and, Bool.and_self, Bool.and_false, Bool.false_and, Bool.not_true, Bool.not_false, List.length_cons, List.length_nil, List.cons_append, List.nil_append, List.replicate, Out.map, List.append_eq, List.all_cons, List.all_nil, decide_not, ne_eq, lim_lit, List.length_map, Int.reduceLE, Int.reduceLT, Int.reduceToNat, Nat.reduceAdd, Nat.reduceSub, Nat.reduceLeDiff, Nat.reduceEqDiff, Int.reduceNeg, Int.reduceEq, Nat.reduceLT, Nat.reduceMul, mulI, fdivI, rngI1, rngI2, Int.cast_ofNat_Int, Int.toNat_natCast, Option.bind_none, Option.map_none, Int.reduceAdd, Int.reduceSub, b__law_demand, fr, r0, r1, r2, and1, tr0, tr1, fz_sp] at this
      simp -implicitDefEqProofs (disch := first | assumption | exact st_no | exact st_v | exact fst_no | omega) only [xs1, xs2, xs3, rd, rds, vals, cont, Sl.cont, D.fz, fzL, cmpD, ordD, eqD_int, eqD_in, eqD_ni, eqD_nn, eqD_bb, isD, D.isNon, idx_tup, idx_lst, idx_ro, idx_own, addI, subI, fdivD, modD, negD, truD, bltD, lenD_items, listD, tupleD, absD_int, intD, tyD, D.items, D.isL, mutD, appD, extD, mutArgs, argsOf, argOf, lentS, places, back, backOne, outs, setL, ownAt, parS, lock, unlock, wipeS, putBack, free_zero, free_succ, fst_no, fst_v, rngOf1, rngOf2, srcOf, kit_bb, wp_some, retq_rt, retq_nx, turn_nx, turn_ct, turnp_nx, turnp_ct, turnp_rt, turnp_bk, Option.toList, Int.zero_add, Int.sub_zero, List.getElem?_cons_succ, List.getElem?_cons_zero, List.set_cons_succ, List.set_cons_zero, Option.bind_some, Option.map_some, if_true, if_false, decide_true, decide_false, Bool.false_eq_true, store_zero, store_succ, st_no, st_v, atI_pos, ix50, ix51, ix52, ix53, ix54, ixN_pos, Option.bind_some, List.nodup_nil, List.nodup_cons, List.mem_cons, List.not_mem_nil, or_false, or_true, false_or, not_false_eq_true, not_true, and_self, and_true, true_and, Bool.and_true, Bool.true_and, Bool.and_self, Bool.and_false, Bool.false_and, Bool.not_true, Bool.not_false, List.length_cons, List.length_nil, List.cons_append, List.nil_append, List.replicate, Out.map, List.append_eq, List.all_cons, List.all_nil, decide_not, ne_eq, lim_lit, List.length_map, Int.reduceLE, Int.reduceLT, Int.reduceToNat, Nat.reduceAdd, Nat.reduceSub, Nat.reduceLeDiff, Nat.reduceEqDiff, Int.reduceNeg, Int.reduceEq, Nat.reduceLT, Nat.reduceMul, mulI, fdivI, rngI1, rngI2, Int.cast_ofNat_Int, Int.toNat_natCast, Option.bind_none, Option.map_none, Int.reduceAdd, Int.reduceSub, b__law_demand, fr, r0, r1, r2, and1, h1, h2, g, tr0, tr1, fz_sp]
      exact this
    · have h3 : r.a % 2 = 1 := by omega
      have q : isE r.a = false := decide_eq_false fun e => h2 e.2
      have := tail r.w (by rw [q]; simp)
      simp -implicitDefEqProofs (disch := first | assumption | exact st_no | exact st_v | exact fst_no | omega) only [xs1, xs2, xs3, rd, rds, vals, cont, Sl.cont, D.fz, fzL, cmpD, ordD, eqD_int, eqD_in, eqD_ni, eqD_nn, eqD_bb, isD, D.isNon, idx_tup, idx_lst, idx_ro, idx_own, addI, subI, fdivD, modD, negD, truD, bltD, lenD_items, listD, tupleD, absD_int, intD, tyD, D.items, D.isL, mutD, appD, extD, mutArgs, argsOf, argOf, lentS, places, back, backOne, outs, setL, ownAt, parS, lock, unlock, wipeS, putBack, free_zero, free_succ, fst_no, fst_v, rngOf1, rngOf2, srcOf, kit_bb, wp_some, retq_rt, retq_nx, turn_nx, turn_ct, turnp_nx, turnp_ct, turnp_rt, turnp_bk, Option.toList, Int.zero_add, Int.sub_zero, List.getElem?_cons_succ, List.getElem?_cons_zero, List.set_cons_succ, List.set_cons_zero, Option.bind_some, Option.map_some, if_true, if_false, decide_true, decide_false, Bool.false_eq_true, store_zero, store_succ, st_no, st_v, atI_pos, ix50, ix51, ix52, ix53, ix54, ixN_pos, Option.bind_some, List.nodup_nil, List.nodup_cons, List.mem_cons, List.not_mem_nil, or_false, or_true, false_or, not_false_eq_true, not_true, and_self, and_true, true_and, Bool.and_true, Bool.true_and, Bool.and_self, Bool.and_false, Bool.false_and, Bool.not_true, Bool.not_false, List.length_cons, List.length_nil, List.cons_append, List.nil_append, List.replicate, Out.map, List.append_eq, List.all_cons, List.all_nil, decide_not, ne_eq, lim_lit, List.length_map, Int.reduceLE, Int.reduceLT, Int.reduceToNat, Nat.reduceAdd, Nat.reduceSub, Nat.reduceLeDiff, Nat.reduceEqDiff, Int.reduceNeg, Int.reduceEq, Nat.reduceLT, Nat.reduceMul, mulI, fdivI, rngI1, rngI2, Int.cast_ofNat_Int, Int.toNat_natCast, Option.bind_none, Option.map_none, Int.reduceAdd, Int.reduceSub, b__law_demand, fr, r0, r1, r2, and1, tr0, tr1, fz_sp] at this
      simp -implicitDefEqProofs (disch := first | assumption | exact st_no | exact st_v | exact fst_no | omega) only [xs1, xs2, xs3, rd, rds, vals, cont, Sl.cont, D.fz, fzL, cmpD, ordD, eqD_int, eqD_in, eqD_ni, eqD_nn, eqD_bb, isD, D.isNon, idx_tup, idx_lst, idx_ro, idx_own, addI, subI, fdivD, modD, negD, truD, bltD, lenD_items, listD, tupleD, absD_int, intD, tyD, D.items, D.isL, mutD, appD, extD, mutArgs, argsOf, argOf, lentS, places, back, backOne, outs, setL, ownAt, parS, lock, unlock, wipeS, putBack, free_zero, free_succ, fst_no, fst_v, rngOf1, rngOf2, srcOf, kit_bb, wp_some, retq_rt, retq_nx, turn_nx, turn_ct, turnp_nx, turnp_ct, turnp_rt, turnp_bk, Option.toList, Int.zero_add, Int.sub_zero, List.getElem?_cons_succ, List.getElem?_cons_zero, List.set_cons_succ, List.set_cons_zero, Option.bind_some, Option.map_some, if_true, if_false, decide_true, decide_false, Bool.false_eq_true, store_zero, store_succ, st_no, st_v, atI_pos, ix50, ix51, ix52, ix53, ix54, ixN_pos, Option.bind_some, List.nodup_nil, List.nodup_cons, List.mem_cons, List.not_mem_nil, or_false, or_true, false_or, not_false_eq_true, not_true, and_self, and_true, true_and, Bool.and_true, Bool.true_and, Bool.and_self, Bool.and_false, Bool.false_and, Bool.not_true, Bool.not_false, List.length_cons, List.length_nil, List.cons_append, List.nil_append, List.replicate, Out.map, List.append_eq, List.all_cons, List.all_nil, decide_not, ne_eq, lim_lit, List.length_map, Int.reduceLE, Int.reduceLT, Int.reduceToNat, Nat.reduceAdd, Nat.reduceSub, Nat.reduceLeDiff, Nat.reduceEqDiff, Int.reduceNeg, Int.reduceEq, Nat.reduceLT, Nat.reduceMul, mulI, fdivI, rngI1, rngI2, Int.cast_ofNat_Int, Int.toNat_natCast, Option.bind_none, Option.map_none, Int.reduceAdd, Int.reduceSub, b__law_demand, fr, r0, r1, r2, and1, h1, h3, tr0, tr1, fz_sp]
      exact this
  · have q : isE r.a = false := decide_eq_false fun e => h1 e.1
    have := tail r.w (by rw [q]; simp)
    simp -implicitDefEqProofs (disch := first | assumption | exact st_no | exact st_v | exact fst_no | omega) only [xs1, xs2, xs3, rd, rds, vals, cont, Sl.cont, D.fz, fzL, cmpD, ordD, eqD_int, eqD_in, eqD_ni, eqD_nn, eqD_bb, isD, D.isNon, idx_tup, idx_lst, idx_ro, idx_own, addI, subI, fdivD, modD, negD, truD, bltD, lenD_items, listD, tupleD, absD_int, intD, tyD, D.items, D.isL, mutD, appD, extD, mutArgs, argsOf, argOf, lentS, places, back, backOne, outs, setL, ownAt, parS, lock, unlock, wipeS, putBack, free_zero, free_succ, fst_no, fst_v, rngOf1, rngOf2, srcOf, kit_bb, wp_some, retq_rt, retq_nx, turn_nx, turn_ct, turnp_nx, turnp_ct, turnp_rt, turnp_bk, Option.toList, Int.zero_add, Int.sub_zero, List.getElem?_cons_succ, List.getElem?_cons_zero, List.set_cons_succ, List.set_cons_zero, Option.bind_some, Option.map_some, if_true, if_false, decide_true, decide_false, Bool.false_eq_true, store_zero, store_succ, st_no, st_v, atI_pos, ix50, ix51, ix52, ix53, ix54, ixN_pos, Option.bind_some, List.nodup_nil, List.nodup_cons, List.mem_cons, List.not_mem_nil, or_false, or_true, false_or, not_false_eq_true, not_true, and_self, and_true, true_and, Bool.and_true, Bool.true_and, Bool.and_self, Bool.and_false, Bool.false_and, Bool.not_true, Bool.not_false, List.length_cons, List.length_nil, List.cons_append, List.nil_append, List.replicate, Out.map, List.append_eq, List.all_cons, List.all_nil, decide_not, ne_eq, lim_lit, List.length_map, Int.reduceLE, Int.reduceLT, Int.reduceToNat, Nat.reduceAdd, Nat.reduceSub, Nat.reduceLeDiff, Nat.reduceEqDiff, Int.reduceNeg, Int.reduceEq, Nat.reduceLT, Nat.reduceMul, mulI, fdivI, rngI1, rngI2, Int.cast_ofNat_Int, Int.toNat_natCast, Option.bind_none, Option.map_none, Int.reduceAdd, Int.reduceSub, b__law_demand, fr, r0, r1, r2, and1, tr0, tr1, fz_sp] at this
    simp -implicitDefEqProofs (disch := first | assumption | exact st_no | exact st_v | exact fst_no | omega) only [xs1, xs2, xs3, rd, rds, vals, cont, Sl.cont, D.fz, fzL, cmpD, ordD, eqD_int, eqD_in, eqD_ni, eqD_nn, eqD_bb, isD, D.isNon, idx_tup, idx_lst, idx_ro, idx_own, addI, subI, fdivD, modD, negD, truD, bltD, lenD_items, listD, tupleD, absD_int, intD, tyD, D.items, D.isL, mutD, appD, extD, mutArgs, argsOf, argOf, lentS, places, back, backOne, outs, setL, ownAt, parS, lock, unlock, wipeS, putBack, free_zero, free_succ, fst_no, fst_v, rngOf1, rngOf2, srcOf, kit_bb, wp_some, retq_rt, retq_nx, turn_nx, turn_ct, turnp_nx, turnp_ct, turnp_rt, turnp_bk, Option.toList, Int.zero_add, Int.sub_zero, List.getElem?_cons_succ, List.getElem?_cons_zero, List.set_cons_succ, List.set_cons_zero, Option.bind_some, Option.map_some, if_true, if_false, decide_true, decide_false, Bool.false_eq_true, store_zero, store_succ, st_no, st_v, atI_pos, ix50, ix51, ix52, ix53, ix54, ixN_pos, Option.bind_some, List.nodup_nil, List.nodup_cons, List.mem_cons, List.not_mem_nil, or_false, or_true, false_or, not_false_eq_true, not_true, and_self, and_true, true_and, Bool.and_true, Bool.true_and, Bool.and_self, Bool.and_false, Bool.false_and, Bool.not_true, Bool.not_false, List.length_cons, List.length_nil, List.cons_append, List.nil_append, List.replicate, Out.map, List.append_eq, List.all_cons, List.all_nil, decide_not, ne_eq, lim_lit, List.length_map, Int.reduceLE, Int.reduceLT, Int.reduceToNat, Nat.reduceAdd, Nat.reduceSub, Nat.reduceLeDiff, Nat.reduceEqDiff, Int.reduceNeg, Int.reduceEq, Nat.reduceLT, Nat.reduceMul, mulI, fdivI, rngI1, rngI2, Int.cast_ofNat_Int, Int.toNat_natCast, Option.bind_none, Option.map_none, Int.reduceAdd, Int.reduceSub, b__law_demand, fr, r0, r1, r2, and1, h1, tr0, tr1, fz_sp]
    exact this
theorem basic_rowp (hn : NetD n h sp bs ws net) : ∀ r ∈ basicR h n sp bs ws, RowP n r := by
  intro r hr
  unfold basicR at hr
  rcases List.mem_append.mp hr with hr | hr
  · rcases List.mem_append.mp hr with hr | hr
    · rcases List.mem_append.mp hr with hr | hr
      · unfold ptR at hr
        obtain ⟨i, hi, hr⟩ := List.mem_flatMap.mp hr
        rw [List.mem_range] at hi
        simp only [List.mem_cons, List.not_mem_nil, or_false] at hr
        rcases hr with rfl | rfl
        · exact ⟨by simp, by simp; omega, by simp; omega, by simp; omega⟩
        · exact ⟨by simp; omega, by simp; omega, by simp, by simp; omega⟩
      · unfold spR at hr
        obtain ⟨i, hi, hr⟩ := List.mem_flatMap.mp hr
        rw [List.mem_range] at hi
        simp only [List.mem_cons, List.not_mem_nil, or_false] at hr
        rcases hr with rfl | rfl
        · exact ⟨by simp; omega, by simp; omega, by simp; omega, by simp; omega⟩
        · exact ⟨by simp; omega, by simp; omega, by simp; omega, by simp; omega⟩
    · unfold bdR at hr
      obtain ⟨t, ht, rfl⟩ := List.mem_map.mp hr
      obtain ⟨a0, a1, b0, b1, _⟩ := hn.bds t ht
      exact ⟨a0, a1, b0, b1⟩
  · obtain ⟨t, ht, rfl⟩ := List.mem_map.mp hr
    obtain ⟨a0, a1, b0, b1, _⟩ := hn.wts t ht
    exact ⟨by unfold trW; simp; omega, by unfold trW; simp; omega, by unfold trW; simp; omega, by unfold trW; simp; omega⟩
theorem basic_len (hn : NetD n h sp bs ws net) (hn2 : n ≤ 12) : (basicR h n sp bs ws).length ≤ 3000 := by
  unfold basicR
  have := hn.lb
  have := hn.lw
  rw [List.length_append, List.length_append, List.length_append, ptR_len, spR_len, List.length_map]
  unfold bdR
  rw [List.length_map]
  omega
def dems (h : Int) (n : Nat) (sp : List (Int × Int)) (bs ws : List (Int × Int × Int)) : List (Int × Int × Int) := (basicR h n sp bs ws).map (dem sp)
theorem map_dem {f : Row → D} {rs : List Row} {g : D → D} (h : ∀ r ∈ rs, g (rowD r) = f r) : (rs.map rowD).map g = rs.map f := by
  rw [List.map_map]
  exact List.map_congr_left fun r hr => h r hr
theorem printed_eq (hn : NetD n h sp bs ws net) (hn2 : n ≤ 12) : evF T 1000 (k + 4) 11 [.v net] = some (.tup ((dems h n sp bs ws).map trD), [.no]) := by
  refine wp_eq.mp (evF_wp T_printed_demands rfl ?_)
  obtain ⟨_, e1, rfl⟩ := basic_ok (k := k) hn hn2
  have nf := hn.fz
  have i2 := hn.i2
  have bl := basic_len hn hn2
  have rp := basic_rowp hn
  simp -implicitDefEqProofs (disch := first | assumption | exact st_no | exact st_v | exact fst_no | omega) only [xs1, xs2, xs3, rd, rds, vals, cont, Sl.cont, D.fz, fzL, cmpD, ordD, eqD_int, eqD_in, eqD_ni, eqD_nn, eqD_bb, isD, D.isNon, idx_tup, idx_lst, idx_ro, idx_own, addI, subI, fdivD, modD, negD, truD, bltD, lenD_items, listD, tupleD, absD_int, intD, tyD, D.items, D.isL, mutD, appD, extD, mutArgs, argsOf, argOf, lentS, places, back, backOne, outs, setL, ownAt, parS, lock, unlock, wipeS, putBack, free_zero, free_succ, fst_no, fst_v, rngOf1, rngOf2, srcOf, kit_bb, wp_some, retq_rt, retq_nx, turn_nx, turn_ct, turnp_nx, turnp_ct, turnp_rt, turnp_bk, Option.toList, Int.zero_add, Int.sub_zero, List.getElem?_cons_succ, List.getElem?_cons_zero, List.set_cons_succ, List.set_cons_zero, Option.bind_some, Option.map_some, if_true, if_false, decide_true, decide_false, Bool.false_eq_true, store_zero, store_succ, st_no, st_v, atI_pos, ix50, ix51, ix52, ix53, ix54, ixN_pos, Option.bind_some, List.nodup_nil, List.nodup_cons, List.mem_cons, List.not_mem_nil, or_false, or_true, false_or, not_false_eq_true, not_true, and_self, and_true, true_and, Bool.and_true, Bool.true_and, Bool.and_self, Bool.and_false, Bool.false_and, Bool.not_true, Bool.not_false, List.length_cons, List.length_nil, List.cons_append, List.nil_append, List.replicate, Out.map, List.append_eq, List.all_cons, List.all_nil, decide_not, ne_eq, lim_lit, List.length_map, Int.reduceLE, Int.reduceLT, Int.reduceToNat, Nat.reduceAdd, Nat.reduceSub, Nat.reduceLeDiff, Nat.reduceEqDiff, Int.reduceNeg, Int.reduceEq, Nat.reduceLT, Nat.reduceMul, mulI, fdivI, rngI1, rngI2, Int.cast_ofNat_Int, Int.toNat_natCast, Option.bind_none, Option.map_none, Int.reduceAdd, Int.reduceSub, b_printed_demands, nf, e1, fz_rows]
  repeat with_reducible refine wp_b ?_
  refine wp_comp (fun i acc ρ => ρ = [.v net, .no] ∧ acc = (((basicR h n sp bs ws).take i).map (dem sp)).map trD) ?_ ?_ ?_ ?_
  · exact ⟨rfl, rfl⟩
  · rw [List.length_map, lim_lit]; simp; omega
  · rintro i v acc _ hi ⟨rfl, rfl⟩
    rw [List.getElem?_map] at hi
    cases e : (basicR h n sp bs ws)[i]? with
    | none => rw [e] at hi; cases hi
    | some r =>
      rw [e] at hi
      cases hi
      have e2 := demand_eq (k := k) (rp r (List.mem_of_getElem? e)) hn.len hn2
      have fr := fz_row r
      simp -implicitDefEqProofs (disch := first | assumption | exact st_no | exact st_v | exact fst_no | omega) only [xs1, xs2, xs3, rd, rds, vals, cont, Sl.cont, D.fz, fzL, cmpD, ordD, eqD_int, eqD_in, eqD_ni, eqD_nn, eqD_bb, isD, D.isNon, idx_tup, idx_lst, idx_ro, idx_own, addI, subI, fdivD, modD, negD, truD, bltD, lenD_items, listD, tupleD, absD_int, intD, tyD, D.items, D.isL, mutD, appD, extD, mutArgs, argsOf, argOf, lentS, places, back, backOne, outs, setL, ownAt, parS, lock, unlock, wipeS, putBack, free_zero, free_succ, fst_no, fst_v, rngOf1, rngOf2, srcOf, kit_bb, wp_some, retq_rt, retq_nx, turn_nx, turn_ct, turnp_nx, turnp_ct, turnp_rt, turnp_bk, Option.toList, Int.zero_add, Int.sub_zero, List.getElem?_cons_succ, List.getElem?_cons_zero, List.set_cons_succ, List.set_cons_zero, Option.bind_some, Option.map_some, if_true, if_false, decide_true, decide_false, Bool.false_eq_true, store_zero, store_succ, st_no, st_v, atI_pos, ix50, ix51, ix52, ix53, ix54, ixN_pos, Option.bind_some, List.nodup_nil, List.nodup_cons, List.mem_cons, List.not_mem_nil, or_false, or_true, false_or, not_false_eq_true, not_true, and_self, and_true, true_and, Bool.and_true, Bool.true_and, Bool.and_self, Bool.and_false, Bool.false_and, Bool.not_true, Bool.not_false, List.length_cons, List.length_nil, List.cons_append, List.nil_append, List.replicate, Out.map, List.append_eq, List.all_cons, List.all_nil, decide_not, ne_eq, lim_lit, List.length_map, Int.reduceLE, Int.reduceLT, Int.reduceToNat, Nat.reduceAdd, Nat.reduceSub, Nat.reduceLeDiff, Nat.reduceEqDiff, Int.reduceNeg, Int.reduceEq, Nat.reduceLT, Nat.reduceMul, mulI, fdivI, rngI1, rngI2, Int.cast_ofNat_Int, Int.toNat_natCast, Option.bind_none, Option.map_none, Int.reduceAdd, Int.reduceSub, compTu, nf, i2, e2, fr, fz_sp]
      rw [List.take_add_one, e, List.map_append, List.map_append]
      rfl
  · rintro acc _ ⟨rfl, rfl⟩ _
    rw [List.length_map, List.take_length]
    simp -implicitDefEqProofs (disch := first | assumption | exact st_no | exact st_v | exact fst_no | omega) only [xs1, xs2, xs3, rd, rds, vals, cont, Sl.cont, D.fz, fzL, cmpD, ordD, eqD_int, eqD_in, eqD_ni, eqD_nn, eqD_bb, isD, D.isNon, idx_tup, idx_lst, idx_ro, idx_own, addI, subI, fdivD, modD, negD, truD, bltD, lenD_items, listD, tupleD, absD_int, intD, tyD, D.items, D.isL, mutD, appD, extD, mutArgs, argsOf, argOf, lentS, places, back, backOne, outs, setL, ownAt, parS, lock, unlock, wipeS, putBack, free_zero, free_succ, fst_no, fst_v, rngOf1, rngOf2, srcOf, kit_bb, wp_some, retq_rt, retq_nx, turn_nx, turn_ct, turnp_nx, turnp_ct, turnp_rt, turnp_bk, Option.toList, Int.zero_add, Int.sub_zero, List.getElem?_cons_succ, List.getElem?_cons_zero, List.set_cons_succ, List.set_cons_zero, Option.bind_some, Option.map_some, if_true, if_false, decide_true, decide_false, Bool.false_eq_true, store_zero, store_succ, st_no, st_v, atI_pos, ix50, ix51, ix52, ix53, ix54, ixN_pos, Option.bind_some, List.nodup_nil, List.nodup_cons, List.mem_cons, List.not_mem_nil, or_false, or_true, false_or, not_false_eq_true, not_true, and_self, and_true, true_and, Bool.and_true, Bool.true_and, Bool.and_self, Bool.and_false, Bool.false_and, Bool.not_true, Bool.not_false, List.length_cons, List.length_nil, List.cons_append, List.nil_append, List.replicate, Out.map, List.append_eq, List.all_cons, List.all_nil, decide_not, ne_eq, lim_lit, List.length_map, Int.reduceLE, Int.reduceLT, Int.reduceToNat, Nat.reduceAdd, Nat.reduceSub, Nat.reduceLeDiff, Nat.reduceEqDiff, Int.reduceNeg, Int.reduceEq, Nat.reduceLT, Nat.reduceMul, mulI, fdivI, rngI1, rngI2, Int.cast_ofNat_Int, Int.toNat_natCast, Option.bind_none, Option.map_none, Int.reduceAdd, Int.reduceSub, fz_tr, dems]
theorem ldemands_eq (hn : NetD n h sp bs ws net) (hn2 : n ≤ 12) : evF T 1000 (k + 3) 29 [.v net] = some (.own ((dems h n sp bs ws).map trD), [.no]) := by
  refine wp_eq.mp (evF_wp T__law_demands rfl ?_)
  obtain ⟨_, e1, rfl⟩ := lbasic_ok (k := k + 1) hn hn2
  have nf := hn.fz
  have i2 := hn.i2
  have bl := basic_len hn hn2
  have rp := basic_rowp hn
  simp -implicitDefEqProofs (disch := first | assumption | exact st_no | exact st_v | exact fst_no | omega) only [xs1, xs2, xs3, rd, rds, vals, cont, Sl.cont, D.fz, fzL, cmpD, ordD, eqD_int, eqD_in, eqD_ni, eqD_nn, eqD_bb, isD, D.isNon, idx_tup, idx_lst, idx_ro, idx_own, addI, subI, fdivD, modD, negD, truD, bltD, lenD_items, listD, tupleD, absD_int, intD, tyD, D.items, D.isL, mutD, appD, extD, mutArgs, argsOf, argOf, lentS, places, back, backOne, outs, setL, ownAt, parS, lock, unlock, wipeS, putBack, free_zero, free_succ, fst_no, fst_v, rngOf1, rngOf2, srcOf, kit_bb, wp_some, retq_rt, retq_nx, turn_nx, turn_ct, turnp_nx, turnp_ct, turnp_rt, turnp_bk, Option.toList, Int.zero_add, Int.sub_zero, List.getElem?_cons_succ, List.getElem?_cons_zero, List.set_cons_succ, List.set_cons_zero, Option.bind_some, Option.map_some, if_true, if_false, decide_true, decide_false, Bool.false_eq_true, store_zero, store_succ, st_no, st_v, atI_pos, ix50, ix51, ix52, ix53, ix54, ixN_pos, Option.bind_some, List.nodup_nil, List.nodup_cons, List.mem_cons, List.not_mem_nil, or_false, or_true, false_or, not_false_eq_true, not_true, and_self, and_true, true_and, Bool.and_true, Bool.true_and, Bool.and_self, Bool.and_false, Bool.false_and, Bool.not_true, Bool.not_false, List.length_cons, List.length_nil, List.cons_append, List.nil_append, List.replicate, Out.map, List.append_eq, List.all_cons, List.all_nil, decide_not, ne_eq, lim_lit, List.length_map, Int.reduceLE, Int.reduceLT, Int.reduceToNat, Nat.reduceAdd, Nat.reduceSub, Nat.reduceLeDiff, Nat.reduceEqDiff, Int.reduceNeg, Int.reduceEq, Nat.reduceLT, Nat.reduceMul, mulI, fdivI, rngI1, rngI2, Int.cast_ofNat_Int, Int.toNat_natCast, Option.bind_none, Option.map_none, Int.reduceAdd, Int.reduceSub, b__law_demands, nf, e1, fz_rows]
  repeat with_reducible refine wp_b ?_
  refine wp_comp (fun i acc ρ => ρ = [.v net, .no] ∧ acc = (((basicR h n sp bs ws).take i).map (dem sp)).map trD) ?_ ?_ ?_ ?_
  · exact ⟨rfl, rfl⟩
  · rw [List.length_map, lim_lit]; simp; omega
  · rintro i v acc _ hi ⟨rfl, rfl⟩
    rw [List.getElem?_map] at hi
    cases e : (basicR h n sp bs ws)[i]? with
    | none => rw [e] at hi; cases hi
    | some r =>
      rw [e] at hi
      cases hi
      have e2 := ldemand_eq (k := k) (rp r (List.mem_of_getElem? e)) hn.len hn2
      have fr := fz_row r
      simp -implicitDefEqProofs (disch := first | assumption | exact st_no | exact st_v | exact fst_no | omega) only [xs1, xs2, xs3, rd, rds, vals, cont, Sl.cont, D.fz, fzL, cmpD, ordD, eqD_int, eqD_in, eqD_ni, eqD_nn, eqD_bb, isD, D.isNon, idx_tup, idx_lst, idx_ro, idx_own, addI, subI, fdivD, modD, negD, truD, bltD, lenD_items, listD, tupleD, absD_int, intD, tyD, D.items, D.isL, mutD, appD, extD, mutArgs, argsOf, argOf, lentS, places, back, backOne, outs, setL, ownAt, parS, lock, unlock, wipeS, putBack, free_zero, free_succ, fst_no, fst_v, rngOf1, rngOf2, srcOf, kit_bb, wp_some, retq_rt, retq_nx, turn_nx, turn_ct, turnp_nx, turnp_ct, turnp_rt, turnp_bk, Option.toList, Int.zero_add, Int.sub_zero, List.getElem?_cons_succ, List.getElem?_cons_zero, List.set_cons_succ, List.set_cons_zero, Option.bind_some, Option.map_some, if_true, if_false, decide_true, decide_false, Bool.false_eq_true, store_zero, store_succ, st_no, st_v, atI_pos, ix50, ix51, ix52, ix53, ix54, ixN_pos, Option.bind_some, List.nodup_nil, List.nodup_cons, List.mem_cons, List.not_mem_nil, or_false, or_true, false_or, not_false_eq_true, not_true, and_self, and_true, true_and, Bool.and_true, Bool.true_and, Bool.and_self, Bool.and_false, Bool.false_and, Bool.not_true, Bool.not_false, List.length_cons, List.length_nil, List.cons_append, List.nil_append, List.replicate, Out.map, List.append_eq, List.all_cons, List.all_nil, decide_not, ne_eq, lim_lit, List.length_map, Int.reduceLE, Int.reduceLT, Int.reduceToNat, Nat.reduceAdd, Nat.reduceSub, Nat.reduceLeDiff, Nat.reduceEqDiff, Int.reduceNeg, Int.reduceEq, Nat.reduceLT, Nat.reduceMul, mulI, fdivI, rngI1, rngI2, Int.cast_ofNat_Int, Int.toNat_natCast, Option.bind_none, Option.map_none, Int.reduceAdd, Int.reduceSub, compTu, nf, i2, e2, fr, fz_sp]
      rw [List.take_add_one, e, List.map_append, List.map_append]
      rfl
  · rintro acc _ ⟨rfl, rfl⟩ _
    rw [List.length_map, List.take_length]
    simp -implicitDefEqProofs (disch := first | assumption | exact st_no | exact st_v | exact fst_no | omega) only [xs1, xs2, xs3, rd, rds, vals, cont, Sl.cont, D.fz, fzL, cmpD, ordD, eqD_int, eqD_in, eqD_ni, eqD_nn, eqD_bb, isD, D.isNon, idx_tup, idx_lst, idx_ro, idx_own, addI, subI, fdivD, modD, negD, truD, bltD, lenD_items, listD, tupleD, absD_int, intD, tyD, D.items, D.isL, mutD, appD, extD, mutArgs, argsOf, argOf, lentS, places, back, backOne, outs, setL, ownAt, parS, lock, unlock, wipeS, putBack, free_zero, free_succ, fst_no, fst_v, rngOf1, rngOf2, srcOf, kit_bb, wp_some, retq_rt, retq_nx, turn_nx, turn_ct, turnp_nx, turnp_ct, turnp_rt, turnp_bk, Option.toList, Int.zero_add, Int.sub_zero, List.getElem?_cons_succ, List.getElem?_cons_zero, List.set_cons_succ, List.set_cons_zero, Option.bind_some, Option.map_some, if_true, if_false, decide_true, decide_false, Bool.false_eq_true, store_zero, store_succ, st_no, st_v, atI_pos, ix50, ix51, ix52, ix53, ix54, ixN_pos, Option.bind_some, List.nodup_nil, List.nodup_cons, List.mem_cons, List.not_mem_nil, or_false, or_true, false_or, not_false_eq_true, not_true, and_self, and_true, true_and, Bool.and_true, Bool.true_and, Bool.and_self, Bool.and_false, Bool.false_and, Bool.not_true, Bool.not_false, List.length_cons, List.length_nil, List.cons_append, List.nil_append, List.replicate, Out.map, List.append_eq, List.all_cons, List.all_nil, decide_not, ne_eq, lim_lit, List.length_map, Int.reduceLE, Int.reduceLT, Int.reduceToNat, Nat.reduceAdd, Nat.reduceSub, Nat.reduceLeDiff, Nat.reduceEqDiff, Int.reduceNeg, Int.reduceEq, Nat.reduceLT, Nat.reduceMul, mulI, fdivI, rngI1, rngI2, Int.cast_ofNat_Int, Int.toNat_natCast, Option.bind_none, Option.map_none, Int.reduceAdd, Int.reduceSub, dems]
def fixS (L : List Int) : List (Int × Int) := L.map fun x => (x, x)
def fixN (h : Int) (L : List Int) (bs ws : List (Int × Int × Int)) : D := .tup [.str "net", .int h, .tup ((fixS L).map spD), .tup (bs.map trD), .tup (ws.map trD)]
theorem fix_eq (hn : NetD n h sp bs ws net) {L : List Int} (hL : L.length ≤ 1000) : evF T 1000 (k + 1) 12 [.v net, .v (.tup (L.map D.int))] = some (fixN h L bs ws, [.no, .no]) := by
  refine wp_eq.mp (evF_wp T_fixed_net rfl ?_)
  have nf := hn.fz
  have i1 := hn.i1
  have i3 := hn.i3
  have i4 := hn.i4
  simp -implicitDefEqProofs (disch := first | assumption | exact st_no | exact st_v | exact fst_no | omega) only [xs1, xs2, xs3, rd, rds, vals, cont, Sl.cont, D.fz, fzL, cmpD, ordD, eqD_int, eqD_in, eqD_ni, eqD_nn, eqD_bb, isD, D.isNon, idx_tup, idx_lst, idx_ro, idx_own, addI, subI, fdivD, modD, negD, truD, bltD, lenD_items, listD, tupleD, absD_int, intD, tyD, D.items, D.isL, mutD, appD, extD, mutArgs, argsOf, argOf, lentS, places, back, backOne, outs, setL, ownAt, parS, lock, unlock, wipeS, putBack, free_zero, free_succ, fst_no, fst_v, rngOf1, rngOf2, srcOf, kit_bb, wp_some, retq_rt, retq_nx, turn_nx, turn_ct, turnp_nx, turnp_ct, turnp_rt, turnp_bk, Option.toList, Int.zero_add, Int.sub_zero, List.getElem?_cons_succ, List.getElem?_cons_zero, List.set_cons_succ, List.set_cons_zero, Option.bind_some, Option.map_some, if_true, if_false, decide_true, decide_false, Bool.false_eq_true, store_zero, store_succ, st_no, st_v, atI_pos, ix50, ix51, ix52, ix53, ix54, ixN_pos, Option.bind_some, List.nodup_nil, List.nodup_cons, List.mem_cons, List.not_mem_nil, or_false, or_true, false_or, not_false_eq_true, not_true, and_self, and_true, true_and, Bool.and_true, Bool.true_and, Bool.and_self, Bool.and_false, Bool.false_and, Bool.not_true, Bool.not_false, List.length_cons, List.length_nil, List.cons_append, List.nil_append, List.replicate, Out.map, List.append_eq, List.all_cons, List.all_nil, decide_not, ne_eq, lim_lit, List.length_map, Int.reduceLE, Int.reduceLT, Int.reduceToNat, Nat.reduceAdd, Nat.reduceSub, Nat.reduceLeDiff, Nat.reduceEqDiff, Int.reduceNeg, Int.reduceEq, Nat.reduceLT, Nat.reduceMul, mulI, fdivI, rngI1, rngI2, Int.cast_ofNat_Int, Int.toNat_natCast, Option.bind_none, Option.map_none, Int.reduceAdd, Int.reduceSub, b_fixed_net, nf, i1, i3, i4, fzL_ints]
  repeat with_reducible refine wp_b ?_
  refine wp_comp (fun i acc ρ => ρ = [.v net, .v (.tup (L.map D.int)), .no] ∧ acc = (fixS (L.take i)).map spD) ?_ ?_ ?_ ?_
  · exact ⟨rfl, rfl⟩
  · rw [List.length_map, lim_lit]; simp; omega
  · rintro i v acc _ hi ⟨rfl, rfl⟩
    obtain ⟨w, hw, rfl⟩ := map_get hi
    simp -implicitDefEqProofs (disch := first | assumption | exact st_no | exact st_v | exact fst_no | omega) only [xs1, xs2, xs3, rd, rds, vals, cont, Sl.cont, D.fz, fzL, cmpD, ordD, eqD_int, eqD_in, eqD_ni, eqD_nn, eqD_bb, isD, D.isNon, idx_tup, idx_lst, idx_ro, idx_own, addI, subI, fdivD, modD, negD, truD, bltD, lenD_items, listD, tupleD, absD_int, intD, tyD, D.items, D.isL, mutD, appD, extD, mutArgs, argsOf, argOf, lentS, places, back, backOne, outs, setL, ownAt, parS, lock, unlock, wipeS, putBack, free_zero, free_succ, fst_no, fst_v, rngOf1, rngOf2, srcOf, kit_bb, wp_some, retq_rt, retq_nx, turn_nx, turn_ct, turnp_nx, turnp_ct, turnp_rt, turnp_bk, Option.toList, Int.zero_add, Int.sub_zero, List.getElem?_cons_succ, List.getElem?_cons_zero, List.set_cons_succ, List.set_cons_zero, Option.bind_some, Option.map_some, if_true, if_false, decide_true, decide_false, Bool.false_eq_true, store_zero, store_succ, st_no, st_v, atI_pos, ix50, ix51, ix52, ix53, ix54, ixN_pos, Option.bind_some, List.nodup_nil, List.nodup_cons, List.mem_cons, List.not_mem_nil, or_false, or_true, false_or, not_false_eq_true, not_true, and_self, and_true, true_and, Bool.and_true, Bool.true_and, Bool.and_self, Bool.and_false, Bool.false_and, Bool.not_true, Bool.not_false, List.length_cons, List.length_nil, List.cons_append, List.nil_append, List.replicate, Out.map, List.append_eq, List.all_cons, List.all_nil, decide_not, ne_eq, lim_lit, List.length_map, Int.reduceLE, Int.reduceLT, Int.reduceToNat, Nat.reduceAdd, Nat.reduceSub, Nat.reduceLeDiff, Nat.reduceEqDiff, Int.reduceNeg, Int.reduceEq, Nat.reduceLT, Nat.reduceMul, mulI, fdivI, rngI1, rngI2, Int.cast_ofNat_Int, Int.toNat_natCast, Option.bind_none, Option.map_none, Int.reduceAdd, Int.reduceSub, compTu]
    unfold fixS
    rw [List.take_add_one, hw, List.map_append, List.map_append]
    rfl
  · rintro acc _ ⟨rfl, rfl⟩ _
    rw [List.length_map, List.take_length]
    simp -implicitDefEqProofs (disch := first | assumption | exact st_no | exact st_v | exact fst_no | omega) only [xs1, xs2, xs3, rd, rds, vals, cont, Sl.cont, D.fz, fzL, cmpD, ordD, eqD_int, eqD_in, eqD_ni, eqD_nn, eqD_bb, isD, D.isNon, idx_tup, idx_lst, idx_ro, idx_own, addI, subI, fdivD, modD, negD, truD, bltD, lenD_items, listD, tupleD, absD_int, intD, tyD, D.items, D.isL, mutD, appD, extD, mutArgs, argsOf, argOf, lentS, places, back, backOne, outs, setL, ownAt, parS, lock, unlock, wipeS, putBack, free_zero, free_succ, fst_no, fst_v, rngOf1, rngOf2, srcOf, kit_bb, wp_some, retq_rt, retq_nx, turn_nx, turn_ct, turnp_nx, turnp_ct, turnp_rt, turnp_bk, Option.toList, Int.zero_add, Int.sub_zero, List.getElem?_cons_succ, List.getElem?_cons_zero, List.set_cons_succ, List.set_cons_zero, Option.bind_some, Option.map_some, if_true, if_false, decide_true, decide_false, Bool.false_eq_true, store_zero, store_succ, st_no, st_v, atI_pos, ix50, ix51, ix52, ix53, ix54, ixN_pos, Option.bind_some, List.nodup_nil, List.nodup_cons, List.mem_cons, List.not_mem_nil, or_false, or_true, false_or, not_false_eq_true, not_true, and_self, and_true, true_and, Bool.and_true, Bool.true_and, Bool.and_self, Bool.and_false, Bool.false_and, Bool.not_true, Bool.not_false, List.length_cons, List.length_nil, List.cons_append, List.nil_append, List.replicate, Out.map, List.append_eq, List.all_cons, List.all_nil, decide_not, ne_eq, lim_lit, List.length_map, Int.reduceLE, Int.reduceLT, Int.reduceToNat, Nat.reduceAdd, Nat.reduceSub, Nat.reduceLeDiff, Nat.reduceEqDiff, Int.reduceNeg, Int.reduceEq, Nat.reduceLT, Nat.reduceMul, mulI, fdivI, rngI1, rngI2, Int.cast_ofNat_Int, Int.toNat_natCast, Option.bind_none, Option.map_none, Int.reduceAdd, Int.reduceSub, nf, i3, i4, fz_sp, fz_tr, fzL_ints, fixN]
theorem lat_eq (hn : NetD n h sp bs ws net) {L : List Int} (hL : L.length ≤ 1000) : evF T 1000 (k + 1) 30 [.v net, .v (.tup (L.map D.int))] = some (fixN h L bs ws, [.no, .no]) := by
  refine wp_eq.mp (evF_wp T__law_at rfl ?_)
  have nf := hn.fz
  have i1 := hn.i1
  have i3 := hn.i3
  have i4 := hn.i4
  simp -implicitDefEqProofs (disch := first | assumption | exact st_no | exact st_v | exact fst_no | omega) only [xs1, xs2, xs3, rd, rds, vals, cont, Sl.cont, D.fz, fzL, cmpD, ordD, eqD_int, eqD_in, eqD_ni, eqD_nn, eqD_bb, isD, D.isNon, idx_tup, idx_lst, idx_ro, idx_own, addI, subI, fdivD, modD, negD, truD, bltD, lenD_items, listD, tupleD, absD_int, intD, tyD, D.items, D.isL, mutD, appD, extD, mutArgs, argsOf, argOf, lentS, places, back, backOne, outs, setL, ownAt, parS, lock, unlock, wipeS, putBack, free_zero, free_succ, fst_no, fst_v, rngOf1, rngOf2, srcOf, kit_bb, wp_some, retq_rt, retq_nx, turn_nx, turn_ct, turnp_nx, turnp_ct, turnp_rt, turnp_bk, Option.toList, Int.zero_add, Int.sub_zero, List.getElem?_cons_succ, List.getElem?_cons_zero, List.set_cons_succ, List.set_cons_zero, Option.bind_some, Option.map_some, if_true, if_false, decide_true, decide_false, Bool.false_eq_true, store_zero, store_succ, st_no, st_v, atI_pos, ix50, ix51, ix52, ix53, ix54, ixN_pos, Option.bind_some, List.nodup_nil, List.nodup_cons, List.mem_cons, List.not_mem_nil, or_false, or_true, false_or, not_false_eq_true, not_true, and_self, and_true, true_and, Bool.and_true, Bool.true_and, Bool.and_self, Bool.and_false, Bool.false_and, Bool.not_true, Bool.not_false, List.length_cons, List.length_nil, List.cons_append, List.nil_append, List.replicate, Out.map, List.append_eq, List.all_cons, List.all_nil, decide_not, ne_eq, lim_lit, List.length_map, Int.reduceLE, Int.reduceLT, Int.reduceToNat, Nat.reduceAdd, Nat.reduceSub, Nat.reduceLeDiff, Nat.reduceEqDiff, Int.reduceNeg, Int.reduceEq, Nat.reduceLT, Nat.reduceMul, mulI, fdivI, rngI1, rngI2, Int.cast_ofNat_Int, Int.toNat_natCast, Option.bind_none, Option.map_none, Int.reduceAdd, Int.reduceSub, b__law_at, nf, i1, i3, i4, fzL_ints]
  repeat with_reducible refine wp_b ?_
  refine wp_comp (fun i acc ρ => ρ = [.v net, .v (.tup (L.map D.int)), .no] ∧ acc = (fixS (L.take i)).map spD) ?_ ?_ ?_ ?_
  · exact ⟨rfl, rfl⟩
  · rw [List.length_map, lim_lit]; simp; omega
  · rintro i v acc _ hi ⟨rfl, rfl⟩
    obtain ⟨w, hw, rfl⟩ := map_get hi
    simp -implicitDefEqProofs (disch := first | assumption | exact st_no | exact st_v | exact fst_no | omega) only [xs1, xs2, xs3, rd, rds, vals, cont, Sl.cont, D.fz, fzL, cmpD, ordD, eqD_int, eqD_in, eqD_ni, eqD_nn, eqD_bb, isD, D.isNon, idx_tup, idx_lst, idx_ro, idx_own, addI, subI, fdivD, modD, negD, truD, bltD, lenD_items, listD, tupleD, absD_int, intD, tyD, D.items, D.isL, mutD, appD, extD, mutArgs, argsOf, argOf, lentS, places, back, backOne, outs, setL, ownAt, parS, lock, unlock, wipeS, putBack, free_zero, free_succ, fst_no, fst_v, rngOf1, rngOf2, srcOf, kit_bb, wp_some, retq_rt, retq_nx, turn_nx, turn_ct, turnp_nx, turnp_ct, turnp_rt, turnp_bk, Option.toList, Int.zero_add, Int.sub_zero, List.getElem?_cons_succ, List.getElem?_cons_zero, List.set_cons_succ, List.set_cons_zero, Option.bind_some, Option.map_some, if_true, if_false, decide_true, decide_false, Bool.false_eq_true, store_zero, store_succ, st_no, st_v, atI_pos, ix50, ix51, ix52, ix53, ix54, ixN_pos, Option.bind_some, List.nodup_nil, List.nodup_cons, List.mem_cons, List.not_mem_nil, or_false, or_true, false_or, not_false_eq_true, not_true, and_self, and_true, true_and, Bool.and_true, Bool.true_and, Bool.and_self, Bool.and_false, Bool.false_and, Bool.not_true, Bool.not_false, List.length_cons, List.length_nil, List.cons_append, List.nil_append, List.replicate, Out.map, List.append_eq, List.all_cons, List.all_nil, decide_not, ne_eq, lim_lit, List.length_map, Int.reduceLE, Int.reduceLT, Int.reduceToNat, Nat.reduceAdd, Nat.reduceSub, Nat.reduceLeDiff, Nat.reduceEqDiff, Int.reduceNeg, Int.reduceEq, Nat.reduceLT, Nat.reduceMul, mulI, fdivI, rngI1, rngI2, Int.cast_ofNat_Int, Int.toNat_natCast, Option.bind_none, Option.map_none, Int.reduceAdd, Int.reduceSub, compTu]
    unfold fixS
    rw [List.take_add_one, hw, List.map_append, List.map_append]
    rfl
  · rintro acc _ ⟨rfl, rfl⟩ _
    rw [List.length_map, List.take_length]
    simp -implicitDefEqProofs (disch := first | assumption | exact st_no | exact st_v | exact fst_no | omega) only [xs1, xs2, xs3, rd, rds, vals, cont, Sl.cont, D.fz, fzL, cmpD, ordD, eqD_int, eqD_in, eqD_ni, eqD_nn, eqD_bb, isD, D.isNon, idx_tup, idx_lst, idx_ro, idx_own, addI, subI, fdivD, modD, negD, truD, bltD, lenD_items, listD, tupleD, absD_int, intD, tyD, D.items, D.isL, mutD, appD, extD, mutArgs, argsOf, argOf, lentS, places, back, backOne, outs, setL, ownAt, parS, lock, unlock, wipeS, putBack, free_zero, free_succ, fst_no, fst_v, rngOf1, rngOf2, srcOf, kit_bb, wp_some, retq_rt, retq_nx, turn_nx, turn_ct, turnp_nx, turnp_ct, turnp_rt, turnp_bk, Option.toList, Int.zero_add, Int.sub_zero, List.getElem?_cons_succ, List.getElem?_cons_zero, List.set_cons_succ, List.set_cons_zero, Option.bind_some, Option.map_some, if_true, if_false, decide_true, decide_false, Bool.false_eq_true, store_zero, store_succ, st_no, st_v, atI_pos, ix50, ix51, ix52, ix53, ix54, ixN_pos, Option.bind_some, List.nodup_nil, List.nodup_cons, List.mem_cons, List.not_mem_nil, or_false, or_true, false_or, not_false_eq_true, not_true, and_self, and_true, true_and, Bool.and_true, Bool.true_and, Bool.and_self, Bool.and_false, Bool.false_and, Bool.not_true, Bool.not_false, List.length_cons, List.length_nil, List.cons_append, List.nil_append, List.replicate, Out.map, List.append_eq, List.all_cons, List.all_nil, decide_not, ne_eq, lim_lit, List.length_map, Int.reduceLE, Int.reduceLT, Int.reduceToNat, Nat.reduceAdd, Nat.reduceSub, Nat.reduceLeDiff, Nat.reduceEqDiff, Int.reduceNeg, Int.reduceEq, Nat.reduceLT, Nat.reduceMul, mulI, fdivI, rngI1, rngI2, Int.cast_ofNat_Int, Int.toNat_natCast, Option.bind_none, Option.map_none, Int.reduceAdd, Int.reduceSub, nf, i3, i4, fz_sp, fz_tr, fzL_ints, fixN]
theorem netD_fix (hn : NetD n h sp bs ws net) {L : List Int} (hL : L.length = n) (hl : ∀ x ∈ L, 1 ≤ x ∧ x < 1000) : NetD n h (fixS L) bs ws (fixN h L bs ws) :=
  ⟨rfl, by unfold fixS; rw [List.length_map]; exact hL, fun p hp => by
    unfold fixS at hp
    obtain ⟨x, hx, rfl⟩ := List.mem_map.mp hp
    have := hl x hx
    simp only
    omega, hn.bds, hn.wts, hn.lb, hn.lw⟩
theorem at_eq (hn : NetD n h sp bs ws net) (hn2 : n ≤ 12) {L : List Int} (hL : L.length = n) (hl : ∀ x ∈ L, 1 ≤ x ∧ x < 1000) : evF T 1000 (k + 5) 13 [.v net, .v (.tup (L.map D.int))] = some (.tup ((dems h n (fixS L) bs ws).map trD), [.no, .no]) := by
  refine wp_eq.mp (evF_wp T_demands_at rfl ?_)
  have nf := hn.fz
  have e1 := fix_eq (k := k + 3) hn (L := L) (by omega)
  have hn' := netD_fix hn hL hl
  have nf' := hn'.fz
  have e2 := printed_eq (k := k) hn' hn2
  simp -implicitDefEqProofs (disch := first | assumption | exact st_no | exact st_v | exact fst_no | omega) only [xs1, xs2, xs3, rd, rds, vals, cont, Sl.cont, D.fz, fzL, cmpD, ordD, eqD_int, eqD_in, eqD_ni, eqD_nn, eqD_bb, isD, D.isNon, idx_tup, idx_lst, idx_ro, idx_own, addI, subI, fdivD, modD, negD, truD, bltD, lenD_items, listD, tupleD, absD_int, intD, tyD, D.items, D.isL, mutD, appD, extD, mutArgs, argsOf, argOf, lentS, places, back, backOne, outs, setL, ownAt, parS, lock, unlock, wipeS, putBack, free_zero, free_succ, fst_no, fst_v, rngOf1, rngOf2, srcOf, kit_bb, wp_some, retq_rt, retq_nx, turn_nx, turn_ct, turnp_nx, turnp_ct, turnp_rt, turnp_bk, Option.toList, Int.zero_add, Int.sub_zero, List.getElem?_cons_succ, List.getElem?_cons_zero, List.set_cons_succ, List.set_cons_zero, Option.bind_some, Option.map_some, if_true, if_false, decide_true, decide_false, Bool.false_eq_true, store_zero, store_succ, st_no, st_v, atI_pos, ix50, ix51, ix52, ix53, ix54, ixN_pos, Option.bind_some, List.nodup_nil, List.nodup_cons, List.mem_cons, List.not_mem_nil, or_false, or_true, false_or, not_false_eq_true, not_true, and_self, and_true, true_and, Bool.and_true, Bool.true_and, Bool.and_self, Bool.and_false, Bool.false_and, Bool.not_true, Bool.not_false, List.length_cons, List.length_nil, List.cons_append, List.nil_append, List.replicate, Out.map, List.append_eq, List.all_cons, List.all_nil, decide_not, ne_eq, lim_lit, List.length_map, Int.reduceLE, Int.reduceLT, Int.reduceToNat, Nat.reduceAdd, Nat.reduceSub, Nat.reduceLeDiff, Nat.reduceEqDiff, Int.reduceNeg, Int.reduceEq, Nat.reduceLT, Nat.reduceMul, mulI, fdivI, rngI1, rngI2, Int.cast_ofNat_Int, Int.toNat_natCast, Option.bind_none, Option.map_none, Int.reduceAdd, Int.reduceSub, b_demands_at, nf, fzL_ints, e1, nf', e2]
end
end K22


set_option maxRecDepth 100000
set_option maxHeartbeats 4000000
namespace K22
open PySem Co
/-! ### a row, kept at the corners -/
def pk (l u x : Int) : Int := if x = 0 then l else u
def lnf (sp : List (Int × Int)) (r : Row) (c i : Int) : Int :=
  if 0 < r.b ∧ i = (r.b - 1) / 2 then pk (lo sp i) (hi sp i) (c / 2) else if 0 < r.a ∧ i = (r.a - 1) / 2 then pk (lo sp i) (hi sp i) (c % 2) else lo sp i
def tv (S ln : Int → Int) (p : Int) : Int := if p = 0 then 0 else if p % 2 = 1 then S ((p - 1) / 2) else S ((p - 1) / 2) + ln ((p - 1) / 2)
def endP (S ln : Int → Int) (r : Row) : Prop :=
  match r.k with
  | none => False
  | some u => S u + ln u ≤ tv S ln r.a
def Br (S ln : Int → Int) (r : Row) : Prop := ¬ endP S ln r ∧ tv S ln r.a + r.w < tv S ln r.b
def mval (S : Int → Int) (p : Int) : Int := if p = 0 then 0 else S ((p - 1) / 2)
structure RowQ (n : Nat) (sp : List (Int × Int)) (r : Row) : Prop extends RowP n r where
  q0 : r.k = none → r.a ≠ r.b
  q1 : ∀ u, r.k = some u → r.b = 2 * u + 1 ∧ r.a ≠ 2 * u + 2 ∧ 0 ≤ u ∧ u < n ∧ -r.w ≤ hi sp u
theorem pk_b {l u x : Int} (h : l ≤ u) : l ≤ pk l u x ∧ pk l u x ≤ u := by unfold pk; split <;> omega
theorem kept_iff {n : Nat} {sp : List (Int × Int)} {r : Row} {S : Int → Int} (hq : RowQ n sp r) (hs : ∀ i : Int, 0 ≤ i → i < n → lo sp i ≤ hi sp i) : (∀ c : Int, 0 ≤ c → c < 4 → ¬ Br S (lnf sp r c) r) ↔ mval S r.b ≤ mval S r.a + dW sp r := by
  obtain ⟨⟨a0, a1, b0, b1⟩, q0, q1⟩ := hq
  have f1 : ∀ c i : Int, 0 ≤ i → i < n → lo sp i ≤ lnf sp r c i ∧ lnf sp r c i ≤ hi sp i := by
    intro c i h0 h1
    have := hs i h0 h1
    unfold lnf
    split
    · exact pk_b this
    · split
      · exact pk_b this
      · omega
  have f2 : 0 < r.b → lnf sp r 2 ((r.b - 1) / 2) = hi sp ((r.b - 1) / 2) := by
    intro h
    unfold lnf
    rw [if_pos ⟨h, rfl⟩]
    rfl
  have f3 : 0 < r.a → (r.b = 0 ∨ (r.a - 1) / 2 ≠ (r.b - 1) / 2) → lnf sp r 2 ((r.a - 1) / 2) = lo sp ((r.a - 1) / 2) := by
    intro h h2
    unfold lnf
    rw [if_neg (by omega), if_pos ⟨h, rfl⟩]
    rfl
  have f0 : ∀ i, lnf sp r 0 i = lo sp i := by
    intro i
    unfold lnf
    split
    · rfl
    · split <;> rfl
  -- the values
  have va : ∀ ln : Int → Int, (r.a = 0 ∧ tv S ln r.a = 0 ∧ mval S r.a = 0 ∧ isE r.a = false) ∨ (∃ A, (r.a = 2 * A + 1 ∧ 0 ≤ A) ∧ (r.a - 1) / 2 = A ∧ tv S ln r.a = S A ∧ mval S r.a = S A ∧ isE r.a = false) ∨ (∃ A, (r.a = 2 * A + 2 ∧ 0 ≤ A) ∧ (r.a - 1) / 2 = A ∧ tv S ln r.a = S A + ln A ∧ mval S r.a = S A ∧ isE r.a = true) := by
    intro ln
    unfold tv mval isE
    by_cases h0 : r.a = 0
    · exact .inl ⟨h0, if_pos h0, if_pos h0, decide_eq_false (by omega)⟩
    · by_cases h1 : r.a % 2 = 1
      · exact .inr (.inl ⟨_, ⟨by omega, by omega⟩, rfl, by rw [if_neg h0, if_pos h1], if_neg h0, decide_eq_false (by omega)⟩)
      · exact .inr (.inr ⟨_, ⟨by omega, by omega⟩, rfl, by rw [if_neg h0, if_neg h1], if_neg h0, decide_eq_true (by omega)⟩)
  have vb : ∀ ln : Int → Int, (r.b = 0 ∧ tv S ln r.b = 0 ∧ mval S r.b = 0 ∧ isE r.b = false) ∨ (∃ A, (r.b = 2 * A + 1 ∧ 0 ≤ A) ∧ (r.b - 1) / 2 = A ∧ tv S ln r.b = S A ∧ mval S r.b = S A ∧ isE r.b = false) ∨ (∃ A, (r.b = 2 * A + 2 ∧ 0 ≤ A) ∧ (r.b - 1) / 2 = A ∧ tv S ln r.b = S A + ln A ∧ mval S r.b = S A ∧ isE r.b = true) := by
    intro ln
    unfold tv mval isE
    by_cases h0 : r.b = 0
    · exact .inl ⟨h0, if_pos h0, if_pos h0, decide_eq_false (by omega)⟩
    · by_cases h1 : r.b % 2 = 1
      · exact .inr (.inl ⟨_, ⟨by omega, by omega⟩, rfl, by rw [if_neg h0, if_pos h1], if_neg h0, decide_eq_false (by omega)⟩)
      · exact .inr (.inr ⟨_, ⟨by omega, by omega⟩, rfl, by rw [if_neg h0, if_neg h1], if_neg h0, decide_eq_true (by omega)⟩)
  unfold dW
  constructor
  · intro hall
    cases hk : r.k with
    | none =>
      have ab := q0 hk
      have key : ∀ c : Int, 0 ≤ c → c < 4 → tv S (lnf sp r c) r.b ≤ tv S (lnf sp r c) r.a + r.w := by
        intro c h0 h1
        have := hall c h0 h1
        unfold Br endP at this
        rw [hk] at this
        simp only [not_false_eq_true, true_and] at this
        omega
      have k2 := key 2 (by omega) (by omega)
      have k0 := key 0 (by omega) (by omega)
      rcases va (lnf sp r 2) with ⟨e, t, m, i⟩ | ⟨A, e, e2, t, m, i⟩ | ⟨A, e, e2, t, m, i⟩ <;>
      rcases vb (lnf sp r 2) with ⟨e', t', m', i'⟩ | ⟨B, e', e2', t', m', i'⟩ | ⟨B, e', e2', t', m', i'⟩ <;>
      rw [t, t'] at k2 <;> rw [m, m', i, i'] <;> simp only [if_true, if_false, Bool.false_eq_true]
      · omega
      · omega
      · have := f2 (by omega); rw [e2'] at this ⊢; omega
      · omega
      · omega
      · have := f2 (by omega); rw [e2'] at this ⊢; omega
      · have := f3 (by omega) (by omega); rw [e2] at this ⊢; omega
      · by_cases hAB : A = B
        · subst hAB
          rcases va (lnf sp r 0) with ⟨z, _⟩ | ⟨A2, z, _⟩ | ⟨A2, z, z2, t2, _⟩
          · omega
          · omega
          · rcases vb (lnf sp r 0) with ⟨y, _⟩ | ⟨B2, y, y2, t3, _⟩ | ⟨B2, y, _⟩
            · omega
            · rw [t2, t3, f0] at k0
              have h2 : A2 = A := by omega
              have h3 : B2 = A := by omega
              rw [h2, h3] at k0
              rw [e2]
              omega
            · omega
        · have := f3 (by omega) (by omega); rw [e2] at this ⊢; omega
      · have hAB : A ≠ B := by omega
        have g2 := f2 (by omega)
        have g3 := f3 (by omega) (by omega)
        rw [e2] at g3 ⊢
        rw [e2'] at g2 ⊢
        omega
    | some u =>
      obtain ⟨hb, hau, u0, u1, hw⟩ := q1 u hk
      have ub : (r.b - 1) / 2 = u := by omega
      have g2 := f2 (by omega)
      rw [ub] at g2
      have h2 := hall 2 (by omega) (by omega)
      unfold Br endP at h2
      rw [hk] at h2
      simp only at h2
      rw [g2] at h2
      rcases vb (lnf sp r 2) with ⟨e', t', m', i'⟩ | ⟨B, e', e2', t', m', i'⟩ | ⟨B, e', e2', t', m', i'⟩
      · omega
      · have : B = u := by omega
        subst this
        rcases va (lnf sp r 2) with ⟨e, t, m, i⟩ | ⟨A, e, e2, t, m, i⟩ | ⟨A, e, e2, t, m, i⟩ <;>
        rw [t, t'] at h2 <;> rw [m, m', i, i'] <;> simp only [if_true, if_false, Bool.false_eq_true]
        · by_cases hc : S B + hi sp B ≤ 0
          · omega
          · have : ¬ (0 + r.w < S B) := fun z => h2 ⟨hc, z⟩
            omega
        · by_cases hc : S B + hi sp B ≤ S A
          · omega
          · have : ¬ (S A + r.w < S B) := fun z => h2 ⟨hc, z⟩
            omega
        · have g3 := f3 (by omega) (by omega)
          rw [e2] at g3 ⊢
          rw [g3] at h2
          by_cases hc : S B + hi sp B ≤ S A + lo sp A
          · omega
          · have : ¬ (S A + lo sp A + r.w < S B) := fun z => h2 ⟨hc, z⟩
            omega
      · omega
  · intro hc c h0 h1 hbr
    obtain ⟨_, hlt⟩ := hbr
    rcases va (lnf sp r c) with ⟨e, t, m, i⟩ | ⟨A, e, e2, t, m, i⟩ | ⟨A, e, e2, t, m, i⟩ <;>
    rcases vb (lnf sp r c) with ⟨e', t', m', i'⟩ | ⟨B, e', e2', t', m', i'⟩ | ⟨B, e', e2', t', m', i'⟩ <;>
    rw [t, t'] at hlt <;> rw [m, m', i, i'] at hc <;> simp only [if_true, if_false, Bool.false_eq_true] at hc
    · omega
    · omega
    · have := f1 c B (by omega) (by omega); rw [e2'] at hc; omega
    · omega
    · omega
    · have := f1 c B (by omega) (by omega); rw [e2'] at hc; omega
    · have := f1 c A (by omega) (by omega); rw [e2] at hc; omega
    · have := f1 c A (by omega) (by omega); rw [e2] at hc; omega
    · have := f1 c A (by omega) (by omega)
      have := f1 c B (by omega) (by omega)
      rw [e2, e2'] at hc
      by_cases hAB : A = B
      · subst hAB
        cases hk : r.k with
        | none => exact absurd (by omega) (q0 hk)
        | some u => have := q1 u hk; omega
      · omega
end K22


set_option maxRecDepth 100000
set_option maxHeartbeats 4000000
namespace K22
open PySem Co
/-! ### the defs that keep a row -/
theorem gt_app {a b : List (Option Int)} {j : Nat} : gt (a ++ b) (j : Int) = if j < a.length then gt a (j : Int) else gt b ((j - a.length : Nat) : Int) := by
  unfold gt
  rw [Int.toNat_natCast, Int.toNat_natCast]
  simp only [List.getD_eq_getElem?_getD]
  split
  · rename_i h; rw [List.getElem?_append_left h]
  · rename_i h; rw [List.getElem?_append_right (by omega)]
structure FS (ps : List (Int × Int)) (ts : List (Option Int)) : Prop where
  len : ts.length = 2 * ps.length + 1
  t0 : gt ts 0 = some 0
  at_ : ∀ j : Nat, j < ps.length → gt ts (2 * j + 1) = some (ps.getD j (0, 0)).1 ∧ gt ts (2 * j + 2) = some (ps.getD j (0, 0)).2
section
variable {k n : Nat} {h : Int} {sp : List (Int × Int)} {bs ws : List (Int × Int × Int)} {net : D}
theorem full_eq {ps : List (Int × Int)} (hp : ps.length ≤ 12) : Wp (fun r => ∃ ts, r = (stD h ts, [.no, .bo (.own (ps.map spD))]) ∧ FS ps ts) (evF T 1000 (k + 1) 25 [.v (.int h), .bo (.own (ps.map spD))]) := by
  refine evF_wp T__law_full_state rfl ?_
  simp -implicitDefEqProofs (disch := first | assumption | exact st_no | exact st_v | exact fst_no | omega) only [xs1, xs2, xs3, rd, rds, vals, cont, Sl.cont, D.fz, fzL, cmpD, ordD, eqD_int, eqD_in, eqD_ni, eqD_nn, eqD_bb, isD, D.isNon, idx_tup, idx_lst, idx_ro, idx_own, addI, subI, fdivD, modD, negD, truD, bltD, lenD_items, listD, tupleD, absD_int, intD, tyD, D.items, D.isL, mutD, appD, extD, mutArgs, argsOf, argOf, lentS, places, back, backOne, outs, setL, ownAt, parS, lock, unlock, wipeS, putBack, free_zero, free_succ, fst_no, fst_v, rngOf1, rngOf2, srcOf, kit_bb, wp_some, retq_rt, retq_nx, turn_nx, turn_ct, turnp_nx, turnp_ct, turnp_rt, turnp_bk, Option.toList, Int.zero_add, Int.sub_zero, List.getElem?_cons_succ, List.getElem?_cons_zero, List.set_cons_succ, List.set_cons_zero, Option.bind_some, Option.map_some, if_true, if_false, decide_true, decide_false, Bool.false_eq_true, store_zero, store_succ, st_no, st_v, atI_pos, ix50, ix51, ix52, ix53, ix54, ixN_pos, Option.bind_some, List.nodup_nil, List.nodup_cons, List.mem_cons, List.not_mem_nil, or_false, or_true, false_or, not_false_eq_true, not_true, and_self, and_true, true_and, Bool.and_true, Bool.true_and, Bool.and_self, Bool.and_false, Bool.false_and, Bool.not_true, Bool.not_false, List.length_cons, List.length_nil, List.cons_append, List.nil_append, List.replicate, Out.map, List.append_eq, List.all_cons, List.all_nil, decide_not, ne_eq, lim_lit, List.length_map, Int.reduceLE, Int.reduceLT, Int.reduceToNat, Nat.reduceAdd, Nat.reduceSub, Nat.reduceLeDiff, Nat.reduceEqDiff, Int.reduceNeg, Int.reduceEq, Nat.reduceLT, Nat.reduceMul, mulI, fdivI, rngI1, rngI2, Int.cast_ofNat_Int, Int.toNat_natCast, Option.bind_none, Option.map_none, Int.reduceAdd, Int.reduceSub, b__law_full_state, fz_sp]
  repeat with_reducible refine wp_b ?_
  refine wp_for (fun i ρ => ∃ (ts : List (Option Int)) (s3 : Sl), ρ = [.v (.int h), .lk (.own (ps.map spD)), .v (.own (ts.map oi)), s3] ∧ St s3 ∧ ts.length = 2 * i + 1 ∧ gt ts 0 = some 0 ∧ ∀ j : Nat, j < i → gt ts (2 * j + 1) = some (ps.getD j (0, 0)).1 ∧ gt ts (2 * j + 2) = some (ps.getD j (0, 0)).2) ?_ ?_ ?_
  · exact ⟨[some 0], _, rfl, st_no, rfl, rfl, fun j z => by omega⟩
  · rintro i v _ hi ⟨ts, s3, rfl, h3, tl, t0, ta⟩
    have hil : i < ps.length := by have := (List.getElem?_eq_some_iff.mp hi).1; rwa [List.length_map] at this
    rw [get_sp hil] at hi
    cases hi
    have e : spD (ps.getD i (0, 0)) = .tup [.int (ps.getD i (0, 0)).1, .int (ps.getD i (0, 0)).2] := rfl
    rw [e]
    have ll : ts.length + 2 ≤ 16777216 := by omega
    simp -implicitDefEqProofs (disch := first | assumption | exact st_no | exact st_v | exact fst_no | omega) only [xs1, xs2, xs3, rd, rds, vals, cont, Sl.cont, D.fz, fzL, cmpD, ordD, eqD_int, eqD_in, eqD_ni, eqD_nn, eqD_bb, isD, D.isNon, idx_tup, idx_lst, idx_ro, idx_own, addI, subI, fdivD, modD, negD, truD, bltD, lenD_items, listD, tupleD, absD_int, intD, tyD, D.items, D.isL, mutD, appD, extD, mutArgs, argsOf, argOf, lentS, places, back, backOne, outs, setL, ownAt, parS, lock, unlock, wipeS, putBack, free_zero, free_succ, fst_no, fst_v, rngOf1, rngOf2, srcOf, kit_bb, wp_some, retq_rt, retq_nx, turn_nx, turn_ct, turnp_nx, turnp_ct, turnp_rt, turnp_bk, Option.toList, Int.zero_add, Int.sub_zero, List.getElem?_cons_succ, List.getElem?_cons_zero, List.set_cons_succ, List.set_cons_zero, Option.bind_some, Option.map_some, if_true, if_false, decide_true, decide_false, Bool.false_eq_true, store_zero, store_succ, st_no, st_v, atI_pos, ix50, ix51, ix52, ix53, ix54, ixN_pos, Option.bind_some, List.nodup_nil, List.nodup_cons, List.mem_cons, List.not_mem_nil, or_false, or_true, false_or, not_false_eq_true, not_true, and_self, and_true, true_and, Bool.and_true, Bool.true_and, Bool.and_self, Bool.and_false, Bool.false_and, Bool.not_true, Bool.not_false, List.length_cons, List.length_nil, List.cons_append, List.nil_append, List.replicate, Out.map, List.append_eq, List.all_cons, List.all_nil, decide_not, ne_eq, lim_lit, List.length_map, Int.reduceLE, Int.reduceLT, Int.reduceToNat, Nat.reduceAdd, Nat.reduceSub, Nat.reduceLeDiff, Nat.reduceEqDiff, Int.reduceNeg, Int.reduceEq, Nat.reduceLT, Nat.reduceMul, mulI, fdivI, rngI1, rngI2, Int.cast_ofNat_Int, Int.toNat_natCast, Option.bind_none, Option.map_none, Int.reduceAdd, Int.reduceSub, forTu, h3, ll]
    refine ⟨ts ++ [some (ps.getD i (0, 0)).1, some (ps.getD i (0, 0)).2], .v (.tup [.int (ps.getD i (0, 0)).1, .int (ps.getD i (0, 0)).2]), ?_, st_v, by simp [tl]; omega, ?_, fun j hj => ?_⟩
    · rw [List.map_append]; rfl
    · have := gt_app (a := ts) (b := [some (ps.getD i (0, 0)).1, some (ps.getD i (0, 0)).2]) (j := 0)
      rw [if_pos (by omega)] at this
      exact this.trans t0
    · have q1 := gt_app (a := ts) (b := [some (ps.getD i (0, 0)).1, some (ps.getD i (0, 0)).2]) (j := 2 * j + 1)
      have q2 := gt_app (a := ts) (b := [some (ps.getD i (0, 0)).1, some (ps.getD i (0, 0)).2]) (j := 2 * j + 2)
      rw [show ((2 * j + 1 : Nat) : Int) = 2 * (j : Int) + 1 by omega] at q1
      rw [show ((2 * j + 2 : Nat) : Int) = 2 * (j : Int) + 2 by omega] at q2
      rw [q1, q2]
      by_cases hji : j < i
      · rw [if_pos (by omega), if_pos (by omega)]
        exact ta j hji
      · have : j = i := by omega
        subst this
        rw [if_neg (by omega), if_neg (by omega), show 2 * j + 1 - ts.length = 0 by omega, show 2 * j + 2 - ts.length = 1 by omega]
        exact ⟨rfl, rfl⟩
  · rintro _ ⟨ts, s3, rfl, h3, tl, t0, ta⟩
    rw [List.length_map] at tl ta
    simp -implicitDefEqProofs (disch := first | assumption | exact st_no | exact st_v | exact fst_no | omega) only [xs1, xs2, xs3, rd, rds, vals, cont, Sl.cont, D.fz, fzL, cmpD, ordD, eqD_int, eqD_in, eqD_ni, eqD_nn, eqD_bb, isD, D.isNon, idx_tup, idx_lst, idx_ro, idx_own, addI, subI, fdivD, modD, negD, truD, bltD, lenD_items, listD, tupleD, absD_int, intD, tyD, D.items, D.isL, mutD, appD, extD, mutArgs, argsOf, argOf, lentS, places, back, backOne, outs, setL, ownAt, parS, lock, unlock, wipeS, putBack, free_zero, free_succ, fst_no, fst_v, rngOf1, rngOf2, srcOf, kit_bb, wp_some, retq_rt, retq_nx, turn_nx, turn_ct, turnp_nx, turnp_ct, turnp_rt, turnp_bk, Option.toList, Int.zero_add, Int.sub_zero, List.getElem?_cons_succ, List.getElem?_cons_zero, List.set_cons_succ, List.set_cons_zero, Option.bind_some, Option.map_some, if_true, if_false, decide_true, decide_false, Bool.false_eq_true, store_zero, store_succ, st_no, st_v, atI_pos, ix50, ix51, ix52, ix53, ix54, ixN_pos, Option.bind_some, List.nodup_nil, List.nodup_cons, List.mem_cons, List.not_mem_nil, or_false, or_true, false_or, not_false_eq_true, not_true, and_self, and_true, true_and, Bool.and_true, Bool.true_and, Bool.and_self, Bool.and_false, Bool.false_and, Bool.not_true, Bool.not_false, List.length_cons, List.length_nil, List.cons_append, List.nil_append, List.replicate, Out.map, List.append_eq, List.all_cons, List.all_nil, decide_not, ne_eq, lim_lit, List.length_map, Int.reduceLE, Int.reduceLT, Int.reduceToNat, Nat.reduceAdd, Nat.reduceSub, Nat.reduceLeDiff, Nat.reduceEqDiff, Int.reduceNeg, Int.reduceEq, Nat.reduceLT, Nat.reduceMul, mulI, fdivI, rngI1, rngI2, Int.cast_ofNat_Int, Int.toNat_natCast, Option.bind_none, Option.map_none, Int.reduceAdd, Int.reduceSub, fz_oi]
    exact ⟨ts, rfl, tl, t0, ta⟩
theorem pick2 {l u x : Int} (h0 : 0 ≤ x) (h1 : x < 2) : idxD (.tup [.int l, .int u]) (.int x) = some (.int (pk l u x)) := by
  have : x = 0 ∨ x = 1 := by omega
  rcases this with rfl | rfl <;> rfl
/-- the lengths at a corner -/
def Lc (sp : List (Int × Int)) (r : Row) (c : Int) : List Int :=
  let l0 := sp.map (·.1)
  let l1 := if 0 < r.a then l0.set ((r.a - 1) / 2).toNat (pk (lo sp ((r.a - 1) / 2)) (hi sp ((r.a - 1) / 2)) (c % 2)) else l0
  if 0 < r.b then l1.set ((r.b - 1) / 2).toNat (pk (lo sp ((r.b - 1) / 2)) (hi sp ((r.b - 1) / 2)) (c / 2)) else l1
theorem getD_set {l : List Int} {i j : Nat} {x : Int} (hi : i < l.length) : (l.set i x).getD j 0 = if j = i then x else l.getD j 0 := by
  simp only [List.getD_eq_getElem?_getD]
  split
  · rename_i e; subst e; rw [List.getElem?_set_self hi]; rfl
  · rename_i e; rw [List.getElem?_set_ne (fun z => e z.symm)]
theorem Lc_len {r : Row} {c : Int} : (Lc sp r c).length = sp.length := by
  unfold Lc
  simp only
  split <;> split <;> simp
theorem Lc_at {r : Row} {c : Int} (hr : RowP n r) (hl : sp.length = n) {i : Nat} (hi : i < n) : (Lc sp r c).getD i 0 = lnf sp r c i := by
  obtain ⟨a0, a1, b0, b1⟩ := hr
  have g0 : (sp.map (·.1)).getD i 0 = lo sp i := by
    unfold lo
    rw [Int.toNat_natCast, List.getD_eq_getElem?_getD, List.getD_eq_getElem?_getD, List.getElem?_map]
    cases sp[i]? <;> rfl
  unfold Lc lnf
  simp only
  have c1 : 0 < r.b → ((i = ((r.b - 1) / 2).toNat) ↔ (i : Int) = (r.b - 1) / 2) := fun _ => by omega
  have c2 : 0 < r.a → ((i = ((r.a - 1) / 2).toNat) ↔ (i : Int) = (r.a - 1) / 2) := fun _ => by omega
  by_cases ha : 0 < r.a
  · rw [if_pos ha]
    by_cases hb : 0 < r.b
    · rw [if_pos hb, getD_set (by simp; omega), getD_set (by simp; omega), g0]
      simp only [c1 hb, c2 ha, ha, hb, true_and]
      by_cases e1 : (i : Int) = (r.b - 1) / 2
      · simp only [e1, if_true]
      · simp only [e1, if_false]
        by_cases e2 : (i : Int) = (r.a - 1) / 2
        · simp only [e2, if_true]
        · simp only [e2, if_false]
    · rw [if_neg hb, getD_set (by simp; omega), g0]
      simp only [c2 ha, ha, hb, true_and, false_and, if_false]
      by_cases e2 : (i : Int) = (r.a - 1) / 2
      · simp only [e2, if_true]
      · simp only [e2, if_false]
  · rw [if_neg ha]
    by_cases hb : 0 < r.b
    · rw [if_pos hb, getD_set (by simp; omega), g0]
      simp only [c1 hb, ha, hb, true_and, false_and, if_false]
      by_cases e1 : (i : Int) = (r.b - 1) / 2
      · simp only [e1, if_true]
      · simp only [e1, if_false]
    · rw [if_neg hb, g0]
      simp only [ha, hb, false_and, if_false]
def Sf (S : List Int) (i : Int) : Int := S.getD i.toNat 0
/-- what the state's row tells -/
theorem brk_iff {r : Row} {c : Int} {S : List Int} {ps : List (Int × Int)} {ts : List (Option Int)} (hr : RowQ n sp r) (hl : sp.length = n) (hS : S.length = n) (hps : ps = (List.range n).map fun j => (S.getD j 0, S.getD j 0 + (Lc sp r c).getD j 0)) (fs : FS ps ts) : brk h ts r = true ↔ Br (Sf S) (lnf sp r c) r := by
  have hpl : ps.length = n := by rw [hps]; simp
  have pat : ∀ j : Nat, j < n → ps.getD j (0, 0) = (Sf S j, Sf S j + lnf sp r c j) := by
    intro j hj
    rw [hps, List.getD_eq_getElem?_getD, List.getElem?_map, List.getElem?_range hj]
    show (S.getD j 0, S.getD j 0 + (Lc sp r c).getD j 0) = _
    rw [Lc_at hr.toRowP hl hj]
    rfl
  have val : ∀ p : Int, 0 ≤ p → p ≤ 2 * n → gt ts p = some (tv (Sf S) (lnf sp r c) p) := by
    intro p h0 h1
    unfold tv
    by_cases hz : p = 0
    · subst hz; rw [if_pos rfl]; exact fs.t0
    · rw [if_neg hz]
      obtain ⟨j, hj⟩ := Int.eq_ofNat_of_zero_le (show 0 ≤ (p - 1) / 2 by omega)
      have hjn : j < n := by omega
      obtain ⟨q1, q2⟩ := fs.at_ j (by omega)
      rw [pat j hjn] at q1 q2
      by_cases ho : p % 2 = 1
      · rw [if_pos ho, hj, show p = 2 * (j : Int) + 1 by omega]
        exact q1
      · rw [if_neg ho, hj, show p = 2 * (j : Int) + 2 by omega]
        exact q2
  have ga := val r.a hr.a0 hr.a1
  have gb := val r.b hr.b0 hr.b1
  unfold brk Br endP endedB
  rw [ga, gb]
  simp only
  cases hk : r.k with
  | none => simp
  | some u =>
    obtain ⟨_, _, u0, u1, _⟩ := hr.q1 u hk
    have gu := val (2 * u + 2) (by omega) (by omega)
    have tu : tv (Sf S) (lnf sp r c) (2 * u + 2) = Sf S u + lnf sp r c u := by
      unfold tv
      rw [if_neg (by omega), if_neg (by omega), show (2 * u + 2 - 1) / 2 = u by omega]
    simp only [gu, tu]
    by_cases hc : Sf S u + lnf sp r c u ≤ tv (Sf S) (lnf sp r c) r.a
    · simp [hc]
    · simp [hc]
theorem rowQ_ok {r : Row} (hr : RowQ n sp r) : RowOk (2 * n + 1) r := ⟨hr.a0, by have := hr.a1; omega, hr.b0, by have := hr.b1; omega, fun u hu => by have := hr.q1 u hu; omega⟩
end
end K22


set_option maxRecDepth 100000
set_option maxHeartbeats 4000000
namespace K22
open PySem Co
def bodyOf : C → C
  | .cons (.for_ _ _ b) _ => b
  | _ => .nil
def tailOf : Nat → C → C
  | 0, c => c
  | n + 1, .cons _ r => tailOf n r
  | _, c => c
section
variable {k n : Nat} {h : Int} {sp : List (Int × Int)} {bs ws : List (Int × Int × Int)} {net : D}
theorem wp_bi {α β : Type} {P : β → Prop} {o : Option α} {F : α → Option β} : Wp P (o.bind F) ↔ Wp (fun x => Wp P (F x)) o := ⟨fun ⟨y, e, hy⟩ => by
  cases o with
  | none => cases e
  | some x => exact ⟨x, rfl, y, e, hy⟩, wp_b⟩
def keptB (sp : List (Int × Int)) (S : List Int) (r : Row) : Bool := decide (mval (Sf S) r.b ≤ mval (Sf S) r.a + dW sp r)
theorem los_map {i : Nat} (hi : i < sp.length) : sp.take (i + 1) = sp.take i ++ [sp.getD i (0, 0)] := by
  rw [List.take_add_one, List.getElem?_eq_getElem hi, List.getD_eq_getElem?_getD, List.getElem?_eq_getElem hi]
  rfl
theorem int_get {S : List Int} {i : Nat} (hi : i < S.length) : idxD (.own (S.map D.int)) (.int (i : Int)) = some (.int (S.getD i 0)) := by
  rw [idx_own, atI_pos (by omega), Int.toNat_natCast, get_ints hi]
  rfl
theorem kept_eq {S : List Int} {r : Row} (hn : NetD n h sp bs ws net) (hn2 : n ≤ 12) (hr : RowQ n sp r) (hS : S.length = n) : evF T 1000 (k + 2) 36 [.v net, .v (rowD r), .bo (.own (S.map D.int))] = some (.bl (keptB sp S r), [.no, .no, .bo (.own (S.map D.int))]) := by
  have hl := hn.len
  have nf := hn.fz
  have i1 := hn.i1
  have i2 := hn.i2
  have fr := fz_row r
  have r0 := row_i0 r
  have r1 := row_i1 r
  have iff_ := kept_iff (S := Sf S) hr (fun i h0 h1 => by
    have := (hn.sp _ (mem_sp (sp := sp) (i := i.toNat) (by omega))).2.1
    exact this)
  obtain ⟨a0, a1, b0, b1⟩ := hr.toRowP
  refine wp_eq.mp (evF_wp T__law_row_kept rfl ?_)
  simp -implicitDefEqProofs (disch := first | assumption | exact st_no | exact st_v | exact fst_no | omega) only [xs1, xs2, xs3, rd, rds, vals, cont, Sl.cont, D.fz, fzL, cmpD, ordD, eqD_int, eqD_in, eqD_ni, eqD_nn, eqD_bb, isD, D.isNon, idx_tup, idx_lst, idx_ro, idx_own, addI, subI, fdivD, modD, negD, truD, bltD, lenD_items, listD, tupleD, absD_int, intD, tyD, D.items, D.isL, mutD, appD, extD, mutArgs, argsOf, argOf, lentS, places, back, backOne, outs, setL, ownAt, parS, lock, unlock, wipeS, putBack, free_zero, free_succ, fst_no, fst_v, rngOf1, rngOf2, srcOf, kit_bb, wp_some, retq_rt, retq_nx, turn_nx, turn_ct, turnp_nx, turnp_ct, turnp_rt, turnp_bk, Option.toList, Int.zero_add, Int.sub_zero, List.getElem?_cons_succ, List.getElem?_cons_zero, List.set_cons_succ, List.set_cons_zero, Option.bind_some, Option.map_some, if_true, if_false, decide_true, decide_false, Bool.false_eq_true, store_zero, store_succ, st_no, st_v, atI_pos, ix50, ix51, ix52, ix53, ix54, ixN_pos, Option.bind_some, List.nodup_nil, List.nodup_cons, List.mem_cons, List.not_mem_nil, or_false, or_true, false_or, not_false_eq_true, not_true, and_self, and_true, true_and, Bool.and_true, Bool.true_and, Bool.and_self, Bool.and_false, Bool.false_and, Bool.not_true, Bool.not_false, List.length_cons, List.length_nil, List.cons_append, List.nil_append, List.replicate, Out.map, List.append_eq, List.all_cons, List.all_nil, decide_not, ne_eq, lim_lit, List.length_map, Int.reduceLE, Int.reduceLT, Int.reduceToNat, Nat.reduceAdd, Nat.reduceSub, Nat.reduceLeDiff, Nat.reduceEqDiff, Int.reduceNeg, Int.reduceEq, Nat.reduceLT, Nat.reduceMul, mulI, fdivI, rngI1, rngI2, Int.cast_ofNat_Int, Int.toNat_natCast, Option.bind_none, Option.map_none, Int.reduceAdd, Int.reduceSub, b__law_row_kept]
  repeat with_reducible refine wp_b ?_
  refine wp_forP (fun i ρ => ∃ s3 s4 s5, ρ = [.v net, .v (rowD r), .bo (.own (S.map D.int)), s3, s4, s5, .no, .no] ∧ St s3 ∧ St s4 ∧ St s5 ∧ ∀ c : Nat, c < i → ¬ Br (Sf S) (lnf sp r c) r) ?_ ?_ ?_
  · exact ⟨_, _, _, rfl, st_no, st_no, st_no, fun c z => by omega⟩
  · rintro i v _ hi ⟨s3, s4, s5, rfl, h3, h4, h5, hno⟩
    obtain ⟨rfl, hlt⟩ := rngd_get hi
    -- behind the lengths
    have tail : ∀ s4, s4 = .v (.own ((Lc sp r i).map D.int)) → Wp (TurnP (fun o => ∃ s3 s4 s5, o = .rt (.bl (keptB sp S r)) [.v net, .v (rowD r), .bo (.own (S.map D.int)), s3, s4, s5, .no, .no]) (fun ρ => ∃ s3 s4 s5, ρ = [.v net, .v (rowD r), .bo (.own (S.map D.int)), s3, s4, s5, .no, .no] ∧ St s3 ∧ St s4 ∧ St s5 ∧ ∀ c : Nat, c < i + 1 → ¬ Br (Sf S) (lnf sp r c) r))
        (evB (evF T 1000 (k + 1)) 1000 (tailOf 3 (bodyOf b__law_row_kept)) [.v net, .v (rowD r), .bo (.own (S.map D.int)), .v (.int i), s4, s5, .no, .no]) := by
      rintro _ rfl
      have hlen : (rngD 0 (S.length : Int)).length = S.length := by rw [rngd_len]; omega
      have ll := Lc_len (sp := sp) (r := r) (c := i)
      simp -implicitDefEqProofs (disch := first | assumption | exact st_no | exact st_v | exact fst_no | omega) only [xs1, xs2, xs3, rd, rds, vals, cont, Sl.cont, D.fz, fzL, cmpD, ordD, eqD_int, eqD_in, eqD_ni, eqD_nn, eqD_bb, isD, D.isNon, idx_tup, idx_lst, idx_ro, idx_own, addI, subI, fdivD, modD, negD, truD, bltD, lenD_items, listD, tupleD, absD_int, intD, tyD, D.items, D.isL, mutD, appD, extD, mutArgs, argsOf, argOf, lentS, places, back, backOne, outs, setL, ownAt, parS, lock, unlock, wipeS, putBack, free_zero, free_succ, fst_no, fst_v, rngOf1, rngOf2, srcOf, kit_bb, wp_some, retq_rt, retq_nx, turn_nx, turn_ct, turnp_nx, turnp_ct, turnp_rt, turnp_bk, Option.toList, Int.zero_add, Int.sub_zero, List.getElem?_cons_succ, List.getElem?_cons_zero, List.set_cons_succ, List.set_cons_zero, Option.bind_some, Option.map_some, if_true, if_false, decide_true, decide_false, Bool.false_eq_true, store_zero, store_succ, st_no, st_v, atI_pos, ix50, ix51, ix52, ix53, ix54, ixN_pos, Option.bind_some, List.nodup_nil, List.nodup_cons, List.mem_cons, List.not_mem_nil, or_false, or_true, false_or, not_false_eq_true, not_true, and_self, and_true, true_and, Bool.and_true, Bool.true_and, Bool.and_self, Bool.and_false, Bool.false_and, Bool.not_true, Bool.not_false, List.length_cons, List.length_nil, List.cons_append, List.nil_append, List.replicate, Out.map, List.append_eq, List.all_cons, List.all_nil, decide_not, ne_eq, lim_lit, List.length_map, Int.reduceLE, Int.reduceLT, Int.reduceToNat, Nat.reduceAdd, Nat.reduceSub, Nat.reduceLeDiff, Nat.reduceEqDiff, Int.reduceNeg, Int.reduceEq, Nat.reduceLT, Nat.reduceMul, mulI, fdivI, rngI1, rngI2, Int.cast_ofNat_Int, Int.toNat_natCast, Option.bind_none, Option.map_none, Int.reduceAdd, Int.reduceSub, b__law_row_kept, bodyOf, tailOf]
      repeat with_reducible refine wp_b ?_
      refine wp_comp (fun j acc ρ => ρ = [.v net, .v (rowD r), .bo (.own (S.map D.int)), .v (.int i), .v (.own ((Lc sp r i).map D.int)), s5, .no, .no] ∧ acc = ((List.range j).map fun j => (S.getD j 0, S.getD j 0 + (Lc sp r i).getD j 0)).map spD) ?_ ?_ ?_ ?_
      · exact ⟨rfl, rfl⟩
      · rw [hlen, lim_lit]; simp; omega
      · rintro j v acc _ hj ⟨rfl, rfl⟩
        obtain ⟨rfl, hlt2⟩ := rngd_get hj
        have g1 := int_get (S := S) (i := j) (by omega)
        have g2 := int_get (S := Lc sp r i) (i := j) (by omega)
        simp -implicitDefEqProofs (disch := first | assumption | exact st_no | exact st_v | exact fst_no | omega) only [xs1, xs2, xs3, rd, rds, vals, cont, Sl.cont, D.fz, fzL, cmpD, ordD, eqD_int, eqD_in, eqD_ni, eqD_nn, eqD_bb, isD, D.isNon, idx_tup, idx_lst, idx_ro, idx_own, addI, subI, fdivD, modD, negD, truD, bltD, lenD_items, listD, tupleD, absD_int, intD, tyD, D.items, D.isL, mutD, appD, extD, mutArgs, argsOf, argOf, lentS, places, back, backOne, outs, setL, ownAt, parS, lock, unlock, wipeS, putBack, free_zero, free_succ, fst_no, fst_v, rngOf1, rngOf2, srcOf, kit_bb, wp_some, retq_rt, retq_nx, turn_nx, turn_ct, turnp_nx, turnp_ct, turnp_rt, turnp_bk, Option.toList, Int.zero_add, Int.sub_zero, List.getElem?_cons_succ, List.getElem?_cons_zero, List.set_cons_succ, List.set_cons_zero, Option.bind_some, Option.map_some, if_true, if_false, decide_true, decide_false, Bool.false_eq_true, store_zero, store_succ, st_no, st_v, atI_pos, ix50, ix51, ix52, ix53, ix54, ixN_pos, Option.bind_some, List.nodup_nil, List.nodup_cons, List.mem_cons, List.not_mem_nil, or_false, or_true, false_or, not_false_eq_true, not_true, and_self, and_true, true_and, Bool.and_true, Bool.true_and, Bool.and_self, Bool.and_false, Bool.false_and, Bool.not_true, Bool.not_false, List.length_cons, List.length_nil, List.cons_append, List.nil_append, List.replicate, Out.map, List.append_eq, List.all_cons, List.all_nil, decide_not, ne_eq, lim_lit, List.length_map, Int.reduceLE, Int.reduceLT, Int.reduceToNat, Nat.reduceAdd, Nat.reduceSub, Nat.reduceLeDiff, Nat.reduceEqDiff, Int.reduceNeg, Int.reduceEq, Nat.reduceLT, Nat.reduceMul, mulI, fdivI, rngI1, rngI2, Int.cast_ofNat_Int, Int.toNat_natCast, Option.bind_none, Option.map_none, Int.reduceAdd, Int.reduceSub, compTu, g1, g2]
        rw [List.range_succ, List.map_append, List.map_append]
        rfl
      · rintro acc _ ⟨rfl, rfl⟩ _
        rw [hlen]
        generalize hps : (List.range S.length).map (fun j => (S.getD j 0, S.getD j 0 + (Lc sp r i).getD j 0)) = ps
        have pl : ps.length = n := by rw [← hps]; simp [hS]
        obtain ⟨_, ef, ts, rfl, fs⟩ := full_eq (k := k) (h := h) (ps := ps) (by omega)
        have il := fs.len
        have rk := rowQ_ok hr
        rw [← pl, ← il] at rk
        obtain ⟨_, eb, rfl⟩ := broken_ok (k := k) (now := h) rk (by omega)
        have bi := brk_iff (h := h) hr hl hS (by rw [← hps, hS]) fs
        have sf : (stD h ts).fz = true := by unfold stD; simp only [D.fz, fzL, fz_oi, Bool.and_true]
        cases hb : brk h ts r with
        | true =>
          rw [hb] at eb
          have kf : keptB sp S r = false := decide_eq_false fun z => iff_.mpr z i (by omega) (by omega) (bi.mp hb)
          simp -implicitDefEqProofs (disch := first | assumption | exact st_no | exact st_v | exact fst_no | omega) only [xs1, xs2, xs3, rd, rds, vals, cont, Sl.cont, D.fz, fzL, cmpD, ordD, eqD_int, eqD_in, eqD_ni, eqD_nn, eqD_bb, isD, D.isNon, idx_tup, idx_lst, idx_ro, idx_own, addI, subI, fdivD, modD, negD, truD, bltD, lenD_items, listD, tupleD, absD_int, intD, tyD, D.items, D.isL, mutD, appD, extD, mutArgs, argsOf, argOf, lentS, places, back, backOne, outs, setL, ownAt, parS, lock, unlock, wipeS, putBack, free_zero, free_succ, fst_no, fst_v, rngOf1, rngOf2, srcOf, kit_bb, wp_some, retq_rt, retq_nx, turn_nx, turn_ct, turnp_nx, turnp_ct, turnp_rt, turnp_bk, Option.toList, Int.zero_add, Int.sub_zero, List.getElem?_cons_succ, List.getElem?_cons_zero, List.set_cons_succ, List.set_cons_zero, Option.bind_some, Option.map_some, if_true, if_false, decide_true, decide_false, Bool.false_eq_true, store_zero, store_succ, st_no, st_v, atI_pos, ix50, ix51, ix52, ix53, ix54, ixN_pos, Option.bind_some, List.nodup_nil, List.nodup_cons, List.mem_cons, List.not_mem_nil, or_false, or_true, false_or, not_false_eq_true, not_true, and_self, and_true, true_and, Bool.and_true, Bool.true_and, Bool.and_self, Bool.and_false, Bool.false_and, Bool.not_true, Bool.not_false, List.length_cons, List.length_nil, List.cons_append, List.nil_append, List.replicate, Out.map, List.append_eq, List.all_cons, List.all_nil, decide_not, ne_eq, lim_lit, List.length_map, Int.reduceLE, Int.reduceLT, Int.reduceToNat, Nat.reduceAdd, Nat.reduceSub, Nat.reduceLeDiff, Nat.reduceEqDiff, Int.reduceNeg, Int.reduceEq, Nat.reduceLT, Nat.reduceMul, mulI, fdivI, rngI1, rngI2, Int.cast_ofNat_Int, Int.toNat_natCast, Option.bind_none, Option.map_none, Int.reduceAdd, Int.reduceSub, h5, nf, i1, ef, eb, sf, fr, kf]
          exact ⟨_, _, _, rfl⟩
        | false =>
          rw [hb] at eb
          simp -implicitDefEqProofs (disch := first | assumption | exact st_no | exact st_v | exact fst_no | omega) only [xs1, xs2, xs3, rd, rds, vals, cont, Sl.cont, D.fz, fzL, cmpD, ordD, eqD_int, eqD_in, eqD_ni, eqD_nn, eqD_bb, isD, D.isNon, idx_tup, idx_lst, idx_ro, idx_own, addI, subI, fdivD, modD, negD, truD, bltD, lenD_items, listD, tupleD, absD_int, intD, tyD, D.items, D.isL, mutD, appD, extD, mutArgs, argsOf, argOf, lentS, places, back, backOne, outs, setL, ownAt, parS, lock, unlock, wipeS, putBack, free_zero, free_succ, fst_no, fst_v, rngOf1, rngOf2, srcOf, kit_bb, wp_some, retq_rt, retq_nx, turn_nx, turn_ct, turnp_nx, turnp_ct, turnp_rt, turnp_bk, Option.toList, Int.zero_add, Int.sub_zero, List.getElem?_cons_succ, List.getElem?_cons_zero, List.set_cons_succ, List.set_cons_zero, Option.bind_some, Option.map_some, if_true, if_false, decide_true, decide_false, Bool.false_eq_true, store_zero, store_succ, st_no, st_v, atI_pos, ix50, ix51, ix52, ix53, ix54, ixN_pos, Option.bind_some, List.nodup_nil, List.nodup_cons, List.mem_cons, List.not_mem_nil, or_false, or_true, false_or, not_false_eq_true, not_true, and_self, and_true, true_and, Bool.and_true, Bool.true_and, Bool.and_self, Bool.and_false, Bool.false_and, Bool.not_true, Bool.not_false, List.length_cons, List.length_nil, List.cons_append, List.nil_append, List.replicate, Out.map, List.append_eq, List.all_cons, List.all_nil, decide_not, ne_eq, lim_lit, List.length_map, Int.reduceLE, Int.reduceLT, Int.reduceToNat, Nat.reduceAdd, Nat.reduceSub, Nat.reduceLeDiff, Nat.reduceEqDiff, Int.reduceNeg, Int.reduceEq, Nat.reduceLT, Nat.reduceMul, mulI, fdivI, rngI1, rngI2, Int.cast_ofNat_Int, Int.toNat_natCast, Option.bind_none, Option.map_none, Int.reduceAdd, Int.reduceSub, h5, nf, i1, ef, eb, sf, fr]
          refine ⟨_, _, _, rfl, st_v, st_v, st_v, fun c hc => ?_⟩
          by_cases hci : c = i
          · subst hci
            intro z
            rw [bi.mpr z] at hb
            cases hb
          · exact hno c (by omega)
    refine wp_mono (Q := TurnP (fun o => ∃ s3 s4 s5, o = .rt (.bl (keptB sp S r)) [.v net, .v (rowD r), .bo (.own (S.map D.int)), s3, s4, s5, .no, .no]) (fun ρ => ∃ s3 s4 s5, ρ = [.v net, .v (rowD r), .bo (.own (S.map D.int)), s3, s4, s5, .no, .no] ∧ St s3 ∧ St s4 ∧ St s5 ∧ ∀ c : Nat, c < i + 1 → ¬ Br (Sf S) (lnf sp r c) r)) ?_ ?conv
    case conv =>
      intro x hx
      cases x with
      | nx ρ => exact hx
      | ct ρ => exact hx
      | bk ρ => obtain ⟨_, _, _, e⟩ := hx; cases e
      | rt d ρ =>
        obtain ⟨_, _, _, e⟩ := hx
        cases e
        simp -implicitDefEqProofs (disch := first | assumption | exact st_no | exact st_v | exact fst_no | omega) only [xs1, xs2, xs3, rd, rds, vals, cont, Sl.cont, D.fz, fzL, cmpD, ordD, eqD_int, eqD_in, eqD_ni, eqD_nn, eqD_bb, isD, D.isNon, idx_tup, idx_lst, idx_ro, idx_own, addI, subI, fdivD, modD, negD, truD, bltD, lenD_items, listD, tupleD, absD_int, intD, tyD, D.items, D.isL, mutD, appD, extD, mutArgs, argsOf, argOf, lentS, places, back, backOne, outs, setL, ownAt, parS, lock, unlock, wipeS, putBack, free_zero, free_succ, fst_no, fst_v, rngOf1, rngOf2, srcOf, kit_bb, wp_some, retq_rt, retq_nx, turn_nx, turn_ct, turnp_nx, turnp_ct, turnp_rt, turnp_bk, Option.toList, Int.zero_add, Int.sub_zero, List.getElem?_cons_succ, List.getElem?_cons_zero, List.set_cons_succ, List.set_cons_zero, Option.bind_some, Option.map_some, if_true, if_false, decide_true, decide_false, Bool.false_eq_true, store_zero, store_succ, st_no, st_v, atI_pos, ix50, ix51, ix52, ix53, ix54, ixN_pos, Option.bind_some, List.nodup_nil, List.nodup_cons, List.mem_cons, List.not_mem_nil, or_false, or_true, false_or, not_false_eq_true, not_true, and_self, and_true, true_and, Bool.and_true, Bool.true_and, Bool.and_self, Bool.and_false, Bool.false_and, Bool.not_true, Bool.not_false, List.length_cons, List.length_nil, List.cons_append, List.nil_append, List.replicate, Out.map, List.append_eq, List.all_cons, List.all_nil, decide_not, ne_eq, lim_lit, List.length_map, Int.reduceLE, Int.reduceLT, Int.reduceToNat, Nat.reduceAdd, Nat.reduceSub, Nat.reduceLeDiff, Nat.reduceEqDiff, Int.reduceNeg, Int.reduceEq, Nat.reduceLT, Nat.reduceMul, mulI, fdivI, rngI1, rngI2, Int.cast_ofNat_Int, Int.toNat_natCast, Option.bind_none, Option.map_none, Int.reduceAdd, Int.reduceSub]
    simp -implicitDefEqProofs (disch := first | assumption | exact st_no | exact st_v | exact fst_no | omega) only [xs1, xs2, xs3, rd, rds, vals, cont, Sl.cont, D.fz, fzL, cmpD, ordD, eqD_int, eqD_in, eqD_ni, eqD_nn, eqD_bb, isD, D.isNon, idx_tup, idx_lst, idx_ro, idx_own, addI, subI, fdivD, modD, negD, truD, bltD, lenD_items, listD, tupleD, absD_int, intD, tyD, D.items, D.isL, mutD, appD, extD, mutArgs, argsOf, argOf, lentS, places, back, backOne, outs, setL, ownAt, parS, lock, unlock, wipeS, putBack, free_zero, free_succ, fst_no, fst_v, rngOf1, rngOf2, srcOf, kit_bb, wp_some, retq_rt, retq_nx, turn_nx, turn_ct, turnp_nx, turnp_ct, turnp_rt, turnp_bk, Option.toList, Int.zero_add, Int.sub_zero, List.getElem?_cons_succ, List.getElem?_cons_zero, List.set_cons_succ, List.set_cons_zero, Option.bind_some, Option.map_some, if_true, if_false, decide_true, decide_false, Bool.false_eq_true, store_zero, store_succ, st_no, st_v, atI_pos, ix50, ix51, ix52, ix53, ix54, ixN_pos, Option.bind_some, List.nodup_nil, List.nodup_cons, List.mem_cons, List.not_mem_nil, or_false, or_true, false_or, not_false_eq_true, not_true, and_self, and_true, true_and, Bool.and_true, Bool.true_and, Bool.and_self, Bool.and_false, Bool.false_and, Bool.not_true, Bool.not_false, List.length_cons, List.length_nil, List.cons_append, List.nil_append, List.replicate, Out.map, List.append_eq, List.all_cons, List.all_nil, decide_not, ne_eq, lim_lit, List.length_map, Int.reduceLE, Int.reduceLT, Int.reduceToNat, Nat.reduceAdd, Nat.reduceSub, Nat.reduceLeDiff, Nat.reduceEqDiff, Int.reduceNeg, Int.reduceEq, Nat.reduceLT, Nat.reduceMul, mulI, fdivI, rngI1, rngI2, Int.cast_ofNat_Int, Int.toNat_natCast, Option.bind_none, Option.map_none, Int.reduceAdd, Int.reduceSub, forTu, h3, nf, i2, fz_sp]
    repeat with_reducible refine wp_b ?_
    refine wp_comp (fun j acc ρ => ρ = [.v net, .v (rowD r), .bo (.own (S.map D.int)), .v (.int i), s4, s5, .no, .no] ∧ acc = ((sp.take j).map (·.1)).map D.int) ?_ ?_ ?_ ?_
    · exact ⟨rfl, rfl⟩
    · rw [List.length_map, lim_lit]; simp; omega
    · rintro j v acc _ hj ⟨rfl, rfl⟩
      have hjl : j < sp.length := by have := (List.getElem?_eq_some_iff.mp hj).1; rwa [List.length_map] at this
      rw [get_sp hjl] at hj
      cases hj
      have e : spD (sp.getD j (0, 0)) = .tup [.int (sp.getD j (0, 0)).1, .int (sp.getD j (0, 0)).2] := rfl
      rw [e]
      simp -implicitDefEqProofs (disch := first | assumption | exact st_no | exact st_v | exact fst_no | omega) only [xs1, xs2, xs3, rd, rds, vals, cont, Sl.cont, D.fz, fzL, cmpD, ordD, eqD_int, eqD_in, eqD_ni, eqD_nn, eqD_bb, isD, D.isNon, idx_tup, idx_lst, idx_ro, idx_own, addI, subI, fdivD, modD, negD, truD, bltD, lenD_items, listD, tupleD, absD_int, intD, tyD, D.items, D.isL, mutD, appD, extD, mutArgs, argsOf, argOf, lentS, places, back, backOne, outs, setL, ownAt, parS, lock, unlock, wipeS, putBack, free_zero, free_succ, fst_no, fst_v, rngOf1, rngOf2, srcOf, kit_bb, wp_some, retq_rt, retq_nx, turn_nx, turn_ct, turnp_nx, turnp_ct, turnp_rt, turnp_bk, Option.toList, Int.zero_add, Int.sub_zero, List.getElem?_cons_succ, List.getElem?_cons_zero, List.set_cons_succ, List.set_cons_zero, Option.bind_some, Option.map_some, if_true, if_false, decide_true, decide_false, Bool.false_eq_true, store_zero, store_succ, st_no, st_v, atI_pos, ix50, ix51, ix52, ix53, ix54, ixN_pos, Option.bind_some, List.nodup_nil, List.nodup_cons, List.mem_cons, List.not_mem_nil, or_false, or_true, false_or, not_false_eq_true, not_true, and_self, and_true, true_and, Bool.and_true, Bool.true_and, Bool.and_self, Bool.and_false, Bool.false_and, Bool.not_true, Bool.not_false, List.length_cons, List.length_nil, List.cons_append, List.nil_append, List.replicate, Out.map, List.append_eq, List.all_cons, List.all_nil, decide_not, ne_eq, lim_lit, List.length_map, Int.reduceLE, Int.reduceLT, Int.reduceToNat, Nat.reduceAdd, Nat.reduceSub, Nat.reduceLeDiff, Nat.reduceEqDiff, Int.reduceNeg, Int.reduceEq, Nat.reduceLT, Nat.reduceMul, mulI, fdivI, rngI1, rngI2, Int.cast_ofNat_Int, Int.toNat_natCast, Option.bind_none, Option.map_none, Int.reduceAdd, Int.reduceSub, compTu]
      rw [los_map hjl, List.map_append, List.map_append]
      rfl
    · rintro acc _ ⟨rfl, rfl⟩ _
      rw [List.length_map, List.take_length]
      have lsl : (sp.map (·.1)).length = n := by rw [List.length_map]; exact hl
      have c0 : (0 : Int) ≤ (i : Int) % 2 := by omega
      have c1 : (i : Int) % 2 < 2 := by omega
      have c2 : (0 : Int) ≤ (i : Int) / 2 := by omega
      have c3 : (i : Int) / 2 < 2 := by omega
      have setI : ∀ (l : List Int) (j : Nat) (x : Int), (l.map D.int).set j (.int x) = (l.set j x).map D.int := fun l j x => by rw [List.map_set]
      have tl := tail _ rfl
      simp -implicitDefEqProofs (disch := first | assumption | exact st_no | exact st_v | exact fst_no | omega) only [xs1, xs2, xs3, rd, rds, vals, cont, Sl.cont, D.fz, fzL, cmpD, ordD, eqD_int, eqD_in, eqD_ni, eqD_nn, eqD_bb, isD, D.isNon, idx_tup, idx_lst, idx_ro, idx_own, addI, subI, fdivD, modD, negD, truD, bltD, lenD_items, listD, tupleD, absD_int, intD, tyD, D.items, D.isL, mutD, appD, extD, mutArgs, argsOf, argOf, lentS, places, back, backOne, outs, setL, ownAt, parS, lock, unlock, wipeS, putBack, free_zero, free_succ, fst_no, fst_v, rngOf1, rngOf2, srcOf, kit_bb, wp_some, retq_rt, retq_nx, turn_nx, turn_ct, turnp_nx, turnp_ct, turnp_rt, turnp_bk, Option.toList, Int.zero_add, Int.sub_zero, List.getElem?_cons_succ, List.getElem?_cons_zero, List.set_cons_succ, List.set_cons_zero, Option.bind_some, Option.map_some, if_true, if_false, decide_true, decide_false, Bool.false_eq_true, store_zero, store_succ, st_no, st_v, atI_pos, ix50, ix51, ix52, ix53, ix54, ixN_pos, Option.bind_some, List.nodup_nil, List.nodup_cons, List.mem_cons, List.not_mem_nil, or_false, or_true, false_or, not_false_eq_true, not_true, and_self, and_true, true_and, Bool.and_true, Bool.true_and, Bool.and_self, Bool.and_false, Bool.false_and, Bool.not_true, Bool.not_false, List.length_cons, List.length_nil, List.cons_append, List.nil_append, List.replicate, Out.map, List.append_eq, List.all_cons, List.all_nil, decide_not, ne_eq, lim_lit, List.length_map, Int.reduceLE, Int.reduceLT, Int.reduceToNat, Nat.reduceAdd, Nat.reduceSub, Nat.reduceLeDiff, Nat.reduceEqDiff, Int.reduceNeg, Int.reduceEq, Nat.reduceLT, Nat.reduceMul, mulI, fdivI, rngI1, rngI2, Int.cast_ofNat_Int, Int.toNat_natCast, Option.bind_none, Option.map_none, Int.reduceAdd, Int.reduceSub, b__law_row_kept, bodyOf, tailOf] at tl
      unfold Lc at tl
      simp only at tl
      by_cases ha : 0 < r.a
      · have ga := get_lo2 (sp := sp) (w := (r.a - 1) / 2) (by omega) (by omega)
        have pa := pick2 (l := lo sp ((r.a - 1) / 2)) (u := K22.hi sp ((r.a - 1) / 2)) c0 c1
        have xa : L2.ixN (sp.map (·.1)).length ((r.a - 1) / 2) = _ := ixN_pos (by omega) (by omega)
        rw [List.length_map] at xa
        by_cases hb : 0 < r.b
        · have gb := get_lo2 (sp := sp) (w := (r.b - 1) / 2) (by omega) (by omega)
          have pb := pick2 (l := lo sp ((r.b - 1) / 2)) (u := K22.hi sp ((r.b - 1) / 2)) c2 c3
          have xb : L2.ixN (sp.map (·.1)).length ((r.b - 1) / 2) = _ := ixN_pos (by omega) (by omega)
          rw [List.length_map] at xb
          rw [if_pos ha, if_pos hb] at tl
          simp -implicitDefEqProofs (disch := first | assumption | exact st_no | exact st_v | exact fst_no | omega) only [xs1, xs2, xs3, rd, rds, vals, cont, Sl.cont, D.fz, fzL, cmpD, ordD, eqD_int, eqD_in, eqD_ni, eqD_nn, eqD_bb, isD, D.isNon, idx_tup, idx_lst, idx_ro, idx_own, addI, subI, fdivD, modD, negD, truD, bltD, lenD_items, listD, tupleD, absD_int, intD, tyD, D.items, D.isL, mutD, appD, extD, mutArgs, argsOf, argOf, lentS, places, back, backOne, outs, setL, ownAt, parS, lock, unlock, wipeS, putBack, free_zero, free_succ, fst_no, fst_v, rngOf1, rngOf2, srcOf, kit_bb, wp_some, retq_rt, retq_nx, turn_nx, turn_ct, turnp_nx, turnp_ct, turnp_rt, turnp_bk, Option.toList, Int.zero_add, Int.sub_zero, List.getElem?_cons_succ, List.getElem?_cons_zero, List.set_cons_succ, List.set_cons_zero, Option.bind_some, Option.map_some, if_true, if_false, decide_true, decide_false, Bool.false_eq_true, store_zero, store_succ, st_no, st_v, atI_pos, ix50, ix51, ix52, ix53, ix54, ixN_pos, Option.bind_some, List.nodup_nil, List.nodup_cons, List.mem_cons, List.not_mem_nil, or_false, or_true, false_or, not_false_eq_true, not_true, and_self, and_true, true_and, Bool.and_true, Bool.true_and, Bool.and_self, Bool.and_false, Bool.false_and, Bool.not_true, Bool.not_false, List.length_cons, List.length_nil, List.cons_append, List.nil_append, List.replicate, Out.map, List.append_eq, List.all_cons, List.all_nil, decide_not, ne_eq, lim_lit, List.length_map, Int.reduceLE, Int.reduceLT, Int.reduceToNat, Nat.reduceAdd, Nat.reduceSub, Nat.reduceLeDiff, Nat.reduceEqDiff, Int.reduceNeg, Int.reduceEq, Nat.reduceLT, Nat.reduceMul, mulI, fdivI, rngI1, rngI2, Int.cast_ofNat_Int, Int.toNat_natCast, Option.bind_none, Option.map_none, Int.reduceAdd, Int.reduceSub, h4, nf, i2, fr, r0, r1, ha, hb, and1, shr1, ga, gb, pa, pb, xa, xb, fz_sp, setI, List.length_map, List.length_set]
          simp only [wp_bi] at tl ⊢
          exact tl
        · rw [if_pos ha, if_neg hb] at tl
          simp -implicitDefEqProofs (disch := first | assumption | exact st_no | exact st_v | exact fst_no | omega) only [xs1, xs2, xs3, rd, rds, vals, cont, Sl.cont, D.fz, fzL, cmpD, ordD, eqD_int, eqD_in, eqD_ni, eqD_nn, eqD_bb, isD, D.isNon, idx_tup, idx_lst, idx_ro, idx_own, addI, subI, fdivD, modD, negD, truD, bltD, lenD_items, listD, tupleD, absD_int, intD, tyD, D.items, D.isL, mutD, appD, extD, mutArgs, argsOf, argOf, lentS, places, back, backOne, outs, setL, ownAt, parS, lock, unlock, wipeS, putBack, free_zero, free_succ, fst_no, fst_v, rngOf1, rngOf2, srcOf, kit_bb, wp_some, retq_rt, retq_nx, turn_nx, turn_ct, turnp_nx, turnp_ct, turnp_rt, turnp_bk, Option.toList, Int.zero_add, Int.sub_zero, List.getElem?_cons_succ, List.getElem?_cons_zero, List.set_cons_succ, List.set_cons_zero, Option.bind_some, Option.map_some, if_true, if_false, decide_true, decide_false, Bool.false_eq_true, store_zero, store_succ, st_no, st_v, atI_pos, ix50, ix51, ix52, ix53, ix54, ixN_pos, Option.bind_some, List.nodup_nil, List.nodup_cons, List.mem_cons, List.not_mem_nil, or_false, or_true, false_or, not_false_eq_true, not_true, and_self, and_true, true_and, Bool.and_true, Bool.true_and, Bool.and_self, Bool.and_false, Bool.false_and, Bool.not_true, Bool.not_false, List.length_cons, List.length_nil, List.cons_append, List.nil_append, List.replicate, Out.map, List.append_eq, List.all_cons, List.all_nil, decide_not, ne_eq, lim_lit, List.length_map, Int.reduceLE, Int.reduceLT, Int.reduceToNat, Nat.reduceAdd, Nat.reduceSub, Nat.reduceLeDiff, Nat.reduceEqDiff, Int.reduceNeg, Int.reduceEq, Nat.reduceLT, Nat.reduceMul, mulI, fdivI, rngI1, rngI2, Int.cast_ofNat_Int, Int.toNat_natCast, Option.bind_none, Option.map_none, Int.reduceAdd, Int.reduceSub, h4, nf, i2, fr, r0, r1, ha, hb, and1, shr1, ga, pa, xa, fz_sp, setI, List.length_map, List.length_set]
          simp only [wp_bi] at tl ⊢
          exact tl
      · by_cases hb : 0 < r.b
        · have gb := get_lo2 (sp := sp) (w := (r.b - 1) / 2) (by omega) (by omega)
          have pb := pick2 (l := lo sp ((r.b - 1) / 2)) (u := K22.hi sp ((r.b - 1) / 2)) c2 c3
          have xb : L2.ixN (sp.map (·.1)).length ((r.b - 1) / 2) = _ := ixN_pos (by omega) (by omega)
          rw [List.length_map] at xb
          rw [if_neg ha, if_pos hb] at tl
          simp -implicitDefEqProofs (disch := first | assumption | exact st_no | exact st_v | exact fst_no | omega) only [xs1, xs2, xs3, rd, rds, vals, cont, Sl.cont, D.fz, fzL, cmpD, ordD, eqD_int, eqD_in, eqD_ni, eqD_nn, eqD_bb, isD, D.isNon, idx_tup, idx_lst, idx_ro, idx_own, addI, subI, fdivD, modD, negD, truD, bltD, lenD_items, listD, tupleD, absD_int, intD, tyD, D.items, D.isL, mutD, appD, extD, mutArgs, argsOf, argOf, lentS, places, back, backOne, outs, setL, ownAt, parS, lock, unlock, wipeS, putBack, free_zero, free_succ, fst_no, fst_v, rngOf1, rngOf2, srcOf, kit_bb, wp_some, retq_rt, retq_nx, turn_nx, turn_ct, turnp_nx, turnp_ct, turnp_rt, turnp_bk, Option.toList, Int.zero_add, Int.sub_zero, List.getElem?_cons_succ, List.getElem?_cons_zero, List.set_cons_succ, List.set_cons_zero, Option.bind_some, Option.map_some, if_true, if_false, decide_true, decide_false, Bool.false_eq_true, store_zero, store_succ, st_no, st_v, atI_pos, ix50, ix51, ix52, ix53, ix54, ixN_pos, Option.bind_some, List.nodup_nil, List.nodup_cons, List.mem_cons, List.not_mem_nil, or_false, or_true, false_or, not_false_eq_true, not_true, and_self, and_true, true_and, Bool.and_true, Bool.true_and, Bool.and_self, Bool.and_false, Bool.false_and, Bool.not_true, Bool.not_false, List.length_cons, List.length_nil, List.cons_append, List.nil_append, List.replicate, Out.map, List.append_eq, List.all_cons, List.all_nil, decide_not, ne_eq, lim_lit, List.length_map, Int.reduceLE, Int.reduceLT, Int.reduceToNat, Nat.reduceAdd, Nat.reduceSub, Nat.reduceLeDiff, Nat.reduceEqDiff, Int.reduceNeg, Int.reduceEq, Nat.reduceLT, Nat.reduceMul, mulI, fdivI, rngI1, rngI2, Int.cast_ofNat_Int, Int.toNat_natCast, Option.bind_none, Option.map_none, Int.reduceAdd, Int.reduceSub, h4, nf, i2, fr, r0, r1, ha, hb, and1, shr1, gb, pb, xb, fz_sp, setI, List.length_map, List.length_set]
          simp only [wp_bi] at tl ⊢
          exact tl
        · rw [if_neg ha, if_neg hb] at tl
          simp -implicitDefEqProofs (disch := first | assumption | exact st_no | exact st_v | exact fst_no | omega) only [xs1, xs2, xs3, rd, rds, vals, cont, Sl.cont, D.fz, fzL, cmpD, ordD, eqD_int, eqD_in, eqD_ni, eqD_nn, eqD_bb, isD, D.isNon, idx_tup, idx_lst, idx_ro, idx_own, addI, subI, fdivD, modD, negD, truD, bltD, lenD_items, listD, tupleD, absD_int, intD, tyD, D.items, D.isL, mutD, appD, extD, mutArgs, argsOf, argOf, lentS, places, back, backOne, outs, setL, ownAt, parS, lock, unlock, wipeS, putBack, free_zero, free_succ, fst_no, fst_v, rngOf1, rngOf2, srcOf, kit_bb, wp_some, retq_rt, retq_nx, turn_nx, turn_ct, turnp_nx, turnp_ct, turnp_rt, turnp_bk, Option.toList, Int.zero_add, Int.sub_zero, List.getElem?_cons_succ, List.getElem?_cons_zero, List.set_cons_succ, List.set_cons_zero, Option.bind_some, Option.map_some, if_true, if_false, decide_true, decide_false, Bool.false_eq_true, store_zero, store_succ, st_no, st_v, atI_pos, ix50, ix51, ix52, ix53, ix54, ixN_pos, Option.bind_some, List.nodup_nil, List.nodup_cons, List.mem_cons, List.not_mem_nil, or_false, or_true, false_or, not_false_eq_true, not_true, and_self, and_true, true_and, Bool.and_true, Bool.true_and, Bool.and_self, Bool.and_false, Bool.false_and, Bool.not_true, Bool.not_false, List.length_cons, List.length_nil, List.cons_append, List.nil_append, List.replicate, Out.map, List.append_eq, List.all_cons, List.all_nil, decide_not, ne_eq, lim_lit, List.length_map, Int.reduceLE, Int.reduceLT, Int.reduceToNat, Nat.reduceAdd, Nat.reduceSub, Nat.reduceLeDiff, Nat.reduceEqDiff, Int.reduceNeg, Int.reduceEq, Nat.reduceLT, Nat.reduceMul, mulI, fdivI, rngI1, rngI2, Int.cast_ofNat_Int, Int.toNat_natCast, Option.bind_none, Option.map_none, Int.reduceAdd, Int.reduceSub, h4, nf, i2, fr, r0, r1, ha, hb, fz_sp]
          simp only [wp_bi] at tl ⊢
          exact tl
  · rintro _ ⟨s3, s4, s5, rfl, h3, h4, h5, hno⟩
    have hl4 : (rngD 0 4).length = 4 := rfl
    rw [hl4] at hno
    have kf : keptB sp S r = true := decide_eq_true (iff_.mp fun c h0 h1 => by
      obtain ⟨c', rfl⟩ := Int.eq_ofNat_of_zero_le h0
      exact hno c' (by omega))
    simp -implicitDefEqProofs (disch := first | assumption | exact st_no | exact st_v | exact fst_no | omega) only [xs1, xs2, xs3, rd, rds, vals, cont, Sl.cont, D.fz, fzL, cmpD, ordD, eqD_int, eqD_in, eqD_ni, eqD_nn, eqD_bb, isD, D.isNon, idx_tup, idx_lst, idx_ro, idx_own, addI, subI, fdivD, modD, negD, truD, bltD, lenD_items, listD, tupleD, absD_int, intD, tyD, D.items, D.isL, mutD, appD, extD, mutArgs, argsOf, argOf, lentS, places, back, backOne, outs, setL, ownAt, parS, lock, unlock, wipeS, putBack, free_zero, free_succ, fst_no, fst_v, rngOf1, rngOf2, srcOf, kit_bb, wp_some, retq_rt, retq_nx, turn_nx, turn_ct, turnp_nx, turnp_ct, turnp_rt, turnp_bk, Option.toList, Int.zero_add, Int.sub_zero, List.getElem?_cons_succ, List.getElem?_cons_zero, List.set_cons_succ, List.set_cons_zero, Option.bind_some, Option.map_some, if_true, if_false, decide_true, decide_false, Bool.false_eq_true, store_zero, store_succ, st_no, st_v, atI_pos, ix50, ix51, ix52, ix53, ix54, ixN_pos, Option.bind_some, List.nodup_nil, List.nodup_cons, List.mem_cons, List.not_mem_nil, or_false, or_true, false_or, not_false_eq_true, not_true, and_self, and_true, true_and, Bool.and_true, Bool.true_and, Bool.and_self, Bool.and_false, Bool.false_and, Bool.not_true, Bool.not_false, List.length_cons, List.length_nil, List.cons_append, List.nil_append, List.replicate, Out.map, List.append_eq, List.all_cons, List.all_nil, decide_not, ne_eq, lim_lit, List.length_map, Int.reduceLE, Int.reduceLT, Int.reduceToNat, Nat.reduceAdd, Nat.reduceSub, Nat.reduceLeDiff, Nat.reduceEqDiff, Int.reduceNeg, Int.reduceEq, Nat.reduceLT, Nat.reduceMul, mulI, fdivI, rngI1, rngI2, Int.cast_ofNat_Int, Int.toNat_natCast, Option.bind_none, Option.map_none, Int.reduceAdd, Int.reduceSub, kf]
end
end K22


set_option maxRecDepth 100000
set_option maxHeartbeats 4000000
namespace K22
open PySem Co
theorem wp_cdraw {step : D → Co.Env → Option (Option D × Co.Env)} (ρf : D → Co.Env) (P : D → Prop) (c : Nat) {n B : Nat} {d : D} {ds : List D} (hd : Dd B d) (hl : ds.length = n) (hn : n ≤ 1000000)
    (hstep : ∀ i d' v, i < n → Dd (B + c * i) d' → Wp (fun x => ∃ y d2, x = (some y, ρf d2) ∧ P y ∧ Dd (B + c * i + c) d2) (step v (ρf d'))) :
    Wp (fun r => ∃ l d2, r = (l, ρf d2) ∧ (∀ y ∈ l, P y) ∧ l.length = n ∧ Dd (B + c * n) d2) (compL step ds [] (ρf d)) := by
  refine wp_comp (fun i acc ρ => ∃ d', ρ = ρf d' ∧ (∀ y ∈ acc, P y) ∧ acc.length = i ∧ Dd (B + c * i) d') ?_ ?_ ?_ ?_
  · exact ⟨d, rfl, fun y z => (nomatch z), rfl, by simpa using hd⟩
  · rw [hl, lim_lit]; simp; omega
  · rintro i v acc _ hi ⟨d', rfl, hp, hal, hd'⟩
    have hi2 : i < n := by rw [← hl]; exact (List.getElem?_eq_some_iff.mp hi).1
    refine wp_mono (hstep i d' v hi2 hd') ?_
    rintro _ ⟨y, d2, rfl, hy, hd2⟩
    refine ⟨d2, rfl, fun y' z => ?_, by rw [List.length_append, hal]; rfl, by rw [Nat.mul_succ, ← Nat.add_assoc]; exact hd2⟩
    rcases List.mem_append.mp z with z | z
    · exact hp y' z
    · have z' : y' = y := by simpa using z
      rw [z']; exact hy
  · rintro acc _ ⟨d', rfl, hp, hal, hd'⟩ _
    rw [hl] at hal hd'
    exact ⟨acc, d', rfl, hp, hal, hd'⟩
section
variable {k n : Nat} {h : Int} {sp : List (Int × Int)} {bs ws : List (Int × Int × Int)} {net : D}
theorem basic_rowq (hn : NetD n h sp bs ws net) : ∀ r ∈ basicR h n sp bs ws, RowQ n sp r := by
  intro r hr
  refine ⟨basic_rowp hn r hr, ?_, ?_⟩
  all_goals
    unfold basicR at hr
    rcases List.mem_append.mp hr with hr | hr
  · intro hk
    rcases List.mem_append.mp hr with hr | hr
    · rcases List.mem_append.mp hr with hr | hr
      · unfold ptR at hr
        obtain ⟨i, hi, hr⟩ := List.mem_flatMap.mp hr
        simp only [List.mem_cons, List.not_mem_nil, or_false] at hr
        rcases hr with rfl | rfl
        · simp only; omega
        · simp only; omega
      · unfold spR at hr
        obtain ⟨i, hi, hr⟩ := List.mem_flatMap.mp hr
        simp only [List.mem_cons, List.not_mem_nil, or_false] at hr
        rcases hr with rfl | rfl
        · simp only; omega
        · simp only; omega
    · unfold bdR at hr
      obtain ⟨t, ht, rfl⟩ := List.mem_map.mp hr
      obtain ⟨a0, a1, b0, b1, _, ne⟩ := hn.bds t ht
      exact ne
  · intro hk
    obtain ⟨t, ht, rfl⟩ := List.mem_map.mp hr
    cases hk
  · intro u hk
    rcases List.mem_append.mp hr with hr | hr
    · rcases List.mem_append.mp hr with hr | hr
      · unfold ptR at hr
        obtain ⟨i, hi, hr⟩ := List.mem_flatMap.mp hr
        simp only [List.mem_cons, List.not_mem_nil, or_false] at hr
        rcases hr with rfl | rfl <;> cases hk
      · unfold spR at hr
        obtain ⟨i, hi, hr⟩ := List.mem_flatMap.mp hr
        simp only [List.mem_cons, List.not_mem_nil, or_false] at hr
        rcases hr with rfl | rfl <;> cases hk
    · unfold bdR at hr
      obtain ⟨t, ht, rfl⟩ := List.mem_map.mp hr
      cases hk
  · intro u hk
    obtain ⟨t, ht, rfl⟩ := List.mem_map.mp hr
    obtain ⟨a0, a1, b0, b1, m0, m1, ne⟩ := hn.wts t ht
    cases hk
    refine ⟨rfl, ne, b0, b1, ?_⟩
    show - -(if hi sp t.2.1 < t.2.2 then hi sp t.2.1 else t.2.2) ≤ hi sp t.2.1
    split <;> omega
theorem isint_eq {i : Int} : evF T 1000 (k + 1) 17 [.v (.int i)] = some (.bl true, [.no]) := by
  refine wp_eq.mp (evF_wp T__law_is_int rfl ?_)
  simp -implicitDefEqProofs (disch := first | assumption | exact st_no | exact st_v | exact fst_no | omega) only [xs1, xs2, xs3, rd, rds, vals, cont, Sl.cont, D.fz, fzL, cmpD, ordD, eqD_int, eqD_in, eqD_ni, eqD_nn, eqD_bb, isD, D.isNon, idx_tup, idx_lst, idx_ro, idx_own, addI, subI, fdivD, modD, negD, truD, bltD, lenD_items, listD, tupleD, absD_int, intD, tyD, D.items, D.isL, mutD, appD, extD, mutArgs, argsOf, argOf, lentS, places, back, backOne, outs, setL, ownAt, parS, lock, unlock, wipeS, putBack, free_zero, free_succ, fst_no, fst_v, rngOf1, rngOf2, srcOf, kit_bb, wp_some, retq_rt, retq_nx, turn_nx, turn_ct, turnp_nx, turnp_ct, turnp_rt, turnp_bk, Option.toList, Int.zero_add, Int.sub_zero, List.getElem?_cons_succ, List.getElem?_cons_zero, List.set_cons_succ, List.set_cons_zero, Option.bind_some, Option.map_some, if_true, if_false, decide_true, decide_false, Bool.false_eq_true, store_zero, store_succ, st_no, st_v, atI_pos, ix50, ix51, ix52, ix53, ix54, ixN_pos, Option.bind_some, List.nodup_nil, List.nodup_cons, List.mem_cons, List.not_mem_nil, or_false, or_true, false_or, not_false_eq_true, not_true, and_self, and_true, true_and, Bool.and_true, Bool.true_and, Bool.and_self, Bool.and_false, Bool.false_and, Bool.not_true, Bool.not_false, List.length_cons, List.length_nil, List.cons_append, List.nil_append, List.replicate, Out.map, List.append_eq, List.all_cons, List.all_nil, decide_not, ne_eq, lim_lit, List.length_map, Int.reduceLE, Int.reduceLT, Int.reduceToNat, Nat.reduceAdd, Nat.reduceSub, Nat.reduceLeDiff, Nat.reduceEqDiff, Int.reduceNeg, Int.reduceEq, Nat.reduceLT, Nat.reduceMul, mulI, fdivI, rngI1, rngI2, Int.cast_ofNat_Int, Int.toNat_natCast, Option.bind_none, Option.map_none, Int.reduceAdd, Int.reduceSub, b__law_is_int, kits]
theorem ints3_eq (t : Int × Int × Int) : evF T 1000 (k + 2) 18 [.v (trD t), .v (.int 3)] = some (.bl true, [.no, .no]) := by
  obtain ⟨a, b, c⟩ := t
  refine wp_eq.mp (evF_wp T__law_ints rfl ?_)
  have e := fun i => isint_eq (k := k) (i := i)
  have al : allD [.own [.bl true, .bl true, .bl true]] = some (.bl true) := rfl
  simp -implicitDefEqProofs (disch := first | assumption | exact st_no | exact st_v | exact fst_no | omega) only [xs1, xs2, xs3, rd, rds, vals, cont, Sl.cont, D.fz, fzL, cmpD, ordD, eqD_int, eqD_in, eqD_ni, eqD_nn, eqD_bb, isD, D.isNon, idx_tup, idx_lst, idx_ro, idx_own, addI, subI, fdivD, modD, negD, truD, bltD, lenD_items, listD, tupleD, absD_int, intD, tyD, D.items, D.isL, mutD, appD, extD, mutArgs, argsOf, argOf, lentS, places, back, backOne, outs, setL, ownAt, parS, lock, unlock, wipeS, putBack, free_zero, free_succ, fst_no, fst_v, rngOf1, rngOf2, srcOf, kit_bb, wp_some, retq_rt, retq_nx, turn_nx, turn_ct, turnp_nx, turnp_ct, turnp_rt, turnp_bk, Option.toList, Int.zero_add, Int.sub_zero, List.getElem?_cons_succ, List.getElem?_cons_zero, List.set_cons_succ, List.set_cons_zero, Option.bind_some, Option.map_some, if_true, if_false, decide_true, decide_false, Bool.false_eq_true, store_zero, store_succ, st_no, st_v, atI_pos, ix50, ix51, ix52, ix53, ix54, ixN_pos, Option.bind_some, List.nodup_nil, List.nodup_cons, List.mem_cons, List.not_mem_nil, or_false, or_true, false_or, not_false_eq_true, not_true, and_self, and_true, true_and, Bool.and_true, Bool.true_and, Bool.and_self, Bool.and_false, Bool.false_and, Bool.not_true, Bool.not_false, List.length_cons, List.length_nil, List.cons_append, List.nil_append, List.replicate, Out.map, List.append_eq, List.all_cons, List.all_nil, decide_not, ne_eq, lim_lit, List.length_map, Int.reduceLE, Int.reduceLT, Int.reduceToNat, Nat.reduceAdd, Nat.reduceSub, Nat.reduceLeDiff, Nat.reduceEqDiff, Int.reduceNeg, Int.reduceEq, Nat.reduceLT, Nat.reduceMul, mulI, fdivI, rngI1, rngI2, Int.cast_ofNat_Int, Int.toNat_natCast, Option.bind_none, Option.map_none, Int.reduceAdd, Int.reduceSub, b__law_ints, kits, trD, compL, compTu, e, al, List.length_nil, List.length_cons]
theorem lay_tr (t : Int × Int × Int) : Lay 1 (trD t) := by
  refine lay_tup ?_
  intro d hd
  simp only [List.mem_cons, List.not_mem_nil, or_false] at hd
  rcases hd with rfl | rfl | rfl <;> exact lay_int
theorem eq_tr (t : Int × Int × Int) : eqD (trD t) (trD t) = some true := eqD_self ((lay_tr t).mono (by decide))
theorem eq_trT (l : List (Int × Int × Int)) : eqD (.tup (l.map trD)) (.tup (l.map trD)) = some true := eqD_self ((lay_tup (lay_map lay_tr l)).mono (by decide))
theorem eq_trO (l : List (Int × Int × Int)) : eqD (.own (l.map trD)) (.own (l.map trD)) = some true := eqD_self ((lay_own (lay_map lay_tr l)).mono (by decide))
theorem fz_tr1 (t : Int × Int × Int) : (trD t).fz = true := rfl
theorem mins_get {S : List Int} {p : Int} (h0 : 0 ≤ p) (h1 : p ≤ 2 * S.length) : idxD (.tup (.int 0 :: S.map D.int)) (.int ((anc p + 1) / 2)) = some (.int (mval (Sf S) p)) := by
  unfold anc mval Sf
  by_cases hp : p = 0
  · subst hp
    rw [if_pos rfl, if_pos rfl, show ((0 : Int) + 1) / 2 = 0 from rfl, idx_tup, atI_pos (by decide)]
    rfl
  · rw [if_neg hp, if_neg hp, show (2 * ((p - 1) / 2) + 1 + 1) / 2 = (p - 1) / 2 + 1 by omega, idx_tup, atI_pos (by omega), show ((p - 1) / 2 + 1).toNat = ((p - 1) / 2).toNat + 1 by omega, List.getElem?_cons_succ, get_ints (by omega)]
    rfl
theorem are_eq {S : List Int} (hn : NetD n h sp bs ws net) (hn2 : n ≤ 12) (hS : S.length = n) : evF T 1000 (k + 3) 37 [.v net, .v (.tup ((dems h n sp bs ws).map trD)), .bo (.own (S.map D.int))] = some (.bl true, [.no, .no, .bo (.own (S.map D.int))]) := by
  refine wp_eq.mp (evF_wp T__law_are_demands rfl ?_)
  have nf := hn.fz
  have i2 := hn.i2
  obtain ⟨_, e1, rfl⟩ := lbasic_ok (k := k + 1) hn hn2
  have bl := basic_len hn hn2
  have rq := basic_rowq hn
  have dl : (dems h n sp bs ws).length = (basicR h n sp bs ws).length := by unfold dems; rw [List.length_map]
  have ad : binD .Add (.tup [.int 0]) (.tup (S.map D.int)) = some (.tup (.int 0 :: S.map D.int)) := addT ⟨rfl, fzL_ints _, by simp; omega⟩
  have dg : ∀ i : Nat, (hi : i < (basicR h n sp bs ws).length) → idxD (.tup ((dems h n sp bs ws).map trD)) (.int (i : Int)) = some (trD (dem sp (basicR h n sp bs ws)[i])) := by
    intro i hi
    rw [idx_tup, atI_pos (by omega), Int.toNat_natCast, List.getElem?_map]
    unfold dems
    rw [List.getElem?_map, List.getElem?_eq_getElem hi]
    rfl
  have rg : ∀ i : Nat, (hi : i < (basicR h n sp bs ws).length) → idxD (.own ((basicR h n sp bs ws).map rowD)) (.int (i : Int)) = some (rowD (basicR h n sp bs ws)[i]) := by
    intro i hi
    rw [idx_own, atI_pos (by omega), Int.toNat_natCast, List.getElem?_map, List.getElem?_eq_getElem hi]
    show (if (rowD _).fz = true then _ else _) = _
    rw [if_pos (fz_row _)]
  generalize basicR h n sp bs ws = rs at e1 bl rq dl dg rg
  generalize dems h n sp bs ws = ds at dl dg
  have hlen : (rngD 0 (rs.length : Int)).length = rs.length := by rw [rngd_len]; omega
  simp -implicitDefEqProofs (disch := first | assumption | exact st_no | exact st_v | exact fst_no | omega) only [xs1, xs2, xs3, rd, rds, vals, cont, Sl.cont, D.fz, fzL, cmpD, ordD, eqD_int, eqD_in, eqD_ni, eqD_nn, eqD_bb, isD, D.isNon, idx_tup, idx_lst, idx_ro, idx_own, addI, subI, fdivD, modD, negD, truD, bltD, lenD_items, listD, tupleD, absD_int, intD, tyD, D.items, D.isL, mutD, appD, extD, mutArgs, argsOf, argOf, lentS, places, back, backOne, outs, setL, ownAt, parS, lock, unlock, wipeS, putBack, free_zero, free_succ, fst_no, fst_v, rngOf1, rngOf2, srcOf, kit_bb, wp_some, retq_rt, retq_nx, turn_nx, turn_ct, turnp_nx, turnp_ct, turnp_rt, turnp_bk, Option.toList, Int.zero_add, Int.sub_zero, List.getElem?_cons_succ, List.getElem?_cons_zero, List.set_cons_succ, List.set_cons_zero, Option.bind_some, Option.map_some, if_true, if_false, decide_true, decide_false, Bool.false_eq_true, store_zero, store_succ, st_no, st_v, atI_pos, ix50, ix51, ix52, ix53, ix54, ixN_pos, Option.bind_some, List.nodup_nil, List.nodup_cons, List.mem_cons, List.not_mem_nil, or_false, or_true, false_or, not_false_eq_true, not_true, and_self, and_true, true_and, Bool.and_true, Bool.true_and, Bool.and_self, Bool.and_false, Bool.false_and, Bool.not_true, Bool.not_false, List.length_cons, List.length_nil, List.cons_append, List.nil_append, List.replicate, Out.map, List.append_eq, List.all_cons, List.all_nil, decide_not, ne_eq, lim_lit, List.length_map, Int.reduceLE, Int.reduceLT, Int.reduceToNat, Nat.reduceAdd, Nat.reduceSub, Nat.reduceLeDiff, Nat.reduceEqDiff, Int.reduceNeg, Int.reduceEq, Nat.reduceLT, Nat.reduceMul, mulI, fdivI, rngI1, rngI2, Int.cast_ofNat_Int, Int.toNat_natCast, Option.bind_none, Option.map_none, Int.reduceAdd, Int.reduceSub, b__law_are_demands, nf, fz_tr, fz_rows, e1, kits, dl, ad, fzL_ints]
  repeat with_reducible refine wp_b ?_
  refine wp_forP (fun i ρ => ∃ s5 s6 s7, ρ = [.v net, .v (.tup (ds.map trD)), .bo (.own (S.map D.int)), .v (.own (rs.map rowD)), .v (.tup (.int 0 :: S.map D.int)), s5, s6, s7] ∧ St s5 ∧ St s6 ∧ St s7) ?_ ?_ ?_
  · exact ⟨_, _, _, rfl, st_no, st_no, st_no⟩
  · rintro i v _ hi ⟨s5, s6, s7, rfl, h5, h6, h7⟩
    obtain ⟨rfl, hlt⟩ := rngd_get hi
    have hil : i < rs.length := by omega
    have d1 := dg i hil
    have g1 := rg i hil
    have q := rq _ (List.getElem_mem hil)
    generalize rs[i] = r at d1 g1 q
    have e2 := ints3_eq (k := k) (dem sp r)
    have e3 := ldemand_eq (k := k) q.toRowP hn.len hn2
    have e4 := kept_eq (k := k) hn hn2 q hS
    have e5 := eq_tr (dem sp r)
    have fr := fz_row r
    have ft := fz_tr1 (dem sp r)
    have t0 : idxD (trD (dem sp r)) (.int 0) = some (.int (anc r.a)) := rfl
    have t1 : idxD (trD (dem sp r)) (.int 1) = some (.int (anc r.b)) := rfl
    have t2 : idxD (trD (dem sp r)) (.int 2) = some (.int (dW sp r)) := rfl
    have m1 := mins_get (S := S) q.a0 (by have := q.a1; omega)
    have m2 := mins_get (S := S) q.b0 (by have := q.b1; omega)
    have bq : (decide (mval (Sf S) r.b ≤ mval (Sf S) r.a + dW sp r) == keptB sp S r) = true := by unfold keptB; simp
    have f0 : fzL (.int 0 :: S.map D.int) = true := by simp only [fzL, D.fz, fzL_ints, Bool.and_self]
    simp -implicitDefEqProofs (disch := first | assumption | exact st_no | exact st_v | exact fst_no | omega) only [xs1, xs2, xs3, rd, rds, vals, cont, Sl.cont, D.fz, fzL, cmpD, ordD, eqD_int, eqD_in, eqD_ni, eqD_nn, eqD_bb, isD, D.isNon, idx_tup, idx_lst, idx_ro, idx_own, addI, subI, fdivD, modD, negD, truD, bltD, lenD_items, listD, tupleD, absD_int, intD, tyD, D.items, D.isL, mutD, appD, extD, mutArgs, argsOf, argOf, lentS, places, back, backOne, outs, setL, ownAt, parS, lock, unlock, wipeS, putBack, free_zero, free_succ, fst_no, fst_v, rngOf1, rngOf2, srcOf, kit_bb, wp_some, retq_rt, retq_nx, turn_nx, turn_ct, turnp_nx, turnp_ct, turnp_rt, turnp_bk, Option.toList, Int.zero_add, Int.sub_zero, List.getElem?_cons_succ, List.getElem?_cons_zero, List.set_cons_succ, List.set_cons_zero, Option.bind_some, Option.map_some, if_true, if_false, decide_true, decide_false, Bool.false_eq_true, store_zero, store_succ, st_no, st_v, atI_pos, ix50, ix51, ix52, ix53, ix54, ixN_pos, Option.bind_some, List.nodup_nil, List.nodup_cons, List.mem_cons, List.not_mem_nil, or_false, or_true, false_or, not_false_eq_true, not_true, and_self, and_true, true_and, Bool.and_true, Bool.true_and, Bool.and_self, Bool.and_false, Bool.false_and, Bool.not_true, Bool.not_false, List.length_cons, List.length_nil, List.cons_append, List.nil_append, List.replicate, Out.map, List.append_eq, List.all_cons, List.all_nil, decide_not, ne_eq, lim_lit, List.length_map, Int.reduceLE, Int.reduceLT, Int.reduceToNat, Nat.reduceAdd, Nat.reduceSub, Nat.reduceLeDiff, Nat.reduceEqDiff, Int.reduceNeg, Int.reduceEq, Nat.reduceLT, Nat.reduceMul, mulI, fdivI, rngI1, rngI2, Int.cast_ofNat_Int, Int.toNat_natCast, Option.bind_none, Option.map_none, Int.reduceAdd, Int.reduceSub, forTu, nf, i2, fz_tr, fz_sp, d1, g1, e2, e3, e4, e5, fr, ft, t0, t1, t2, m1, m2, bq, fzL_ints, h5, h6, h7]
    exact ⟨_, _, _, rfl, st_v, st_v, st_v⟩
  · rintro _ ⟨s5, s6, s7, rfl, h5, h6, h7⟩
    simp -implicitDefEqProofs (disch := first | assumption | exact st_no | exact st_v | exact fst_no | omega) only [xs1, xs2, xs3, rd, rds, vals, cont, Sl.cont, D.fz, fzL, cmpD, ordD, eqD_int, eqD_in, eqD_ni, eqD_nn, eqD_bb, isD, D.isNon, idx_tup, idx_lst, idx_ro, idx_own, addI, subI, fdivD, modD, negD, truD, bltD, lenD_items, listD, tupleD, absD_int, intD, tyD, D.items, D.isL, mutD, appD, extD, mutArgs, argsOf, argOf, lentS, places, back, backOne, outs, setL, ownAt, parS, lock, unlock, wipeS, putBack, free_zero, free_succ, fst_no, fst_v, rngOf1, rngOf2, srcOf, kit_bb, wp_some, retq_rt, retq_nx, turn_nx, turn_ct, turnp_nx, turnp_ct, turnp_rt, turnp_bk, Option.toList, Int.zero_add, Int.sub_zero, List.getElem?_cons_succ, List.getElem?_cons_zero, List.set_cons_succ, List.set_cons_zero, Option.bind_some, Option.map_some, if_true, if_false, decide_true, decide_false, Bool.false_eq_true, store_zero, store_succ, st_no, st_v, atI_pos, ix50, ix51, ix52, ix53, ix54, ixN_pos, Option.bind_some, List.nodup_nil, List.nodup_cons, List.mem_cons, List.not_mem_nil, or_false, or_true, false_or, not_false_eq_true, not_true, and_self, and_true, true_and, Bool.and_true, Bool.true_and, Bool.and_self, Bool.and_false, Bool.false_and, Bool.not_true, Bool.not_false, List.length_cons, List.length_nil, List.cons_append, List.nil_append, List.replicate, Out.map, List.append_eq, List.all_cons, List.all_nil, decide_not, ne_eq, lim_lit, List.length_map, Int.reduceLE, Int.reduceLT, Int.reduceToNat, Nat.reduceAdd, Nat.reduceSub, Nat.reduceLeDiff, Nat.reduceEqDiff, Int.reduceNeg, Int.reduceEq, Nat.reduceLT, Nat.reduceMul, mulI, fdivI, rngI1, rngI2, Int.cast_ofNat_Int, Int.toNat_natCast, Option.bind_none, Option.map_none, Int.reduceAdd, Int.reduceSub]
end
end K22


set_option maxRecDepth 100000
set_option maxHeartbeats 4000000
namespace K22
open PySem Co
theorem lift {l : List D} {P : Int × Int × Int → Prop} (h : ∀ y ∈ l, ∃ t, y = trD t ∧ P t) : ∃ l' : List (Int × Int × Int), l = l'.map trD ∧ (∀ t ∈ l', P t) ∧ l'.length = l.length := by
  induction l with
  | nil => exact ⟨[], rfl, fun t z => (nomatch z), rfl⟩
  | cons a l ih =>
    obtain ⟨t, rfl, ht⟩ := h a (by simp)
    obtain ⟨l', rfl, hl, e⟩ := ih fun y hy => h y (List.mem_cons_of_mem _ hy)
    refine ⟨t :: l', rfl, fun x hx => ?_, by simp⟩
    rcases List.mem_cons.mp hx with rfl | z
    · exact ht
    · exact hl x z
theorem liftI {l : List D} {P : Int → Prop} (h : ∀ y ∈ l, ∃ t, y = .int t ∧ P t) : ∃ l' : List Int, l = l'.map D.int ∧ (∀ t ∈ l', P t) ∧ l'.length = l.length := by
  induction l with
  | nil => exact ⟨[], rfl, fun t z => (nomatch z), rfl⟩
  | cons a l ih =>
    obtain ⟨t, rfl, ht⟩ := h a (by simp)
    obtain ⟨l', rfl, hl, e⟩ := ih fun y hy => h y (List.mem_cons_of_mem _ hy)
    refine ⟨t :: l', rfl, fun x hx => ?_, by simp⟩
    rcases List.mem_cons.mp hx with rfl | z
    · exact ht
    · exact hl x z
section
variable {k B : Nat} {d : D}
theorem obound_ok {n : Nat} (hd : Dd B d) (hB : B ≤ 90000000) (hn : 1 ≤ n) (hn2 : n ≤ 12) : Wp (fun r => ∃ t d', r = (trD t, [.bo d', .no]) ∧ PtB n t ∧ Dd (B + 4) d') (evF T 1000 (k + 2) 32 [.bo d, .v (.int n)]) := by
  refine evF_wp T__law_odd_bound rfl ?_
  have hf := hd.fz
  simp -implicitDefEqProofs (disch := first | assumption | exact st_no | exact st_v | exact fst_no | omega) only [xs1, xs2, xs3, rd, rds, vals, cont, Sl.cont, D.fz, fzL, cmpD, ordD, eqD_int, eqD_in, eqD_ni, eqD_nn, eqD_bb, isD, D.isNon, idx_tup, idx_lst, idx_ro, idx_own, addI, subI, fdivD, modD, negD, truD, bltD, lenD_items, listD, tupleD, absD_int, intD, tyD, D.items, D.isL, mutD, appD, extD, mutArgs, argsOf, argOf, lentS, places, back, backOne, outs, setL, ownAt, parS, lock, unlock, wipeS, putBack, free_zero, free_succ, fst_no, fst_v, rngOf1, rngOf2, srcOf, kit_bb, wp_some, retq_rt, retq_nx, turn_nx, turn_ct, turnp_nx, turnp_ct, turnp_rt, turnp_bk, Option.toList, Int.zero_add, Int.sub_zero, List.getElem?_cons_succ, List.getElem?_cons_zero, List.set_cons_succ, List.set_cons_zero, Option.bind_some, Option.map_some, if_true, if_false, decide_true, decide_false, Bool.false_eq_true, store_zero, store_succ, st_no, st_v, atI_pos, ix50, ix51, ix52, ix53, ix54, ixN_pos, Option.bind_some, List.nodup_nil, List.nodup_cons, List.mem_cons, List.not_mem_nil, or_false, or_true, false_or, not_false_eq_true, not_true, and_self, and_true, true_and, Bool.and_true, Bool.true_and, Bool.and_self, Bool.and_false, Bool.false_and, Bool.not_true, Bool.not_false, List.length_cons, List.length_nil, List.cons_append, List.nil_append, List.replicate, Out.map, List.append_eq, List.all_cons, List.all_nil, decide_not, ne_eq, lim_lit, List.length_map, Int.reduceLE, Int.reduceLT, Int.reduceToNat, Nat.reduceAdd, Nat.reduceSub, Nat.reduceLeDiff, Nat.reduceEqDiff, Int.reduceNeg, Int.reduceEq, Nat.reduceLT, Nat.reduceMul, mulI, fdivI, rngI1, rngI2, Int.cast_ofNat_Int, Int.toNat_natCast, Option.bind_none, Option.map_none, Int.reduceAdd, Int.reduceSub, b__law_odd_bound, hf]
  repeat with_reducible refine wp_b ?_
  refine wp_mono (draw_ok hd (by omega) (by omega)) ?_
  rintro _ ⟨a, d1, rfl, a0, a1, hd1⟩
  have hf1 := hd1.fz
  have a1 := a1 (by omega)
  simp -implicitDefEqProofs (disch := first | assumption | exact st_no | exact st_v | exact fst_no | omega) only [xs1, xs2, xs3, rd, rds, vals, cont, Sl.cont, D.fz, fzL, cmpD, ordD, eqD_int, eqD_in, eqD_ni, eqD_nn, eqD_bb, isD, D.isNon, idx_tup, idx_lst, idx_ro, idx_own, addI, subI, fdivD, modD, negD, truD, bltD, lenD_items, listD, tupleD, absD_int, intD, tyD, D.items, D.isL, mutD, appD, extD, mutArgs, argsOf, argOf, lentS, places, back, backOne, outs, setL, ownAt, parS, lock, unlock, wipeS, putBack, free_zero, free_succ, fst_no, fst_v, rngOf1, rngOf2, srcOf, kit_bb, wp_some, retq_rt, retq_nx, turn_nx, turn_ct, turnp_nx, turnp_ct, turnp_rt, turnp_bk, Option.toList, Int.zero_add, Int.sub_zero, List.getElem?_cons_succ, List.getElem?_cons_zero, List.set_cons_succ, List.set_cons_zero, Option.bind_some, Option.map_some, if_true, if_false, decide_true, decide_false, Bool.false_eq_true, store_zero, store_succ, st_no, st_v, atI_pos, ix50, ix51, ix52, ix53, ix54, ixN_pos, Option.bind_some, List.nodup_nil, List.nodup_cons, List.mem_cons, List.not_mem_nil, or_false, or_true, false_or, not_false_eq_true, not_true, and_self, and_true, true_and, Bool.and_true, Bool.true_and, Bool.and_self, Bool.and_false, Bool.false_and, Bool.not_true, Bool.not_false, List.length_cons, List.length_nil, List.cons_append, List.nil_append, List.replicate, Out.map, List.append_eq, List.all_cons, List.all_nil, decide_not, ne_eq, lim_lit, List.length_map, Int.reduceLE, Int.reduceLT, Int.reduceToNat, Nat.reduceAdd, Nat.reduceSub, Nat.reduceLeDiff, Nat.reduceEqDiff, Int.reduceNeg, Int.reduceEq, Nat.reduceLT, Nat.reduceMul, mulI, fdivI, rngI1, rngI2, Int.cast_ofNat_Int, Int.toNat_natCast, Option.bind_none, Option.map_none, Int.reduceAdd, Int.reduceSub, hf1]
  repeat with_reducible refine wp_b ?_
  refine wp_mono (draw_ok hd1 (by omega) (by omega)) ?_
  rintro _ ⟨b, d2, rfl, b0, b1, hd2⟩
  have hf2 := hd2.fz
  have b1 := b1 (by omega)
  have fin : ∀ b' : Int, 0 ≤ b' → b' ≤ 2 * n → a ≠ b' → Wp (RetQ (fun r => ∃ t d', r = (trD t, [.bo d', .no]) ∧ PtB n t ∧ Dd (B + 4) d') [.bo d, .v (.int n)]) (evB (evF T 1000 (k + 1)) 1000 (match b__law_odd_bound with
      | .cons _ (.cons _ (.cons _ r)) => r
      | _ => .nil) [.bo d2, .v (.int n), .v (.int a), .v (.int b')]) := by
    intro b' b0 b1 ne
    simp -implicitDefEqProofs (disch := first | assumption | exact st_no | exact st_v | exact fst_no | omega) only [xs1, xs2, xs3, rd, rds, vals, cont, Sl.cont, D.fz, fzL, cmpD, ordD, eqD_int, eqD_in, eqD_ni, eqD_nn, eqD_bb, isD, D.isNon, idx_tup, idx_lst, idx_ro, idx_own, addI, subI, fdivD, modD, negD, truD, bltD, lenD_items, listD, tupleD, absD_int, intD, tyD, D.items, D.isL, mutD, appD, extD, mutArgs, argsOf, argOf, lentS, places, back, backOne, outs, setL, ownAt, parS, lock, unlock, wipeS, putBack, free_zero, free_succ, fst_no, fst_v, rngOf1, rngOf2, srcOf, kit_bb, wp_some, retq_rt, retq_nx, turn_nx, turn_ct, turnp_nx, turnp_ct, turnp_rt, turnp_bk, Option.toList, Int.zero_add, Int.sub_zero, List.getElem?_cons_succ, List.getElem?_cons_zero, List.set_cons_succ, List.set_cons_zero, Option.bind_some, Option.map_some, if_true, if_false, decide_true, decide_false, Bool.false_eq_true, store_zero, store_succ, st_no, st_v, atI_pos, ix50, ix51, ix52, ix53, ix54, ixN_pos, Option.bind_some, List.nodup_nil, List.nodup_cons, List.mem_cons, List.not_mem_nil, or_false, or_true, false_or, not_false_eq_true, not_true, and_self, and_true, true_and, Bool.and_true, Bool.true_and, Bool.and_self, Bool.and_false, Bool.false_and, Bool.not_true, Bool.not_false, List.length_cons, List.length_nil, List.cons_append, List.nil_append, List.replicate, Out.map, List.append_eq, List.all_cons, List.all_nil, decide_not, ne_eq, lim_lit, List.length_map, Int.reduceLE, Int.reduceLT, Int.reduceToNat, Nat.reduceAdd, Nat.reduceSub, Nat.reduceLeDiff, Nat.reduceEqDiff, Int.reduceNeg, Int.reduceEq, Nat.reduceLT, Nat.reduceMul, mulI, fdivI, rngI1, rngI2, Int.cast_ofNat_Int, Int.toNat_natCast, Option.bind_none, Option.map_none, Int.reduceAdd, Int.reduceSub, b__law_odd_bound, hf2]
    repeat with_reducible refine wp_b ?_
    refine wp_mono (draw_ok hd2 (by omega) (by omega)) ?_
    rintro _ ⟨x, d3, rfl, x0, x1, hd3⟩
    have hf3 := hd3.fz
    have x1 := x1 (by omega)
    by_cases hx : x = 1
    · subst hx
      simp -implicitDefEqProofs (disch := first | assumption | exact st_no | exact st_v | exact fst_no | omega) only [xs1, xs2, xs3, rd, rds, vals, cont, Sl.cont, D.fz, fzL, cmpD, ordD, eqD_int, eqD_in, eqD_ni, eqD_nn, eqD_bb, isD, D.isNon, idx_tup, idx_lst, idx_ro, idx_own, addI, subI, fdivD, modD, negD, truD, bltD, lenD_items, listD, tupleD, absD_int, intD, tyD, D.items, D.isL, mutD, appD, extD, mutArgs, argsOf, argOf, lentS, places, back, backOne, outs, setL, ownAt, parS, lock, unlock, wipeS, putBack, free_zero, free_succ, fst_no, fst_v, rngOf1, rngOf2, srcOf, kit_bb, wp_some, retq_rt, retq_nx, turn_nx, turn_ct, turnp_nx, turnp_ct, turnp_rt, turnp_bk, Option.toList, Int.zero_add, Int.sub_zero, List.getElem?_cons_succ, List.getElem?_cons_zero, List.set_cons_succ, List.set_cons_zero, Option.bind_some, Option.map_some, if_true, if_false, decide_true, decide_false, Bool.false_eq_true, store_zero, store_succ, st_no, st_v, atI_pos, ix50, ix51, ix52, ix53, ix54, ixN_pos, Option.bind_some, List.nodup_nil, List.nodup_cons, List.mem_cons, List.not_mem_nil, or_false, or_true, false_or, not_false_eq_true, not_true, and_self, and_true, true_and, Bool.and_true, Bool.true_and, Bool.and_self, Bool.and_false, Bool.false_and, Bool.not_true, Bool.not_false, List.length_cons, List.length_nil, List.cons_append, List.nil_append, List.replicate, Out.map, List.append_eq, List.all_cons, List.all_nil, decide_not, ne_eq, lim_lit, List.length_map, Int.reduceLE, Int.reduceLT, Int.reduceToNat, Nat.reduceAdd, Nat.reduceSub, Nat.reduceLeDiff, Nat.reduceEqDiff, Int.reduceNeg, Int.reduceEq, Nat.reduceLT, Nat.reduceMul, mulI, fdivI, rngI1, rngI2, Int.cast_ofNat_Int, Int.toNat_natCast, Option.bind_none, Option.map_none, Int.reduceAdd, Int.reduceSub, hf3]
      repeat with_reducible refine wp_b ?_
      refine wp_mono (draw_ok hd3 (by omega) (by omega)) ?_
      rintro _ ⟨w, d4, rfl, w0, w1, hd4⟩
      have hf4 := hd4.fz
      have w1 := w1 (by omega)
      simp -implicitDefEqProofs (disch := first | assumption | exact st_no | exact st_v | exact fst_no | omega) only [xs1, xs2, xs3, rd, rds, vals, cont, Sl.cont, D.fz, fzL, cmpD, ordD, eqD_int, eqD_in, eqD_ni, eqD_nn, eqD_bb, isD, D.isNon, idx_tup, idx_lst, idx_ro, idx_own, addI, subI, fdivD, modD, negD, truD, bltD, lenD_items, listD, tupleD, absD_int, intD, tyD, D.items, D.isL, mutD, appD, extD, mutArgs, argsOf, argOf, lentS, places, back, backOne, outs, setL, ownAt, parS, lock, unlock, wipeS, putBack, free_zero, free_succ, fst_no, fst_v, rngOf1, rngOf2, srcOf, kit_bb, wp_some, retq_rt, retq_nx, turn_nx, turn_ct, turnp_nx, turnp_ct, turnp_rt, turnp_bk, Option.toList, Int.zero_add, Int.sub_zero, List.getElem?_cons_succ, List.getElem?_cons_zero, List.set_cons_succ, List.set_cons_zero, Option.bind_some, Option.map_some, if_true, if_false, decide_true, decide_false, Bool.false_eq_true, store_zero, store_succ, st_no, st_v, atI_pos, ix50, ix51, ix52, ix53, ix54, ixN_pos, Option.bind_some, List.nodup_nil, List.nodup_cons, List.mem_cons, List.not_mem_nil, or_false, or_true, false_or, not_false_eq_true, not_true, and_self, and_true, true_and, Bool.and_true, Bool.true_and, Bool.and_self, Bool.and_false, Bool.false_and, Bool.not_true, Bool.not_false, List.length_cons, List.length_nil, List.cons_append, List.nil_append, List.replicate, Out.map, List.append_eq, List.all_cons, List.all_nil, decide_not, ne_eq, lim_lit, List.length_map, Int.reduceLE, Int.reduceLT, Int.reduceToNat, Nat.reduceAdd, Nat.reduceSub, Nat.reduceLeDiff, Nat.reduceEqDiff, Int.reduceNeg, Int.reduceEq, Nat.reduceLT, Nat.reduceMul, mulI, fdivI, rngI1, rngI2, Int.cast_ofNat_Int, Int.toNat_natCast, Option.bind_none, Option.map_none, Int.reduceAdd, Int.reduceSub, hf4]
      exact ⟨(a, b', w - 1000), d4, rfl, ⟨a0, by simp only; omega, b0, b1, by simp only; omega, ne⟩, hd4⟩
    · simp -implicitDefEqProofs (disch := first | assumption | exact st_no | exact st_v | exact fst_no | omega) only [xs1, xs2, xs3, rd, rds, vals, cont, Sl.cont, D.fz, fzL, cmpD, ordD, eqD_int, eqD_in, eqD_ni, eqD_nn, eqD_bb, isD, D.isNon, idx_tup, idx_lst, idx_ro, idx_own, addI, subI, fdivD, modD, negD, truD, bltD, lenD_items, listD, tupleD, absD_int, intD, tyD, D.items, D.isL, mutD, appD, extD, mutArgs, argsOf, argOf, lentS, places, back, backOne, outs, setL, ownAt, parS, lock, unlock, wipeS, putBack, free_zero, free_succ, fst_no, fst_v, rngOf1, rngOf2, srcOf, kit_bb, wp_some, retq_rt, retq_nx, turn_nx, turn_ct, turnp_nx, turnp_ct, turnp_rt, turnp_bk, Option.toList, Int.zero_add, Int.sub_zero, List.getElem?_cons_succ, List.getElem?_cons_zero, List.set_cons_succ, List.set_cons_zero, Option.bind_some, Option.map_some, if_true, if_false, decide_true, decide_false, Bool.false_eq_true, store_zero, store_succ, st_no, st_v, atI_pos, ix50, ix51, ix52, ix53, ix54, ixN_pos, Option.bind_some, List.nodup_nil, List.nodup_cons, List.mem_cons, List.not_mem_nil, or_false, or_true, false_or, not_false_eq_true, not_true, and_self, and_true, true_and, Bool.and_true, Bool.true_and, Bool.and_self, Bool.and_false, Bool.false_and, Bool.not_true, Bool.not_false, List.length_cons, List.length_nil, List.cons_append, List.nil_append, List.replicate, Out.map, List.append_eq, List.all_cons, List.all_nil, decide_not, ne_eq, lim_lit, List.length_map, Int.reduceLE, Int.reduceLT, Int.reduceToNat, Nat.reduceAdd, Nat.reduceSub, Nat.reduceLeDiff, Nat.reduceEqDiff, Int.reduceNeg, Int.reduceEq, Nat.reduceLT, Nat.reduceMul, mulI, fdivI, rngI1, rngI2, Int.cast_ofNat_Int, Int.toNat_natCast, Option.bind_none, Option.map_none, Int.reduceAdd, Int.reduceSub, hf3, hx]
      repeat with_reducible refine wp_b ?_
      refine wp_mono (draw_ok hd3 (by omega) (by omega)) ?_
      rintro _ ⟨w, d4, rfl, w0, w1, hd4⟩
      have hf4 := hd4.fz
      have w1 := w1 (by omega)
      simp -implicitDefEqProofs (disch := first | assumption | exact st_no | exact st_v | exact fst_no | omega) only [xs1, xs2, xs3, rd, rds, vals, cont, Sl.cont, D.fz, fzL, cmpD, ordD, eqD_int, eqD_in, eqD_ni, eqD_nn, eqD_bb, isD, D.isNon, idx_tup, idx_lst, idx_ro, idx_own, addI, subI, fdivD, modD, negD, truD, bltD, lenD_items, listD, tupleD, absD_int, intD, tyD, D.items, D.isL, mutD, appD, extD, mutArgs, argsOf, argOf, lentS, places, back, backOne, outs, setL, ownAt, parS, lock, unlock, wipeS, putBack, free_zero, free_succ, fst_no, fst_v, rngOf1, rngOf2, srcOf, kit_bb, wp_some, retq_rt, retq_nx, turn_nx, turn_ct, turnp_nx, turnp_ct, turnp_rt, turnp_bk, Option.toList, Int.zero_add, Int.sub_zero, List.getElem?_cons_succ, List.getElem?_cons_zero, List.set_cons_succ, List.set_cons_zero, Option.bind_some, Option.map_some, if_true, if_false, decide_true, decide_false, Bool.false_eq_true, store_zero, store_succ, st_no, st_v, atI_pos, ix50, ix51, ix52, ix53, ix54, ixN_pos, Option.bind_some, List.nodup_nil, List.nodup_cons, List.mem_cons, List.not_mem_nil, or_false, or_true, false_or, not_false_eq_true, not_true, and_self, and_true, true_and, Bool.and_true, Bool.true_and, Bool.and_self, Bool.and_false, Bool.false_and, Bool.not_true, Bool.not_false, List.length_cons, List.length_nil, List.cons_append, List.nil_append, List.replicate, Out.map, List.append_eq, List.all_cons, List.all_nil, decide_not, ne_eq, lim_lit, List.length_map, Int.reduceLE, Int.reduceLT, Int.reduceToNat, Nat.reduceAdd, Nat.reduceSub, Nat.reduceLeDiff, Nat.reduceEqDiff, Int.reduceNeg, Int.reduceEq, Nat.reduceLT, Nat.reduceMul, mulI, fdivI, rngI1, rngI2, Int.cast_ofNat_Int, Int.toNat_natCast, Option.bind_none, Option.map_none, Int.reduceAdd, Int.reduceSub, hf4]
      exact ⟨(a, b', w - 20), d4, rfl, ⟨a0, by simp only; omega, b0, b1, by simp only; omega, ne⟩, hd4⟩
  by_cases hc : a ≤ b
  · have := fin (b + 1) (by omega) (by omega) (by omega)
    simp -implicitDefEqProofs (disch := first | assumption | exact st_no | exact st_v | exact fst_no | omega) only [xs1, xs2, xs3, rd, rds, vals, cont, Sl.cont, D.fz, fzL, cmpD, ordD, eqD_int, eqD_in, eqD_ni, eqD_nn, eqD_bb, isD, D.isNon, idx_tup, idx_lst, idx_ro, idx_own, addI, subI, fdivD, modD, negD, truD, bltD, lenD_items, listD, tupleD, absD_int, intD, tyD, D.items, D.isL, mutD, appD, extD, mutArgs, argsOf, argOf, lentS, places, back, backOne, outs, setL, ownAt, parS, lock, unlock, wipeS, putBack, free_zero, free_succ, fst_no, fst_v, rngOf1, rngOf2, srcOf, kit_bb, wp_some, retq_rt, retq_nx, turn_nx, turn_ct, turnp_nx, turnp_ct, turnp_rt, turnp_bk, Option.toList, Int.zero_add, Int.sub_zero, List.getElem?_cons_succ, List.getElem?_cons_zero, List.set_cons_succ, List.set_cons_zero, Option.bind_some, Option.map_some, if_true, if_false, decide_true, decide_false, Bool.false_eq_true, store_zero, store_succ, st_no, st_v, atI_pos, ix50, ix51, ix52, ix53, ix54, ixN_pos, Option.bind_some, List.nodup_nil, List.nodup_cons, List.mem_cons, List.not_mem_nil, or_false, or_true, false_or, not_false_eq_true, not_true, and_self, and_true, true_and, Bool.and_true, Bool.true_and, Bool.and_self, Bool.and_false, Bool.false_and, Bool.not_true, Bool.not_false, List.length_cons, List.length_nil, List.cons_append, List.nil_append, List.replicate, Out.map, List.append_eq, List.all_cons, List.all_nil, decide_not, ne_eq, lim_lit, List.length_map, Int.reduceLE, Int.reduceLT, Int.reduceToNat, Nat.reduceAdd, Nat.reduceSub, Nat.reduceLeDiff, Nat.reduceEqDiff, Int.reduceNeg, Int.reduceEq, Nat.reduceLT, Nat.reduceMul, mulI, fdivI, rngI1, rngI2, Int.cast_ofNat_Int, Int.toNat_natCast, Option.bind_none, Option.map_none, Int.reduceAdd, Int.reduceSub, b__law_odd_bound, hf2] at this
    simp -implicitDefEqProofs (disch := first | assumption | exact st_no | exact st_v | exact fst_no | omega) only [xs1, xs2, xs3, rd, rds, vals, cont, Sl.cont, D.fz, fzL, cmpD, ordD, eqD_int, eqD_in, eqD_ni, eqD_nn, eqD_bb, isD, D.isNon, idx_tup, idx_lst, idx_ro, idx_own, addI, subI, fdivD, modD, negD, truD, bltD, lenD_items, listD, tupleD, absD_int, intD, tyD, D.items, D.isL, mutD, appD, extD, mutArgs, argsOf, argOf, lentS, places, back, backOne, outs, setL, ownAt, parS, lock, unlock, wipeS, putBack, free_zero, free_succ, fst_no, fst_v, rngOf1, rngOf2, srcOf, kit_bb, wp_some, retq_rt, retq_nx, turn_nx, turn_ct, turnp_nx, turnp_ct, turnp_rt, turnp_bk, Option.toList, Int.zero_add, Int.sub_zero, List.getElem?_cons_succ, List.getElem?_cons_zero, List.set_cons_succ, List.set_cons_zero, Option.bind_some, Option.map_some, if_true, if_false, decide_true, decide_false, Bool.false_eq_true, store_zero, store_succ, st_no, st_v, atI_pos, ix50, ix51, ix52, ix53, ix54, ixN_pos, Option.bind_some, List.nodup_nil, List.nodup_cons, List.mem_cons, List.not_mem_nil, or_false, or_true, false_or, not_false_eq_true, not_true, and_self, and_true, true_and, Bool.and_true, Bool.true_and, Bool.and_self, Bool.and_false, Bool.false_and, Bool.not_true, Bool.not_false, List.length_cons, List.length_nil, List.cons_append, List.nil_append, List.replicate, Out.map, List.append_eq, List.all_cons, List.all_nil, decide_not, ne_eq, lim_lit, List.length_map, Int.reduceLE, Int.reduceLT, Int.reduceToNat, Nat.reduceAdd, Nat.reduceSub, Nat.reduceLeDiff, Nat.reduceEqDiff, Int.reduceNeg, Int.reduceEq, Nat.reduceLT, Nat.reduceMul, mulI, fdivI, rngI1, rngI2, Int.cast_ofNat_Int, Int.toNat_natCast, Option.bind_none, Option.map_none, Int.reduceAdd, Int.reduceSub, hf2, hc]
    simp only [wp_bi] at this ⊢
    exact this
  · have := fin b (by omega) (by omega) (by omega)
    simp -implicitDefEqProofs (disch := first | assumption | exact st_no | exact st_v | exact fst_no | omega) only [xs1, xs2, xs3, rd, rds, vals, cont, Sl.cont, D.fz, fzL, cmpD, ordD, eqD_int, eqD_in, eqD_ni, eqD_nn, eqD_bb, isD, D.isNon, idx_tup, idx_lst, idx_ro, idx_own, addI, subI, fdivD, modD, negD, truD, bltD, lenD_items, listD, tupleD, absD_int, intD, tyD, D.items, D.isL, mutD, appD, extD, mutArgs, argsOf, argOf, lentS, places, back, backOne, outs, setL, ownAt, parS, lock, unlock, wipeS, putBack, free_zero, free_succ, fst_no, fst_v, rngOf1, rngOf2, srcOf, kit_bb, wp_some, retq_rt, retq_nx, turn_nx, turn_ct, turnp_nx, turnp_ct, turnp_rt, turnp_bk, Option.toList, Int.zero_add, Int.sub_zero, List.getElem?_cons_succ, List.getElem?_cons_zero, List.set_cons_succ, List.set_cons_zero, Option.bind_some, Option.map_some, if_true, if_false, decide_true, decide_false, Bool.false_eq_true, store_zero, store_succ, st_no, st_v, atI_pos, ix50, ix51, ix52, ix53, ix54, ixN_pos, Option.bind_some, List.nodup_nil, List.nodup_cons, List.mem_cons, List.not_mem_nil, or_false, or_true, false_or, not_false_eq_true, not_true, and_self, and_true, true_and, Bool.and_true, Bool.true_and, Bool.and_self, Bool.and_false, Bool.false_and, Bool.not_true, Bool.not_false, List.length_cons, List.length_nil, List.cons_append, List.nil_append, List.replicate, Out.map, List.append_eq, List.all_cons, List.all_nil, decide_not, ne_eq, lim_lit, List.length_map, Int.reduceLE, Int.reduceLT, Int.reduceToNat, Nat.reduceAdd, Nat.reduceSub, Nat.reduceLeDiff, Nat.reduceEqDiff, Int.reduceNeg, Int.reduceEq, Nat.reduceLT, Nat.reduceMul, mulI, fdivI, rngI1, rngI2, Int.cast_ofNat_Int, Int.toNat_natCast, Option.bind_none, Option.map_none, Int.reduceAdd, Int.reduceSub, b__law_odd_bound, hf2] at this
    simp -implicitDefEqProofs (disch := first | assumption | exact st_no | exact st_v | exact fst_no | omega) only [xs1, xs2, xs3, rd, rds, vals, cont, Sl.cont, D.fz, fzL, cmpD, ordD, eqD_int, eqD_in, eqD_ni, eqD_nn, eqD_bb, isD, D.isNon, idx_tup, idx_lst, idx_ro, idx_own, addI, subI, fdivD, modD, negD, truD, bltD, lenD_items, listD, tupleD, absD_int, intD, tyD, D.items, D.isL, mutD, appD, extD, mutArgs, argsOf, argOf, lentS, places, back, backOne, outs, setL, ownAt, parS, lock, unlock, wipeS, putBack, free_zero, free_succ, fst_no, fst_v, rngOf1, rngOf2, srcOf, kit_bb, wp_some, retq_rt, retq_nx, turn_nx, turn_ct, turnp_nx, turnp_ct, turnp_rt, turnp_bk, Option.toList, Int.zero_add, Int.sub_zero, List.getElem?_cons_succ, List.getElem?_cons_zero, List.set_cons_succ, List.set_cons_zero, Option.bind_some, Option.map_some, if_true, if_false, decide_true, decide_false, Bool.false_eq_true, store_zero, store_succ, st_no, st_v, atI_pos, ix50, ix51, ix52, ix53, ix54, ixN_pos, Option.bind_some, List.nodup_nil, List.nodup_cons, List.mem_cons, List.not_mem_nil, or_false, or_true, false_or, not_false_eq_true, not_true, and_self, and_true, true_and, Bool.and_true, Bool.true_and, Bool.and_self, Bool.and_false, Bool.false_and, Bool.not_true, Bool.not_false, List.length_cons, List.length_nil, List.cons_append, List.nil_append, List.replicate, Out.map, List.append_eq, List.all_cons, List.all_nil, decide_not, ne_eq, lim_lit, List.length_map, Int.reduceLE, Int.reduceLT, Int.reduceToNat, Nat.reduceAdd, Nat.reduceSub, Nat.reduceLeDiff, Nat.reduceEqDiff, Int.reduceNeg, Int.reduceEq, Nat.reduceLT, Nat.reduceMul, mulI, fdivI, rngI1, rngI2, Int.cast_ofNat_Int, Int.toNat_natCast, Option.bind_none, Option.map_none, Int.reduceAdd, Int.reduceSub, hf2, hc]
    simp only [wp_bi] at this ⊢
    exact this
theorem owait_ok {n lg : Nat} (hd : Dd B d) (hB : B ≤ 90000000) (hn : 1 ≤ n) (hn2 : n ≤ 12) (hl : 1 ≤ lg) (hl2 : lg ≤ 1000) : Wp (fun r => ∃ t d', r = (trD t, [.bo d', .no, .no]) ∧ PtW n t ∧ Dd (B + 3) d') (evF T 1000 (k + 2) 33 [.bo d, .v (.int n), .v (.int lg)]) := by
  refine evF_wp T__law_odd_wait rfl ?_
  have hf := hd.fz
  simp -implicitDefEqProofs (disch := first | assumption | exact st_no | exact st_v | exact fst_no | omega) only [xs1, xs2, xs3, rd, rds, vals, cont, Sl.cont, D.fz, fzL, cmpD, ordD, eqD_int, eqD_in, eqD_ni, eqD_nn, eqD_bb, isD, D.isNon, idx_tup, idx_lst, idx_ro, idx_own, addI, subI, fdivD, modD, negD, truD, bltD, lenD_items, listD, tupleD, absD_int, intD, tyD, D.items, D.isL, mutD, appD, extD, mutArgs, argsOf, argOf, lentS, places, back, backOne, outs, setL, ownAt, parS, lock, unlock, wipeS, putBack, free_zero, free_succ, fst_no, fst_v, rngOf1, rngOf2, srcOf, kit_bb, wp_some, retq_rt, retq_nx, turn_nx, turn_ct, turnp_nx, turnp_ct, turnp_rt, turnp_bk, Option.toList, Int.zero_add, Int.sub_zero, List.getElem?_cons_succ, List.getElem?_cons_zero, List.set_cons_succ, List.set_cons_zero, Option.bind_some, Option.map_some, if_true, if_false, decide_true, decide_false, Bool.false_eq_true, store_zero, store_succ, st_no, st_v, atI_pos, ix50, ix51, ix52, ix53, ix54, ixN_pos, Option.bind_some, List.nodup_nil, List.nodup_cons, List.mem_cons, List.not_mem_nil, or_false, or_true, false_or, not_false_eq_true, not_true, and_self, and_true, true_and, Bool.and_true, Bool.true_and, Bool.and_self, Bool.and_false, Bool.false_and, Bool.not_true, Bool.not_false, List.length_cons, List.length_nil, List.cons_append, List.nil_append, List.replicate, Out.map, List.append_eq, List.all_cons, List.all_nil, decide_not, ne_eq, lim_lit, List.length_map, Int.reduceLE, Int.reduceLT, Int.reduceToNat, Nat.reduceAdd, Nat.reduceSub, Nat.reduceLeDiff, Nat.reduceEqDiff, Int.reduceNeg, Int.reduceEq, Nat.reduceLT, Nat.reduceMul, mulI, fdivI, rngI1, rngI2, Int.cast_ofNat_Int, Int.toNat_natCast, Option.bind_none, Option.map_none, Int.reduceAdd, Int.reduceSub, b__law_odd_wait, hf]
  repeat with_reducible refine wp_b ?_
  refine wp_mono (draw_ok hd (by omega) (by omega)) ?_
  rintro _ ⟨u, d1, rfl, u0, u1, hd1⟩
  have hf1 := hd1.fz
  have u1 := u1 (by omega)
  simp -implicitDefEqProofs (disch := first | assumption | exact st_no | exact st_v | exact fst_no | omega) only [xs1, xs2, xs3, rd, rds, vals, cont, Sl.cont, D.fz, fzL, cmpD, ordD, eqD_int, eqD_in, eqD_ni, eqD_nn, eqD_bb, isD, D.isNon, idx_tup, idx_lst, idx_ro, idx_own, addI, subI, fdivD, modD, negD, truD, bltD, lenD_items, listD, tupleD, absD_int, intD, tyD, D.items, D.isL, mutD, appD, extD, mutArgs, argsOf, argOf, lentS, places, back, backOne, outs, setL, ownAt, parS, lock, unlock, wipeS, putBack, free_zero, free_succ, fst_no, fst_v, rngOf1, rngOf2, srcOf, kit_bb, wp_some, retq_rt, retq_nx, turn_nx, turn_ct, turnp_nx, turnp_ct, turnp_rt, turnp_bk, Option.toList, Int.zero_add, Int.sub_zero, List.getElem?_cons_succ, List.getElem?_cons_zero, List.set_cons_succ, List.set_cons_zero, Option.bind_some, Option.map_some, if_true, if_false, decide_true, decide_false, Bool.false_eq_true, store_zero, store_succ, st_no, st_v, atI_pos, ix50, ix51, ix52, ix53, ix54, ixN_pos, Option.bind_some, List.nodup_nil, List.nodup_cons, List.mem_cons, List.not_mem_nil, or_false, or_true, false_or, not_false_eq_true, not_true, and_self, and_true, true_and, Bool.and_true, Bool.true_and, Bool.and_self, Bool.and_false, Bool.false_and, Bool.not_true, Bool.not_false, List.length_cons, List.length_nil, List.cons_append, List.nil_append, List.replicate, Out.map, List.append_eq, List.all_cons, List.all_nil, decide_not, ne_eq, lim_lit, List.length_map, Int.reduceLE, Int.reduceLT, Int.reduceToNat, Nat.reduceAdd, Nat.reduceSub, Nat.reduceLeDiff, Nat.reduceEqDiff, Int.reduceNeg, Int.reduceEq, Nat.reduceLT, Nat.reduceMul, mulI, fdivI, rngI1, rngI2, Int.cast_ofNat_Int, Int.toNat_natCast, Option.bind_none, Option.map_none, Int.reduceAdd, Int.reduceSub, hf1]
  repeat with_reducible refine wp_b ?_
  refine wp_mono (draw_ok hd1 (by omega) (by omega)) ?_
  rintro _ ⟨p, d2, rfl, p0, p1, hd2⟩
  have hf2 := hd2.fz
  have p1 := p1 (by omega)
  by_cases hc : p = 2 * u + 2
  · subst hc
    have q : decide ((2 * u + 2 : Int) = 2 * u + 2) = true := decide_eq_true rfl
    simp -implicitDefEqProofs (disch := first | assumption | exact st_no | exact st_v | exact fst_no | omega) only [xs1, xs2, xs3, rd, rds, vals, cont, Sl.cont, D.fz, fzL, cmpD, ordD, eqD_int, eqD_in, eqD_ni, eqD_nn, eqD_bb, isD, D.isNon, idx_tup, idx_lst, idx_ro, idx_own, addI, subI, fdivD, modD, negD, truD, bltD, lenD_items, listD, tupleD, absD_int, intD, tyD, D.items, D.isL, mutD, appD, extD, mutArgs, argsOf, argOf, lentS, places, back, backOne, outs, setL, ownAt, parS, lock, unlock, wipeS, putBack, free_zero, free_succ, fst_no, fst_v, rngOf1, rngOf2, srcOf, kit_bb, wp_some, retq_rt, retq_nx, turn_nx, turn_ct, turnp_nx, turnp_ct, turnp_rt, turnp_bk, Option.toList, Int.zero_add, Int.sub_zero, List.getElem?_cons_succ, List.getElem?_cons_zero, List.set_cons_succ, List.set_cons_zero, Option.bind_some, Option.map_some, if_true, if_false, decide_true, decide_false, Bool.false_eq_true, store_zero, store_succ, st_no, st_v, atI_pos, ix50, ix51, ix52, ix53, ix54, ixN_pos, Option.bind_some, List.nodup_nil, List.nodup_cons, List.mem_cons, List.not_mem_nil, or_false, or_true, false_or, not_false_eq_true, not_true, and_self, and_true, true_and, Bool.and_true, Bool.true_and, Bool.and_self, Bool.and_false, Bool.false_and, Bool.not_true, Bool.not_false, List.length_cons, List.length_nil, List.cons_append, List.nil_append, List.replicate, Out.map, List.append_eq, List.all_cons, List.all_nil, decide_not, ne_eq, lim_lit, List.length_map, Int.reduceLE, Int.reduceLT, Int.reduceToNat, Nat.reduceAdd, Nat.reduceSub, Nat.reduceLeDiff, Nat.reduceEqDiff, Int.reduceNeg, Int.reduceEq, Nat.reduceLT, Nat.reduceMul, mulI, fdivI, rngI1, rngI2, Int.cast_ofNat_Int, Int.toNat_natCast, Option.bind_none, Option.map_none, Int.reduceAdd, Int.reduceSub, hf2, q]
    repeat with_reducible refine wp_b ?_
    refine wp_mono (draw_ok hd2 (by omega) (by omega)) ?_
    rintro _ ⟨m, d3, rfl, m0, m1, hd3⟩
    have hf3 := hd3.fz
    have m1 := m1 (by omega)
    simp -implicitDefEqProofs (disch := first | assumption | exact st_no | exact st_v | exact fst_no | omega) only [xs1, xs2, xs3, rd, rds, vals, cont, Sl.cont, D.fz, fzL, cmpD, ordD, eqD_int, eqD_in, eqD_ni, eqD_nn, eqD_bb, isD, D.isNon, idx_tup, idx_lst, idx_ro, idx_own, addI, subI, fdivD, modD, negD, truD, bltD, lenD_items, listD, tupleD, absD_int, intD, tyD, D.items, D.isL, mutD, appD, extD, mutArgs, argsOf, argOf, lentS, places, back, backOne, outs, setL, ownAt, parS, lock, unlock, wipeS, putBack, free_zero, free_succ, fst_no, fst_v, rngOf1, rngOf2, srcOf, kit_bb, wp_some, retq_rt, retq_nx, turn_nx, turn_ct, turnp_nx, turnp_ct, turnp_rt, turnp_bk, Option.toList, Int.zero_add, Int.sub_zero, List.getElem?_cons_succ, List.getElem?_cons_zero, List.set_cons_succ, List.set_cons_zero, Option.bind_some, Option.map_some, if_true, if_false, decide_true, decide_false, Bool.false_eq_true, store_zero, store_succ, st_no, st_v, atI_pos, ix50, ix51, ix52, ix53, ix54, ixN_pos, Option.bind_some, List.nodup_nil, List.nodup_cons, List.mem_cons, List.not_mem_nil, or_false, or_true, false_or, not_false_eq_true, not_true, and_self, and_true, true_and, Bool.and_true, Bool.true_and, Bool.and_self, Bool.and_false, Bool.false_and, Bool.not_true, Bool.not_false, List.length_cons, List.length_nil, List.cons_append, List.nil_append, List.replicate, Out.map, List.append_eq, List.all_cons, List.all_nil, decide_not, ne_eq, lim_lit, List.length_map, Int.reduceLE, Int.reduceLT, Int.reduceToNat, Nat.reduceAdd, Nat.reduceSub, Nat.reduceLeDiff, Nat.reduceEqDiff, Int.reduceNeg, Int.reduceEq, Nat.reduceLT, Nat.reduceMul, mulI, fdivI, rngI1, rngI2, Int.cast_ofNat_Int, Int.toNat_natCast, Option.bind_none, Option.map_none, Int.reduceAdd, Int.reduceSub, hf3]
    exact ⟨(2 * u + 1, u, 1 + m), d3, rfl, ⟨by simp only; omega, by simp only; omega, u0, by simp only; omega, by simp only; omega, by simp only; omega, by simp only; omega⟩, hd3⟩
  · simp -implicitDefEqProofs (disch := first | assumption | exact st_no | exact st_v | exact fst_no | omega) only [xs1, xs2, xs3, rd, rds, vals, cont, Sl.cont, D.fz, fzL, cmpD, ordD, eqD_int, eqD_in, eqD_ni, eqD_nn, eqD_bb, isD, D.isNon, idx_tup, idx_lst, idx_ro, idx_own, addI, subI, fdivD, modD, negD, truD, bltD, lenD_items, listD, tupleD, absD_int, intD, tyD, D.items, D.isL, mutD, appD, extD, mutArgs, argsOf, argOf, lentS, places, back, backOne, outs, setL, ownAt, parS, lock, unlock, wipeS, putBack, free_zero, free_succ, fst_no, fst_v, rngOf1, rngOf2, srcOf, kit_bb, wp_some, retq_rt, retq_nx, turn_nx, turn_ct, turnp_nx, turnp_ct, turnp_rt, turnp_bk, Option.toList, Int.zero_add, Int.sub_zero, List.getElem?_cons_succ, List.getElem?_cons_zero, List.set_cons_succ, List.set_cons_zero, Option.bind_some, Option.map_some, if_true, if_false, decide_true, decide_false, Bool.false_eq_true, store_zero, store_succ, st_no, st_v, atI_pos, ix50, ix51, ix52, ix53, ix54, ixN_pos, Option.bind_some, List.nodup_nil, List.nodup_cons, List.mem_cons, List.not_mem_nil, or_false, or_true, false_or, not_false_eq_true, not_true, and_self, and_true, true_and, Bool.and_true, Bool.true_and, Bool.and_self, Bool.and_false, Bool.false_and, Bool.not_true, Bool.not_false, List.length_cons, List.length_nil, List.cons_append, List.nil_append, List.replicate, Out.map, List.append_eq, List.all_cons, List.all_nil, decide_not, ne_eq, lim_lit, List.length_map, Int.reduceLE, Int.reduceLT, Int.reduceToNat, Nat.reduceAdd, Nat.reduceSub, Nat.reduceLeDiff, Nat.reduceEqDiff, Int.reduceNeg, Int.reduceEq, Nat.reduceLT, Nat.reduceMul, mulI, fdivI, rngI1, rngI2, Int.cast_ofNat_Int, Int.toNat_natCast, Option.bind_none, Option.map_none, Int.reduceAdd, Int.reduceSub, hf2, hc]
    repeat with_reducible refine wp_b ?_
    refine wp_mono (draw_ok hd2 (by omega) (by omega)) ?_
    rintro _ ⟨m, d3, rfl, m0, m1, hd3⟩
    have hf3 := hd3.fz
    have m1 := m1 (by omega)
    simp -implicitDefEqProofs (disch := first | assumption | exact st_no | exact st_v | exact fst_no | omega) only [xs1, xs2, xs3, rd, rds, vals, cont, Sl.cont, D.fz, fzL, cmpD, ordD, eqD_int, eqD_in, eqD_ni, eqD_nn, eqD_bb, isD, D.isNon, idx_tup, idx_lst, idx_ro, idx_own, addI, subI, fdivD, modD, negD, truD, bltD, lenD_items, listD, tupleD, absD_int, intD, tyD, D.items, D.isL, mutD, appD, extD, mutArgs, argsOf, argOf, lentS, places, back, backOne, outs, setL, ownAt, parS, lock, unlock, wipeS, putBack, free_zero, free_succ, fst_no, fst_v, rngOf1, rngOf2, srcOf, kit_bb, wp_some, retq_rt, retq_nx, turn_nx, turn_ct, turnp_nx, turnp_ct, turnp_rt, turnp_bk, Option.toList, Int.zero_add, Int.sub_zero, List.getElem?_cons_succ, List.getElem?_cons_zero, List.set_cons_succ, List.set_cons_zero, Option.bind_some, Option.map_some, if_true, if_false, decide_true, decide_false, Bool.false_eq_true, store_zero, store_succ, st_no, st_v, atI_pos, ix50, ix51, ix52, ix53, ix54, ixN_pos, Option.bind_some, List.nodup_nil, List.nodup_cons, List.mem_cons, List.not_mem_nil, or_false, or_true, false_or, not_false_eq_true, not_true, and_self, and_true, true_and, Bool.and_true, Bool.true_and, Bool.and_self, Bool.and_false, Bool.false_and, Bool.not_true, Bool.not_false, List.length_cons, List.length_nil, List.cons_append, List.nil_append, List.replicate, Out.map, List.append_eq, List.all_cons, List.all_nil, decide_not, ne_eq, lim_lit, List.length_map, Int.reduceLE, Int.reduceLT, Int.reduceToNat, Nat.reduceAdd, Nat.reduceSub, Nat.reduceLeDiff, Nat.reduceEqDiff, Int.reduceNeg, Int.reduceEq, Nat.reduceLT, Nat.reduceMul, mulI, fdivI, rngI1, rngI2, Int.cast_ofNat_Int, Int.toNat_natCast, Option.bind_none, Option.map_none, Int.reduceAdd, Int.reduceSub, hf3]
    exact ⟨(p, u, 1 + m), d3, rfl, ⟨p0, by simp only; omega, u0, by simp only; omega, by simp only; omega, by simp only; omega, hc⟩, hd3⟩
theorem wnet_ok {n : Nat} (hd : Dd B d) (hB : B ≤ 90000000) (hn : n ≤ 12) : Wp (fun r => ∃ (h : Int) (sp : List (Int × Int)) (net d' : D), r = (net, [.bo d', .no]) ∧ NetD n h sp [] [] net ∧ 0 ≤ h ∧ h < 1000 ∧ Dd (B + 30) d') (evF T 1000 (k + 2) 31 [.bo d, .v (.int n)]) := by
  refine evF_wp T__law_wide_net rfl ?_
  have hf := hd.fz
  have hlen : (rngD 0 (n : Int)).length = n := by rw [rngd_len]; omega
  simp -implicitDefEqProofs (disch := first | assumption | exact st_no | exact st_v | exact fst_no | omega) only [xs1, xs2, xs3, rd, rds, vals, cont, Sl.cont, D.fz, fzL, cmpD, ordD, eqD_int, eqD_in, eqD_ni, eqD_nn, eqD_bb, isD, D.isNon, idx_tup, idx_lst, idx_ro, idx_own, addI, subI, fdivD, modD, negD, truD, bltD, lenD_items, listD, tupleD, absD_int, intD, tyD, D.items, D.isL, mutD, appD, extD, mutArgs, argsOf, argOf, lentS, places, back, backOne, outs, setL, ownAt, parS, lock, unlock, wipeS, putBack, free_zero, free_succ, fst_no, fst_v, rngOf1, rngOf2, srcOf, kit_bb, wp_some, retq_rt, retq_nx, turn_nx, turn_ct, turnp_nx, turnp_ct, turnp_rt, turnp_bk, Option.toList, Int.zero_add, Int.sub_zero, List.getElem?_cons_succ, List.getElem?_cons_zero, List.set_cons_succ, List.set_cons_zero, Option.bind_some, Option.map_some, if_true, if_false, decide_true, decide_false, Bool.false_eq_true, store_zero, store_succ, st_no, st_v, atI_pos, ix50, ix51, ix52, ix53, ix54, ixN_pos, Option.bind_some, List.nodup_nil, List.nodup_cons, List.mem_cons, List.not_mem_nil, or_false, or_true, false_or, not_false_eq_true, not_true, and_self, and_true, true_and, Bool.and_true, Bool.true_and, Bool.and_self, Bool.and_false, Bool.false_and, Bool.not_true, Bool.not_false, List.length_cons, List.length_nil, List.cons_append, List.nil_append, List.replicate, Out.map, List.append_eq, List.all_cons, List.all_nil, decide_not, ne_eq, lim_lit, List.length_map, Int.reduceLE, Int.reduceLT, Int.reduceToNat, Nat.reduceAdd, Nat.reduceSub, Nat.reduceLeDiff, Nat.reduceEqDiff, Int.reduceNeg, Int.reduceEq, Nat.reduceLT, Nat.reduceMul, mulI, fdivI, rngI1, rngI2, Int.cast_ofNat_Int, Int.toNat_natCast, Option.bind_none, Option.map_none, Int.reduceAdd, Int.reduceSub, b__law_wide_net, hf]
  repeat with_reducible refine wp_b ?_
  refine wp_for (fun i ρ => ∃ (sp : List (Int × Int)) (d' : D) (s3 s4 : Sl), ρ = [.bo d', .v (.int n), .v (.own (sp.map spD)), s3, s4] ∧ St s3 ∧ St s4 ∧ sp.length = i ∧ (∀ p ∈ sp, 1 ≤ p.1 ∧ p.1 ≤ p.2 ∧ p.1 < 1000 ∧ p.2 < 1000) ∧ Dd (B + 2 * i) d') ?_ ?_ ?_
  · exact ⟨[], d, .no, .no, rfl, st_no, st_no, rfl, fun p hp => (nomatch hp), hd⟩
  · rintro i v _ hi ⟨sp, d', s3, s4, rfl, h3, h4, hl, hp, hd'⟩
    obtain ⟨rfl, hlt⟩ := rngd_get hi
    have hf' := hd'.fz
    simp -implicitDefEqProofs (disch := first | assumption | exact st_no | exact st_v | exact fst_no | omega) only [xs1, xs2, xs3, rd, rds, vals, cont, Sl.cont, D.fz, fzL, cmpD, ordD, eqD_int, eqD_in, eqD_ni, eqD_nn, eqD_bb, isD, D.isNon, idx_tup, idx_lst, idx_ro, idx_own, addI, subI, fdivD, modD, negD, truD, bltD, lenD_items, listD, tupleD, absD_int, intD, tyD, D.items, D.isL, mutD, appD, extD, mutArgs, argsOf, argOf, lentS, places, back, backOne, outs, setL, ownAt, parS, lock, unlock, wipeS, putBack, free_zero, free_succ, fst_no, fst_v, rngOf1, rngOf2, srcOf, kit_bb, wp_some, retq_rt, retq_nx, turn_nx, turn_ct, turnp_nx, turnp_ct, turnp_rt, turnp_bk, Option.toList, Int.zero_add, Int.sub_zero, List.getElem?_cons_succ, List.getElem?_cons_zero, List.set_cons_succ, List.set_cons_zero, Option.bind_some, Option.map_some, if_true, if_false, decide_true, decide_false, Bool.false_eq_true, store_zero, store_succ, st_no, st_v, atI_pos, ix50, ix51, ix52, ix53, ix54, ixN_pos, Option.bind_some, List.nodup_nil, List.nodup_cons, List.mem_cons, List.not_mem_nil, or_false, or_true, false_or, not_false_eq_true, not_true, and_self, and_true, true_and, Bool.and_true, Bool.true_and, Bool.and_self, Bool.and_false, Bool.false_and, Bool.not_true, Bool.not_false, List.length_cons, List.length_nil, List.cons_append, List.nil_append, List.replicate, Out.map, List.append_eq, List.all_cons, List.all_nil, decide_not, ne_eq, lim_lit, List.length_map, Int.reduceLE, Int.reduceLT, Int.reduceToNat, Nat.reduceAdd, Nat.reduceSub, Nat.reduceLeDiff, Nat.reduceEqDiff, Int.reduceNeg, Int.reduceEq, Nat.reduceLT, Nat.reduceMul, mulI, fdivI, rngI1, rngI2, Int.cast_ofNat_Int, Int.toNat_natCast, Option.bind_none, Option.map_none, Int.reduceAdd, Int.reduceSub, forTu, h3, h4, hf']
    repeat with_reducible refine wp_b ?_
    refine wp_mono (draw_ok hd' (by omega) (by omega)) ?_
    rintro _ ⟨x, d2, rfl, x0, x1, hd2⟩
    have hf2 := hd2.fz
    have x1 := x1 (by omega)
    simp -implicitDefEqProofs (disch := first | assumption | exact st_no | exact st_v | exact fst_no | omega) only [xs1, xs2, xs3, rd, rds, vals, cont, Sl.cont, D.fz, fzL, cmpD, ordD, eqD_int, eqD_in, eqD_ni, eqD_nn, eqD_bb, isD, D.isNon, idx_tup, idx_lst, idx_ro, idx_own, addI, subI, fdivD, modD, negD, truD, bltD, lenD_items, listD, tupleD, absD_int, intD, tyD, D.items, D.isL, mutD, appD, extD, mutArgs, argsOf, argOf, lentS, places, back, backOne, outs, setL, ownAt, parS, lock, unlock, wipeS, putBack, free_zero, free_succ, fst_no, fst_v, rngOf1, rngOf2, srcOf, kit_bb, wp_some, retq_rt, retq_nx, turn_nx, turn_ct, turnp_nx, turnp_ct, turnp_rt, turnp_bk, Option.toList, Int.zero_add, Int.sub_zero, List.getElem?_cons_succ, List.getElem?_cons_zero, List.set_cons_succ, List.set_cons_zero, Option.bind_some, Option.map_some, if_true, if_false, decide_true, decide_false, Bool.false_eq_true, store_zero, store_succ, st_no, st_v, atI_pos, ix50, ix51, ix52, ix53, ix54, ixN_pos, Option.bind_some, List.nodup_nil, List.nodup_cons, List.mem_cons, List.not_mem_nil, or_false, or_true, false_or, not_false_eq_true, not_true, and_self, and_true, true_and, Bool.and_true, Bool.true_and, Bool.and_self, Bool.and_false, Bool.false_and, Bool.not_true, Bool.not_false, List.length_cons, List.length_nil, List.cons_append, List.nil_append, List.replicate, Out.map, List.append_eq, List.all_cons, List.all_nil, decide_not, ne_eq, lim_lit, List.length_map, Int.reduceLE, Int.reduceLT, Int.reduceToNat, Nat.reduceAdd, Nat.reduceSub, Nat.reduceLeDiff, Nat.reduceEqDiff, Int.reduceNeg, Int.reduceEq, Nat.reduceLT, Nat.reduceMul, mulI, fdivI, rngI1, rngI2, Int.cast_ofNat_Int, Int.toNat_natCast, Option.bind_none, Option.map_none, Int.reduceAdd, Int.reduceSub, h3, h4, hf2]
    repeat with_reducible refine wp_b ?_
    refine wp_mono (draw_ok hd2 (by omega) (by omega)) ?_
    rintro _ ⟨y, d3, rfl, y0, y1, hd3⟩
    have hf3 := hd3.fz
    have y1 := y1 (by omega)
    have hl2 : sp.length < 16777216 := by omega
    simp -implicitDefEqProofs (disch := first | assumption | exact st_no | exact st_v | exact fst_no | omega) only [xs1, xs2, xs3, rd, rds, vals, cont, Sl.cont, D.fz, fzL, cmpD, ordD, eqD_int, eqD_in, eqD_ni, eqD_nn, eqD_bb, isD, D.isNon, idx_tup, idx_lst, idx_ro, idx_own, addI, subI, fdivD, modD, negD, truD, bltD, lenD_items, listD, tupleD, absD_int, intD, tyD, D.items, D.isL, mutD, appD, extD, mutArgs, argsOf, argOf, lentS, places, back, backOne, outs, setL, ownAt, parS, lock, unlock, wipeS, putBack, free_zero, free_succ, fst_no, fst_v, rngOf1, rngOf2, srcOf, kit_bb, wp_some, retq_rt, retq_nx, turn_nx, turn_ct, turnp_nx, turnp_ct, turnp_rt, turnp_bk, Option.toList, Int.zero_add, Int.sub_zero, List.getElem?_cons_succ, List.getElem?_cons_zero, List.set_cons_succ, List.set_cons_zero, Option.bind_some, Option.map_some, if_true, if_false, decide_true, decide_false, Bool.false_eq_true, store_zero, store_succ, st_no, st_v, atI_pos, ix50, ix51, ix52, ix53, ix54, ixN_pos, Option.bind_some, List.nodup_nil, List.nodup_cons, List.mem_cons, List.not_mem_nil, or_false, or_true, false_or, not_false_eq_true, not_true, and_self, and_true, true_and, Bool.and_true, Bool.true_and, Bool.and_self, Bool.and_false, Bool.false_and, Bool.not_true, Bool.not_false, List.length_cons, List.length_nil, List.cons_append, List.nil_append, List.replicate, Out.map, List.append_eq, List.all_cons, List.all_nil, decide_not, ne_eq, lim_lit, List.length_map, Int.reduceLE, Int.reduceLT, Int.reduceToNat, Nat.reduceAdd, Nat.reduceSub, Nat.reduceLeDiff, Nat.reduceEqDiff, Int.reduceNeg, Int.reduceEq, Nat.reduceLT, Nat.reduceMul, mulI, fdivI, rngI1, rngI2, Int.cast_ofNat_Int, Int.toNat_natCast, Option.bind_none, Option.map_none, Int.reduceAdd, Int.reduceSub, h3, h4, hf3, hl2]
    refine ⟨sp ++ [(1 + x, 1 + x + y)], d3, _, _, by simp only [List.map_append, List.map_cons, List.map_nil, spD]; rfl, st_v, st_v, by simp [hl], ?_, hd3.mono (by omega)⟩
    intro p hp2
    rcases List.mem_append.mp hp2 with z | z
    · exact hp p z
    · have z : p = (1 + x, 1 + x + y) := by simpa using z
      subst z
      simp only
      omega
  · rintro _ ⟨sp, d', s3, s4, rfl, h3, h4, hl, hp, hd'⟩
    rw [hlen] at hl hd'
    have hf' := hd'.fz
    simp -implicitDefEqProofs (disch := first | assumption | exact st_no | exact st_v | exact fst_no | omega) only [xs1, xs2, xs3, rd, rds, vals, cont, Sl.cont, D.fz, fzL, cmpD, ordD, eqD_int, eqD_in, eqD_ni, eqD_nn, eqD_bb, isD, D.isNon, idx_tup, idx_lst, idx_ro, idx_own, addI, subI, fdivD, modD, negD, truD, bltD, lenD_items, listD, tupleD, absD_int, intD, tyD, D.items, D.isL, mutD, appD, extD, mutArgs, argsOf, argOf, lentS, places, back, backOne, outs, setL, ownAt, parS, lock, unlock, wipeS, putBack, free_zero, free_succ, fst_no, fst_v, rngOf1, rngOf2, srcOf, kit_bb, wp_some, retq_rt, retq_nx, turn_nx, turn_ct, turnp_nx, turnp_ct, turnp_rt, turnp_bk, Option.toList, Int.zero_add, Int.sub_zero, List.getElem?_cons_succ, List.getElem?_cons_zero, List.set_cons_succ, List.set_cons_zero, Option.bind_some, Option.map_some, if_true, if_false, decide_true, decide_false, Bool.false_eq_true, store_zero, store_succ, st_no, st_v, atI_pos, ix50, ix51, ix52, ix53, ix54, ixN_pos, Option.bind_some, List.nodup_nil, List.nodup_cons, List.mem_cons, List.not_mem_nil, or_false, or_true, false_or, not_false_eq_true, not_true, and_self, and_true, true_and, Bool.and_true, Bool.true_and, Bool.and_self, Bool.and_false, Bool.false_and, Bool.not_true, Bool.not_false, List.length_cons, List.length_nil, List.cons_append, List.nil_append, List.replicate, Out.map, List.append_eq, List.all_cons, List.all_nil, decide_not, ne_eq, lim_lit, List.length_map, Int.reduceLE, Int.reduceLT, Int.reduceToNat, Nat.reduceAdd, Nat.reduceSub, Nat.reduceLeDiff, Nat.reduceEqDiff, Int.reduceNeg, Int.reduceEq, Nat.reduceLT, Nat.reduceMul, mulI, fdivI, rngI1, rngI2, Int.cast_ofNat_Int, Int.toNat_natCast, Option.bind_none, Option.map_none, Int.reduceAdd, Int.reduceSub, hf', fz_sp]
    repeat with_reducible refine wp_b ?_
    refine wp_mono (draw_ok hd' (by omega) (by omega)) ?_
    rintro _ ⟨x, d2, rfl, x0, x1, hd2⟩
    have hf2 := hd2.fz
    have x1 := x1 (by omega)
    simp -implicitDefEqProofs (disch := first | assumption | exact st_no | exact st_v | exact fst_no | omega) only [xs1, xs2, xs3, rd, rds, vals, cont, Sl.cont, D.fz, fzL, cmpD, ordD, eqD_int, eqD_in, eqD_ni, eqD_nn, eqD_bb, isD, D.isNon, idx_tup, idx_lst, idx_ro, idx_own, addI, subI, fdivD, modD, negD, truD, bltD, lenD_items, listD, tupleD, absD_int, intD, tyD, D.items, D.isL, mutD, appD, extD, mutArgs, argsOf, argOf, lentS, places, back, backOne, outs, setL, ownAt, parS, lock, unlock, wipeS, putBack, free_zero, free_succ, fst_no, fst_v, rngOf1, rngOf2, srcOf, kit_bb, wp_some, retq_rt, retq_nx, turn_nx, turn_ct, turnp_nx, turnp_ct, turnp_rt, turnp_bk, Option.toList, Int.zero_add, Int.sub_zero, List.getElem?_cons_succ, List.getElem?_cons_zero, List.set_cons_succ, List.set_cons_zero, Option.bind_some, Option.map_some, if_true, if_false, decide_true, decide_false, Bool.false_eq_true, store_zero, store_succ, st_no, st_v, atI_pos, ix50, ix51, ix52, ix53, ix54, ixN_pos, Option.bind_some, List.nodup_nil, List.nodup_cons, List.mem_cons, List.not_mem_nil, or_false, or_true, false_or, not_false_eq_true, not_true, and_self, and_true, true_and, Bool.and_true, Bool.true_and, Bool.and_self, Bool.and_false, Bool.false_and, Bool.not_true, Bool.not_false, List.length_cons, List.length_nil, List.cons_append, List.nil_append, List.replicate, Out.map, List.append_eq, List.all_cons, List.all_nil, decide_not, ne_eq, lim_lit, List.length_map, Int.reduceLE, Int.reduceLT, Int.reduceToNat, Nat.reduceAdd, Nat.reduceSub, Nat.reduceLeDiff, Nat.reduceEqDiff, Int.reduceNeg, Int.reduceEq, Nat.reduceLT, Nat.reduceMul, mulI, fdivI, rngI1, rngI2, Int.cast_ofNat_Int, Int.toNat_natCast, Option.bind_none, Option.map_none, Int.reduceAdd, Int.reduceSub, hf2, fz_sp]
    exact ⟨1 + x, sp, _, d2, rfl, ⟨rfl, hl, hp, fun t z => (nomatch z), fun t z => (nomatch z), by simp, by simp⟩, by omega, by omega, hd2.mono (by omega)⟩
def NetQ (B : Nat) (r : D × List Sl) : Prop := ∃ (n : Nat) (h : Int) (sp : List (Int × Int)) (bs ws : List (Int × Int × Int)) (net d' : D), r = (net, [.bo d']) ∧ NetD n h sp bs ws net ∧ 1 ≤ n ∧ n ≤ 12 ∧ 0 ≤ h ∧ h < 1000 ∧ Dd (B + 5000) d'
theorem onet_ok (hd : Dd B d) (hB : B ≤ 1000000) : Wp (NetQ B) (evF T 1000 (k + 4) 34 [.bo d]) := by
  refine evF_wp T__law_odd_net rfl ?_
  have hf := hd.fz
  have fin : ∀ (n nb nw lg : Nat) (h : Int) (sp : List (Int × Int)) (bs ws : List (Int × Int × Int)) (net d1 : D), NetD n h sp bs ws net → 1 ≤ n → n ≤ 12 → 0 ≤ h → h < 1000 → bs.length ≤ 100 → ws.length ≤ 100 → nb ≤ 400 → nw ≤ 40 → 1 ≤ lg → lg ≤ 1000 → Dd (B + 300) d1 →
      Wp (RetQ (NetQ B) [.bo d]) (evB (evF T 1000 (k + 3)) 1000 (tailOf 4 b__law_odd_net) [.bo d1, .v (.int n), .v net, .no, .no, .v (.int nb), .v (.int nw), .v (.int lg), .no]) := by
    intro n nb nw lg h sp bs ws net d1 hn n1 n2 h0 h1 lb lw hnb hnw l1 l2 hd1
    have hf1 := hd1.fz
    have nf := hn.fz
    have i1 := hn.i1
    have i2 := hn.i2
    have i3 := hn.i3
    have i4 := hn.i4
    have hlb : (rngD 0 (nb : Int)).length = nb := by rw [rngd_len]; omega
    have hlw : (rngD 0 (nw : Int)).length = nw := by rw [rngd_len]; omega
    simp -implicitDefEqProofs (disch := first | assumption | exact st_no | exact st_v | exact fst_no | omega) only [xs1, xs2, xs3, rd, rds, vals, cont, Sl.cont, D.fz, fzL, cmpD, ordD, eqD_int, eqD_in, eqD_ni, eqD_nn, eqD_bb, isD, D.isNon, idx_tup, idx_lst, idx_ro, idx_own, addI, subI, fdivD, modD, negD, truD, bltD, lenD_items, listD, tupleD, absD_int, intD, tyD, D.items, D.isL, mutD, appD, extD, mutArgs, argsOf, argOf, lentS, places, back, backOne, outs, setL, ownAt, parS, lock, unlock, wipeS, putBack, free_zero, free_succ, fst_no, fst_v, rngOf1, rngOf2, srcOf, kit_bb, wp_some, retq_rt, retq_nx, turn_nx, turn_ct, turnp_nx, turnp_ct, turnp_rt, turnp_bk, Option.toList, Int.zero_add, Int.sub_zero, List.getElem?_cons_succ, List.getElem?_cons_zero, List.set_cons_succ, List.set_cons_zero, Option.bind_some, Option.map_some, if_true, if_false, decide_true, decide_false, Bool.false_eq_true, store_zero, store_succ, st_no, st_v, atI_pos, ix50, ix51, ix52, ix53, ix54, ixN_pos, Option.bind_some, List.nodup_nil, List.nodup_cons, List.mem_cons, List.not_mem_nil, or_false, or_true, false_or, not_false_eq_true, not_true, and_self, and_true, true_and, Bool.and_true, Bool.true_and, Bool.and_self, Bool.and_false, Bool.false_and, Bool.not_true, Bool.not_false, List.length_cons, List.length_nil, List.cons_append, List.nil_append, List.replicate, Out.map, List.append_eq, List.all_cons, List.all_nil, decide_not, ne_eq, lim_lit, List.length_map, Int.reduceLE, Int.reduceLT, Int.reduceToNat, Nat.reduceAdd, Nat.reduceSub, Nat.reduceLeDiff, Nat.reduceEqDiff, Int.reduceNeg, Int.reduceEq, Nat.reduceLT, Nat.reduceMul, mulI, fdivI, rngI1, rngI2, Int.cast_ofNat_Int, Int.toNat_natCast, Option.bind_none, Option.map_none, Int.reduceAdd, Int.reduceSub, b__law_odd_net, tailOf, hf1]
    repeat with_reducible refine wp_b ?_
    refine wp_mono (wp_cdraw (fun d => [.bo d, .v (.int n), .v net, .no, .no, .v (.int nb), .v (.int nw), .v (.int lg), .no]) (fun y => ∃ t, y = trD t ∧ PtB n t) 4 hd1 hlb (by omega) ?_) ?_
    · intro i d' v hi hd'
      have hf' := hd'.fz
      simp -implicitDefEqProofs (disch := first | assumption | exact st_no | exact st_v | exact fst_no | omega) only [xs1, xs2, xs3, rd, rds, vals, cont, Sl.cont, D.fz, fzL, cmpD, ordD, eqD_int, eqD_in, eqD_ni, eqD_nn, eqD_bb, isD, D.isNon, idx_tup, idx_lst, idx_ro, idx_own, addI, subI, fdivD, modD, negD, truD, bltD, lenD_items, listD, tupleD, absD_int, intD, tyD, D.items, D.isL, mutD, appD, extD, mutArgs, argsOf, argOf, lentS, places, back, backOne, outs, setL, ownAt, parS, lock, unlock, wipeS, putBack, free_zero, free_succ, fst_no, fst_v, rngOf1, rngOf2, srcOf, kit_bb, wp_some, retq_rt, retq_nx, turn_nx, turn_ct, turnp_nx, turnp_ct, turnp_rt, turnp_bk, Option.toList, Int.zero_add, Int.sub_zero, List.getElem?_cons_succ, List.getElem?_cons_zero, List.set_cons_succ, List.set_cons_zero, Option.bind_some, Option.map_some, if_true, if_false, decide_true, decide_false, Bool.false_eq_true, store_zero, store_succ, st_no, st_v, atI_pos, ix50, ix51, ix52, ix53, ix54, ixN_pos, Option.bind_some, List.nodup_nil, List.nodup_cons, List.mem_cons, List.not_mem_nil, or_false, or_true, false_or, not_false_eq_true, not_true, and_self, and_true, true_and, Bool.and_true, Bool.true_and, Bool.and_self, Bool.and_false, Bool.false_and, Bool.not_true, Bool.not_false, List.length_cons, List.length_nil, List.cons_append, List.nil_append, List.replicate, Out.map, List.append_eq, List.all_cons, List.all_nil, decide_not, ne_eq, lim_lit, List.length_map, Int.reduceLE, Int.reduceLT, Int.reduceToNat, Nat.reduceAdd, Nat.reduceSub, Nat.reduceLeDiff, Nat.reduceEqDiff, Int.reduceNeg, Int.reduceEq, Nat.reduceLT, Nat.reduceMul, mulI, fdivI, rngI1, rngI2, Int.cast_ofNat_Int, Int.toNat_natCast, Option.bind_none, Option.map_none, Int.reduceAdd, Int.reduceSub, compTu, hf']
      repeat with_reducible refine wp_b ?_
      refine wp_mono (obound_ok (k := k + 1) hd' (by omega) n1 n2) ?_
      rintro _ ⟨t, d2, rfl, ht, hd2⟩
      have hf2 := hd2.fz
      have ft := fz_tr1 t
      simp -implicitDefEqProofs (disch := first | assumption | exact st_no | exact st_v | exact fst_no | omega) only [xs1, xs2, xs3, rd, rds, vals, cont, Sl.cont, D.fz, fzL, cmpD, ordD, eqD_int, eqD_in, eqD_ni, eqD_nn, eqD_bb, isD, D.isNon, idx_tup, idx_lst, idx_ro, idx_own, addI, subI, fdivD, modD, negD, truD, bltD, lenD_items, listD, tupleD, absD_int, intD, tyD, D.items, D.isL, mutD, appD, extD, mutArgs, argsOf, argOf, lentS, places, back, backOne, outs, setL, ownAt, parS, lock, unlock, wipeS, putBack, free_zero, free_succ, fst_no, fst_v, rngOf1, rngOf2, srcOf, kit_bb, wp_some, retq_rt, retq_nx, turn_nx, turn_ct, turnp_nx, turnp_ct, turnp_rt, turnp_bk, Option.toList, Int.zero_add, Int.sub_zero, List.getElem?_cons_succ, List.getElem?_cons_zero, List.set_cons_succ, List.set_cons_zero, Option.bind_some, Option.map_some, if_true, if_false, decide_true, decide_false, Bool.false_eq_true, store_zero, store_succ, st_no, st_v, atI_pos, ix50, ix51, ix52, ix53, ix54, ixN_pos, Option.bind_some, List.nodup_nil, List.nodup_cons, List.mem_cons, List.not_mem_nil, or_false, or_true, false_or, not_false_eq_true, not_true, and_self, and_true, true_and, Bool.and_true, Bool.true_and, Bool.and_self, Bool.and_false, Bool.false_and, Bool.not_true, Bool.not_false, List.length_cons, List.length_nil, List.cons_append, List.nil_append, List.replicate, Out.map, List.append_eq, List.all_cons, List.all_nil, decide_not, ne_eq, lim_lit, List.length_map, Int.reduceLE, Int.reduceLT, Int.reduceToNat, Nat.reduceAdd, Nat.reduceSub, Nat.reduceLeDiff, Nat.reduceEqDiff, Int.reduceNeg, Int.reduceEq, Nat.reduceLT, Nat.reduceMul, mulI, fdivI, rngI1, rngI2, Int.cast_ofNat_Int, Int.toNat_natCast, Option.bind_none, Option.map_none, Int.reduceAdd, Int.reduceSub, hf2, ft]
      exact ⟨_, d2, rfl, ⟨t, rfl, ht⟩, hd2⟩
    · rintro _ ⟨l, d2, rfl, hl, hll, hd2⟩
      obtain ⟨ms, rfl, hms, ml⟩ := lift hl
      have hf2 := hd2.fz
      rw [List.length_map] at ml hll
      simp -implicitDefEqProofs (disch := first | assumption | exact st_no | exact st_v | exact fst_no | omega) only [xs1, xs2, xs3, rd, rds, vals, cont, Sl.cont, D.fz, fzL, cmpD, ordD, eqD_int, eqD_in, eqD_ni, eqD_nn, eqD_bb, isD, D.isNon, idx_tup, idx_lst, idx_ro, idx_own, addI, subI, fdivD, modD, negD, truD, bltD, lenD_items, listD, tupleD, absD_int, intD, tyD, D.items, D.isL, mutD, appD, extD, mutArgs, argsOf, argOf, lentS, places, back, backOne, outs, setL, ownAt, parS, lock, unlock, wipeS, putBack, free_zero, free_succ, fst_no, fst_v, rngOf1, rngOf2, srcOf, kit_bb, wp_some, retq_rt, retq_nx, turn_nx, turn_ct, turnp_nx, turnp_ct, turnp_rt, turnp_bk, Option.toList, Int.zero_add, Int.sub_zero, List.getElem?_cons_succ, List.getElem?_cons_zero, List.set_cons_succ, List.set_cons_zero, Option.bind_some, Option.map_some, if_true, if_false, decide_true, decide_false, Bool.false_eq_true, store_zero, store_succ, st_no, st_v, atI_pos, ix50, ix51, ix52, ix53, ix54, ixN_pos, Option.bind_some, List.nodup_nil, List.nodup_cons, List.mem_cons, List.not_mem_nil, or_false, or_true, false_or, not_false_eq_true, not_true, and_self, and_true, true_and, Bool.and_true, Bool.true_and, Bool.and_self, Bool.and_false, Bool.false_and, Bool.not_true, Bool.not_false, List.length_cons, List.length_nil, List.cons_append, List.nil_append, List.replicate, Out.map, List.append_eq, List.all_cons, List.all_nil, decide_not, ne_eq, lim_lit, List.length_map, Int.reduceLE, Int.reduceLT, Int.reduceToNat, Nat.reduceAdd, Nat.reduceSub, Nat.reduceLeDiff, Nat.reduceEqDiff, Int.reduceNeg, Int.reduceEq, Nat.reduceLT, Nat.reduceMul, mulI, fdivI, rngI1, rngI2, Int.cast_ofNat_Int, Int.toNat_natCast, Option.bind_none, Option.map_none, Int.reduceAdd, Int.reduceSub, hf2]
      repeat with_reducible refine wp_b ?_
      refine wp_mono (wp_cdraw (fun d => [.bo d, .v (.int n), .v net, .v (.own (ms.map trD)), .no, .v (.int nb), .v (.int nw), .v (.int lg), .no]) (fun y => ∃ t, y = trD t ∧ PtW n t) 3 hd2 hlw (by omega) ?_) ?_
      · intro i d' v hi hd'
        have hf' := hd'.fz
        simp -implicitDefEqProofs (disch := first | assumption | exact st_no | exact st_v | exact fst_no | omega) only [xs1, xs2, xs3, rd, rds, vals, cont, Sl.cont, D.fz, fzL, cmpD, ordD, eqD_int, eqD_in, eqD_ni, eqD_nn, eqD_bb, isD, D.isNon, idx_tup, idx_lst, idx_ro, idx_own, addI, subI, fdivD, modD, negD, truD, bltD, lenD_items, listD, tupleD, absD_int, intD, tyD, D.items, D.isL, mutD, appD, extD, mutArgs, argsOf, argOf, lentS, places, back, backOne, outs, setL, ownAt, parS, lock, unlock, wipeS, putBack, free_zero, free_succ, fst_no, fst_v, rngOf1, rngOf2, srcOf, kit_bb, wp_some, retq_rt, retq_nx, turn_nx, turn_ct, turnp_nx, turnp_ct, turnp_rt, turnp_bk, Option.toList, Int.zero_add, Int.sub_zero, List.getElem?_cons_succ, List.getElem?_cons_zero, List.set_cons_succ, List.set_cons_zero, Option.bind_some, Option.map_some, if_true, if_false, decide_true, decide_false, Bool.false_eq_true, store_zero, store_succ, st_no, st_v, atI_pos, ix50, ix51, ix52, ix53, ix54, ixN_pos, Option.bind_some, List.nodup_nil, List.nodup_cons, List.mem_cons, List.not_mem_nil, or_false, or_true, false_or, not_false_eq_true, not_true, and_self, and_true, true_and, Bool.and_true, Bool.true_and, Bool.and_self, Bool.and_false, Bool.false_and, Bool.not_true, Bool.not_false, List.length_cons, List.length_nil, List.cons_append, List.nil_append, List.replicate, Out.map, List.append_eq, List.all_cons, List.all_nil, decide_not, ne_eq, lim_lit, List.length_map, Int.reduceLE, Int.reduceLT, Int.reduceToNat, Nat.reduceAdd, Nat.reduceSub, Nat.reduceLeDiff, Nat.reduceEqDiff, Int.reduceNeg, Int.reduceEq, Nat.reduceLT, Nat.reduceMul, mulI, fdivI, rngI1, rngI2, Int.cast_ofNat_Int, Int.toNat_natCast, Option.bind_none, Option.map_none, Int.reduceAdd, Int.reduceSub, compTu, hf']
        repeat with_reducible refine wp_b ?_
        refine wp_mono (owait_ok (k := k + 1) hd' (by omega) n1 n2 l1 l2) ?_
        rintro _ ⟨t, d3, rfl, ht, hd3⟩
        have hf3 := hd3.fz
        have ft := fz_tr1 t
        simp -implicitDefEqProofs (disch := first | assumption | exact st_no | exact st_v | exact fst_no | omega) only [xs1, xs2, xs3, rd, rds, vals, cont, Sl.cont, D.fz, fzL, cmpD, ordD, eqD_int, eqD_in, eqD_ni, eqD_nn, eqD_bb, isD, D.isNon, idx_tup, idx_lst, idx_ro, idx_own, addI, subI, fdivD, modD, negD, truD, bltD, lenD_items, listD, tupleD, absD_int, intD, tyD, D.items, D.isL, mutD, appD, extD, mutArgs, argsOf, argOf, lentS, places, back, backOne, outs, setL, ownAt, parS, lock, unlock, wipeS, putBack, free_zero, free_succ, fst_no, fst_v, rngOf1, rngOf2, srcOf, kit_bb, wp_some, retq_rt, retq_nx, turn_nx, turn_ct, turnp_nx, turnp_ct, turnp_rt, turnp_bk, Option.toList, Int.zero_add, Int.sub_zero, List.getElem?_cons_succ, List.getElem?_cons_zero, List.set_cons_succ, List.set_cons_zero, Option.bind_some, Option.map_some, if_true, if_false, decide_true, decide_false, Bool.false_eq_true, store_zero, store_succ, st_no, st_v, atI_pos, ix50, ix51, ix52, ix53, ix54, ixN_pos, Option.bind_some, List.nodup_nil, List.nodup_cons, List.mem_cons, List.not_mem_nil, or_false, or_true, false_or, not_false_eq_true, not_true, and_self, and_true, true_and, Bool.and_true, Bool.true_and, Bool.and_self, Bool.and_false, Bool.false_and, Bool.not_true, Bool.not_false, List.length_cons, List.length_nil, List.cons_append, List.nil_append, List.replicate, Out.map, List.append_eq, List.all_cons, List.all_nil, decide_not, ne_eq, lim_lit, List.length_map, Int.reduceLE, Int.reduceLT, Int.reduceToNat, Nat.reduceAdd, Nat.reduceSub, Nat.reduceLeDiff, Nat.reduceEqDiff, Int.reduceNeg, Int.reduceEq, Nat.reduceLT, Nat.reduceMul, mulI, fdivI, rngI1, rngI2, Int.cast_ofNat_Int, Int.toNat_natCast, Option.bind_none, Option.map_none, Int.reduceAdd, Int.reduceSub, hf3, ft]
        exact ⟨_, d3, rfl, ⟨t, rfl, ht⟩, hd3⟩
      · rintro _ ⟨l, d3, rfl, hl3, hll3, hd3⟩
        obtain ⟨hs, rfl, hhs, hsl⟩ := lift hl3
        have hf3 := hd3.fz
        rw [List.length_map] at hsl hll3
        have a1 : binD .Add (.tup (bs.map trD)) (.tup (ms.map trD)) = some (.tup ((bs ++ ms).map trD)) := by
          rw [List.map_append]
          exact addT ⟨fz_tr _, fz_tr _, by rw [List.length_map, List.length_map]; omega⟩
        have a2 : binD .Add (.tup (ws.map trD)) (.tup (hs.map trD)) = some (.tup ((ws ++ hs).map trD)) := by
          rw [List.map_append]
          exact addT ⟨fz_tr _, fz_tr _, by rw [List.length_map, List.length_map]; omega⟩
        simp -implicitDefEqProofs (disch := first | assumption | exact st_no | exact st_v | exact fst_no | omega) only [xs1, xs2, xs3, rd, rds, vals, cont, Sl.cont, D.fz, fzL, cmpD, ordD, eqD_int, eqD_in, eqD_ni, eqD_nn, eqD_bb, isD, D.isNon, idx_tup, idx_lst, idx_ro, idx_own, addI, subI, fdivD, modD, negD, truD, bltD, lenD_items, listD, tupleD, absD_int, intD, tyD, D.items, D.isL, mutD, appD, extD, mutArgs, argsOf, argOf, lentS, places, back, backOne, outs, setL, ownAt, parS, lock, unlock, wipeS, putBack, free_zero, free_succ, fst_no, fst_v, rngOf1, rngOf2, srcOf, kit_bb, wp_some, retq_rt, retq_nx, turn_nx, turn_ct, turnp_nx, turnp_ct, turnp_rt, turnp_bk, Option.toList, Int.zero_add, Int.sub_zero, List.getElem?_cons_succ, List.getElem?_cons_zero, List.set_cons_succ, List.set_cons_zero, Option.bind_some, Option.map_some, if_true, if_false, decide_true, decide_false, Bool.false_eq_true, store_zero, store_succ, st_no, st_v, atI_pos, ix50, ix51, ix52, ix53, ix54, ixN_pos, Option.bind_some, List.nodup_nil, List.nodup_cons, List.mem_cons, List.not_mem_nil, or_false, or_true, false_or, not_false_eq_true, not_true, and_self, and_true, true_and, Bool.and_true, Bool.true_and, Bool.and_self, Bool.and_false, Bool.false_and, Bool.not_true, Bool.not_false, List.length_cons, List.length_nil, List.cons_append, List.nil_append, List.replicate, Out.map, List.append_eq, List.all_cons, List.all_nil, decide_not, ne_eq, lim_lit, List.length_map, Int.reduceLE, Int.reduceLT, Int.reduceToNat, Nat.reduceAdd, Nat.reduceSub, Nat.reduceLeDiff, Nat.reduceEqDiff, Int.reduceNeg, Int.reduceEq, Nat.reduceLT, Nat.reduceMul, mulI, fdivI, rngI1, rngI2, Int.cast_ofNat_Int, Int.toNat_natCast, Option.bind_none, Option.map_none, Int.reduceAdd, Int.reduceSub, hf3, nf, i1, i2, i3, i4, a1, a2, fz_tr, fz_sp]
        exact ⟨n, h, sp, bs ++ ms, ws ++ hs, _, d3, rfl, ⟨rfl, hn.len, hn.sp, app_all hn.bds hms, app_all hn.wts hhs, by rw [List.length_append]; omega, by rw [List.length_append]; omega⟩, n1, n2, h0, h1, hd3.mono (by omega)⟩
  simp -implicitDefEqProofs (disch := first | assumption | exact st_no | exact st_v | exact fst_no | omega) only [xs1, xs2, xs3, rd, rds, vals, cont, Sl.cont, D.fz, fzL, cmpD, ordD, eqD_int, eqD_in, eqD_ni, eqD_nn, eqD_bb, isD, D.isNon, idx_tup, idx_lst, idx_ro, idx_own, addI, subI, fdivD, modD, negD, truD, bltD, lenD_items, listD, tupleD, absD_int, intD, tyD, D.items, D.isL, mutD, appD, extD, mutArgs, argsOf, argOf, lentS, places, back, backOne, outs, setL, ownAt, parS, lock, unlock, wipeS, putBack, free_zero, free_succ, fst_no, fst_v, rngOf1, rngOf2, srcOf, kit_bb, wp_some, retq_rt, retq_nx, turn_nx, turn_ct, turnp_nx, turnp_ct, turnp_rt, turnp_bk, Option.toList, Int.zero_add, Int.sub_zero, List.getElem?_cons_succ, List.getElem?_cons_zero, List.set_cons_succ, List.set_cons_zero, Option.bind_some, Option.map_some, if_true, if_false, decide_true, decide_false, Bool.false_eq_true, store_zero, store_succ, st_no, st_v, atI_pos, ix50, ix51, ix52, ix53, ix54, ixN_pos, Option.bind_some, List.nodup_nil, List.nodup_cons, List.mem_cons, List.not_mem_nil, or_false, or_true, false_or, not_false_eq_true, not_true, and_self, and_true, true_and, Bool.and_true, Bool.true_and, Bool.and_self, Bool.and_false, Bool.false_and, Bool.not_true, Bool.not_false, List.length_cons, List.length_nil, List.cons_append, List.nil_append, List.replicate, Out.map, List.append_eq, List.all_cons, List.all_nil, decide_not, ne_eq, lim_lit, List.length_map, Int.reduceLE, Int.reduceLT, Int.reduceToNat, Nat.reduceAdd, Nat.reduceSub, Nat.reduceLeDiff, Nat.reduceEqDiff, Int.reduceNeg, Int.reduceEq, Nat.reduceLT, Nat.reduceMul, mulI, fdivI, rngI1, rngI2, Int.cast_ofNat_Int, Int.toNat_natCast, Option.bind_none, Option.map_none, Int.reduceAdd, Int.reduceSub, b__law_odd_net, hf]
  repeat with_reducible refine wp_b ?_
  refine wp_mono (draw_ok hd (by omega) (by omega)) ?_
  rintro _ ⟨x, d1, rfl, x0, x1, hd1⟩
  have hf1 := hd1.fz
  have x1 := x1 (by omega)
  obtain ⟨n, hn⟩ := Int.eq_ofNat_of_zero_le (show 0 ≤ 1 + x by omega)
  simp -implicitDefEqProofs (disch := first | assumption | exact st_no | exact st_v | exact fst_no | omega) only [xs1, xs2, xs3, rd, rds, vals, cont, Sl.cont, D.fz, fzL, cmpD, ordD, eqD_int, eqD_in, eqD_ni, eqD_nn, eqD_bb, isD, D.isNon, idx_tup, idx_lst, idx_ro, idx_own, addI, subI, fdivD, modD, negD, truD, bltD, lenD_items, listD, tupleD, absD_int, intD, tyD, D.items, D.isL, mutD, appD, extD, mutArgs, argsOf, argOf, lentS, places, back, backOne, outs, setL, ownAt, parS, lock, unlock, wipeS, putBack, free_zero, free_succ, fst_no, fst_v, rngOf1, rngOf2, srcOf, kit_bb, wp_some, retq_rt, retq_nx, turn_nx, turn_ct, turnp_nx, turnp_ct, turnp_rt, turnp_bk, Option.toList, Int.zero_add, Int.sub_zero, List.getElem?_cons_succ, List.getElem?_cons_zero, List.set_cons_succ, List.set_cons_zero, Option.bind_some, Option.map_some, if_true, if_false, decide_true, decide_false, Bool.false_eq_true, store_zero, store_succ, st_no, st_v, atI_pos, ix50, ix51, ix52, ix53, ix54, ixN_pos, Option.bind_some, List.nodup_nil, List.nodup_cons, List.mem_cons, List.not_mem_nil, or_false, or_true, false_or, not_false_eq_true, not_true, and_self, and_true, true_and, Bool.and_true, Bool.true_and, Bool.and_self, Bool.and_false, Bool.false_and, Bool.not_true, Bool.not_false, List.length_cons, List.length_nil, List.cons_append, List.nil_append, List.replicate, Out.map, List.append_eq, List.all_cons, List.all_nil, decide_not, ne_eq, lim_lit, List.length_map, Int.reduceLE, Int.reduceLT, Int.reduceToNat, Nat.reduceAdd, Nat.reduceSub, Nat.reduceLeDiff, Nat.reduceEqDiff, Int.reduceNeg, Int.reduceEq, Nat.reduceLT, Nat.reduceMul, mulI, fdivI, rngI1, rngI2, Int.cast_ofNat_Int, Int.toNat_natCast, Option.bind_none, Option.map_none, Int.reduceAdd, Int.reduceSub, hf1, hn]
  repeat with_reducible refine wp_b ?_
  refine wp_mono (draw_ok hd1 (by omega) (by omega)) ?_
  rintro _ ⟨y, d2, rfl, y0, y1, hd2⟩
  have hf2 := hd2.fz
  have y1 := y1 (by omega)
  simp -implicitDefEqProofs (disch := first | assumption | exact st_no | exact st_v | exact fst_no | omega) only [xs1, xs2, xs3, rd, rds, vals, cont, Sl.cont, D.fz, fzL, cmpD, ordD, eqD_int, eqD_in, eqD_ni, eqD_nn, eqD_bb, isD, D.isNon, idx_tup, idx_lst, idx_ro, idx_own, addI, subI, fdivD, modD, negD, truD, bltD, lenD_items, listD, tupleD, absD_int, intD, tyD, D.items, D.isL, mutD, appD, extD, mutArgs, argsOf, argOf, lentS, places, back, backOne, outs, setL, ownAt, parS, lock, unlock, wipeS, putBack, free_zero, free_succ, fst_no, fst_v, rngOf1, rngOf2, srcOf, kit_bb, wp_some, retq_rt, retq_nx, turn_nx, turn_ct, turnp_nx, turnp_ct, turnp_rt, turnp_bk, Option.toList, Int.zero_add, Int.sub_zero, List.getElem?_cons_succ, List.getElem?_cons_zero, List.set_cons_succ, List.set_cons_zero, Option.bind_some, Option.map_some, if_true, if_false, decide_true, decide_false, Bool.false_eq_true, store_zero, store_succ, st_no, st_v, atI_pos, ix50, ix51, ix52, ix53, ix54, ixN_pos, Option.bind_some, List.nodup_nil, List.nodup_cons, List.mem_cons, List.not_mem_nil, or_false, or_true, false_or, not_false_eq_true, not_true, and_self, and_true, true_and, Bool.and_true, Bool.true_and, Bool.and_self, Bool.and_false, Bool.false_and, Bool.not_true, Bool.not_false, List.length_cons, List.length_nil, List.cons_append, List.nil_append, List.replicate, Out.map, List.append_eq, List.all_cons, List.all_nil, decide_not, ne_eq, lim_lit, List.length_map, Int.reduceLE, Int.reduceLT, Int.reduceToNat, Nat.reduceAdd, Nat.reduceSub, Nat.reduceLeDiff, Nat.reduceEqDiff, Int.reduceNeg, Int.reduceEq, Nat.reduceLT, Nat.reduceMul, mulI, fdivI, rngI1, rngI2, Int.cast_ofNat_Int, Int.toNat_natCast, Option.bind_none, Option.map_none, Int.reduceAdd, Int.reduceSub, hf2, hn]
  repeat with_reducible refine wp_b ?_
  refine wp_mono (draw_ok hd2 (by omega) (by omega)) ?_
  rintro _ ⟨z, d3, rfl, z0, z1, hd3⟩
  have hf3 := hd3.fz
  have z1 := z1 (by omega)
  obtain ⟨mz, rfl⟩ := Int.eq_ofNat_of_zero_le z0
  simp -implicitDefEqProofs (disch := first | assumption | exact st_no | exact st_v | exact fst_no | omega) only [xs1, xs2, xs3, rd, rds, vals, cont, Sl.cont, D.fz, fzL, cmpD, ordD, eqD_int, eqD_in, eqD_ni, eqD_nn, eqD_bb, isD, D.isNon, idx_tup, idx_lst, idx_ro, idx_own, addI, subI, fdivD, modD, negD, truD, bltD, lenD_items, listD, tupleD, absD_int, intD, tyD, D.items, D.isL, mutD, appD, extD, mutArgs, argsOf, argOf, lentS, places, back, backOne, outs, setL, ownAt, parS, lock, unlock, wipeS, putBack, free_zero, free_succ, fst_no, fst_v, rngOf1, rngOf2, srcOf, kit_bb, wp_some, retq_rt, retq_nx, turn_nx, turn_ct, turnp_nx, turnp_ct, turnp_rt, turnp_bk, Option.toList, Int.zero_add, Int.sub_zero, List.getElem?_cons_succ, List.getElem?_cons_zero, List.set_cons_succ, List.set_cons_zero, Option.bind_some, Option.map_some, if_true, if_false, decide_true, decide_false, Bool.false_eq_true, store_zero, store_succ, st_no, st_v, atI_pos, ix50, ix51, ix52, ix53, ix54, ixN_pos, Option.bind_some, List.nodup_nil, List.nodup_cons, List.mem_cons, List.not_mem_nil, or_false, or_true, false_or, not_false_eq_true, not_true, and_self, and_true, true_and, Bool.and_true, Bool.true_and, Bool.and_self, Bool.and_false, Bool.false_and, Bool.not_true, Bool.not_false, List.length_cons, List.length_nil, List.cons_append, List.nil_append, List.replicate, Out.map, List.append_eq, List.all_cons, List.all_nil, decide_not, ne_eq, lim_lit, List.length_map, Int.reduceLE, Int.reduceLT, Int.reduceToNat, Nat.reduceAdd, Nat.reduceSub, Nat.reduceLeDiff, Nat.reduceEqDiff, Int.reduceNeg, Int.reduceEq, Nat.reduceLT, Nat.reduceMul, mulI, fdivI, rngI1, rngI2, Int.cast_ofNat_Int, Int.toNat_natCast, Option.bind_none, Option.map_none, Int.reduceAdd, Int.reduceSub, hf3, hn]
  repeat with_reducible refine wp_b ?_
  refine wp_mono (net_ok (k := k) (n := n) (many := mz) hd3 (by omega) (by omega) (by omega) (by omega) (by omega)) ?_
  rintro _ ⟨sp, bs, ws, net, d4, rfl, hnt, lb, lw, hd4⟩
  have hf4 := hd4.fz
  have nf := hnt.fz
  simp -implicitDefEqProofs (disch := first | assumption | exact st_no | exact st_v | exact fst_no | omega) only [xs1, xs2, xs3, rd, rds, vals, cont, Sl.cont, D.fz, fzL, cmpD, ordD, eqD_int, eqD_in, eqD_ni, eqD_nn, eqD_bb, isD, D.isNon, idx_tup, idx_lst, idx_ro, idx_own, addI, subI, fdivD, modD, negD, truD, bltD, lenD_items, listD, tupleD, absD_int, intD, tyD, D.items, D.isL, mutD, appD, extD, mutArgs, argsOf, argOf, lentS, places, back, backOne, outs, setL, ownAt, parS, lock, unlock, wipeS, putBack, free_zero, free_succ, fst_no, fst_v, rngOf1, rngOf2, srcOf, kit_bb, wp_some, retq_rt, retq_nx, turn_nx, turn_ct, turnp_nx, turnp_ct, turnp_rt, turnp_bk, Option.toList, Int.zero_add, Int.sub_zero, List.getElem?_cons_succ, List.getElem?_cons_zero, List.set_cons_succ, List.set_cons_zero, Option.bind_some, Option.map_some, if_true, if_false, decide_true, decide_false, Bool.false_eq_true, store_zero, store_succ, st_no, st_v, atI_pos, ix50, ix51, ix52, ix53, ix54, ixN_pos, Option.bind_some, List.nodup_nil, List.nodup_cons, List.mem_cons, List.not_mem_nil, or_false, or_true, false_or, not_false_eq_true, not_true, and_self, and_true, true_and, Bool.and_true, Bool.true_and, Bool.and_self, Bool.and_false, Bool.false_and, Bool.not_true, Bool.not_false, List.length_cons, List.length_nil, List.cons_append, List.nil_append, List.replicate, Out.map, List.append_eq, List.all_cons, List.all_nil, decide_not, ne_eq, lim_lit, List.length_map, Int.reduceLE, Int.reduceLT, Int.reduceToNat, Nat.reduceAdd, Nat.reduceSub, Nat.reduceLeDiff, Nat.reduceEqDiff, Int.reduceNeg, Int.reduceEq, Nat.reduceLT, Nat.reduceMul, mulI, fdivI, rngI1, rngI2, Int.cast_ofNat_Int, Int.toNat_natCast, Option.bind_none, Option.map_none, Int.reduceAdd, Int.reduceSub, hf4, nf]
  repeat with_reducible refine wp_b ?_
  refine wp_mono (draw_ok hd4 (by omega) (by omega)) ?_
  rintro _ ⟨p, d5, rfl, p0, p1, hd5⟩
  have hf5 := hd5.fz
  have p1 := p1 (by omega)
  obtain ⟨np, rfl⟩ := Int.eq_ofNat_of_zero_le p0
  simp -implicitDefEqProofs (disch := first | assumption | exact st_no | exact st_v | exact fst_no | omega) only [xs1, xs2, xs3, rd, rds, vals, cont, Sl.cont, D.fz, fzL, cmpD, ordD, eqD_int, eqD_in, eqD_ni, eqD_nn, eqD_bb, isD, D.isNon, idx_tup, idx_lst, idx_ro, idx_own, addI, subI, fdivD, modD, negD, truD, bltD, lenD_items, listD, tupleD, absD_int, intD, tyD, D.items, D.isL, mutD, appD, extD, mutArgs, argsOf, argOf, lentS, places, back, backOne, outs, setL, ownAt, parS, lock, unlock, wipeS, putBack, free_zero, free_succ, fst_no, fst_v, rngOf1, rngOf2, srcOf, kit_bb, wp_some, retq_rt, retq_nx, turn_nx, turn_ct, turnp_nx, turnp_ct, turnp_rt, turnp_bk, Option.toList, Int.zero_add, Int.sub_zero, List.getElem?_cons_succ, List.getElem?_cons_zero, List.set_cons_succ, List.set_cons_zero, Option.bind_some, Option.map_some, if_true, if_false, decide_true, decide_false, Bool.false_eq_true, store_zero, store_succ, st_no, st_v, atI_pos, ix50, ix51, ix52, ix53, ix54, ixN_pos, Option.bind_some, List.nodup_nil, List.nodup_cons, List.mem_cons, List.not_mem_nil, or_false, or_true, false_or, not_false_eq_true, not_true, and_self, and_true, true_and, Bool.and_true, Bool.true_and, Bool.and_self, Bool.and_false, Bool.false_and, Bool.not_true, Bool.not_false, List.length_cons, List.length_nil, List.cons_append, List.nil_append, List.replicate, Out.map, List.append_eq, List.all_cons, List.all_nil, decide_not, ne_eq, lim_lit, List.length_map, Int.reduceLE, Int.reduceLT, Int.reduceToNat, Nat.reduceAdd, Nat.reduceSub, Nat.reduceLeDiff, Nat.reduceEqDiff, Int.reduceNeg, Int.reduceEq, Nat.reduceLT, Nat.reduceMul, mulI, fdivI, rngI1, rngI2, Int.cast_ofNat_Int, Int.toNat_natCast, Option.bind_none, Option.map_none, Int.reduceAdd, Int.reduceSub, hf5, nf]
  repeat with_reducible refine wp_b ?_
  refine wp_mono (draw_ok hd5 (by omega) (by omega)) ?_
  rintro _ ⟨q, d6, rfl, q0, q1, hd6⟩
  have hf6 := hd6.fz
  have q1 := q1 (by omega)
  obtain ⟨nq, rfl⟩ := Int.eq_ofNat_of_zero_le q0
  simp -implicitDefEqProofs (disch := first | assumption | exact st_no | exact st_v | exact fst_no | omega) only [xs1, xs2, xs3, rd, rds, vals, cont, Sl.cont, D.fz, fzL, cmpD, ordD, eqD_int, eqD_in, eqD_ni, eqD_nn, eqD_bb, isD, D.isNon, idx_tup, idx_lst, idx_ro, idx_own, addI, subI, fdivD, modD, negD, truD, bltD, lenD_items, listD, tupleD, absD_int, intD, tyD, D.items, D.isL, mutD, appD, extD, mutArgs, argsOf, argOf, lentS, places, back, backOne, outs, setL, ownAt, parS, lock, unlock, wipeS, putBack, free_zero, free_succ, fst_no, fst_v, rngOf1, rngOf2, srcOf, kit_bb, wp_some, retq_rt, retq_nx, turn_nx, turn_ct, turnp_nx, turnp_ct, turnp_rt, turnp_bk, Option.toList, Int.zero_add, Int.sub_zero, List.getElem?_cons_succ, List.getElem?_cons_zero, List.set_cons_succ, List.set_cons_zero, Option.bind_some, Option.map_some, if_true, if_false, decide_true, decide_false, Bool.false_eq_true, store_zero, store_succ, st_no, st_v, atI_pos, ix50, ix51, ix52, ix53, ix54, ixN_pos, Option.bind_some, List.nodup_nil, List.nodup_cons, List.mem_cons, List.not_mem_nil, or_false, or_true, false_or, not_false_eq_true, not_true, and_self, and_true, true_and, Bool.and_true, Bool.true_and, Bool.and_self, Bool.and_false, Bool.false_and, Bool.not_true, Bool.not_false, List.length_cons, List.length_nil, List.cons_append, List.nil_append, List.replicate, Out.map, List.append_eq, List.all_cons, List.all_nil, decide_not, ne_eq, lim_lit, List.length_map, Int.reduceLE, Int.reduceLT, Int.reduceToNat, Nat.reduceAdd, Nat.reduceSub, Nat.reduceLeDiff, Nat.reduceEqDiff, Int.reduceNeg, Int.reduceEq, Nat.reduceLT, Nat.reduceMul, mulI, fdivI, rngI1, rngI2, Int.cast_ofNat_Int, Int.toNat_natCast, Option.bind_none, Option.map_none, Int.reduceAdd, Int.reduceSub, hf6, nf]
  repeat with_reducible refine wp_b ?_
  refine wp_mono (rare_ok (k := k + 1) hd6 (by omega)) ?_
  rintro _ ⟨b, d7, rfl, hd7⟩
  have hf7 := hd7.fz
  cases b with
  | false =>
    have := fin n np nq 12 _ sp bs ws net d7 hnt (by omega) (by omega) (by omega) (by omega) (by omega) (by omega) (by omega) (by omega) (by omega) (by omega) (hd7.mono (by omega))
    have c12 : ((12 : Nat) : Int) = 12 := rfl
    rw [c12] at this
    simp -implicitDefEqProofs (disch := first | assumption | exact st_no | exact st_v | exact fst_no | omega) only [xs1, xs2, xs3, rd, rds, vals, cont, Sl.cont, D.fz, fzL, cmpD, ordD, eqD_int, eqD_in, eqD_ni, eqD_nn, eqD_bb, isD, D.isNon, idx_tup, idx_lst, idx_ro, idx_own, addI, subI, fdivD, modD, negD, truD, bltD, lenD_items, listD, tupleD, absD_int, intD, tyD, D.items, D.isL, mutD, appD, extD, mutArgs, argsOf, argOf, lentS, places, back, backOne, outs, setL, ownAt, parS, lock, unlock, wipeS, putBack, free_zero, free_succ, fst_no, fst_v, rngOf1, rngOf2, srcOf, kit_bb, wp_some, retq_rt, retq_nx, turn_nx, turn_ct, turnp_nx, turnp_ct, turnp_rt, turnp_bk, Option.toList, Int.zero_add, Int.sub_zero, List.getElem?_cons_succ, List.getElem?_cons_zero, List.set_cons_succ, List.set_cons_zero, Option.bind_some, Option.map_some, if_true, if_false, decide_true, decide_false, Bool.false_eq_true, store_zero, store_succ, st_no, st_v, atI_pos, ix50, ix51, ix52, ix53, ix54, ixN_pos, Option.bind_some, List.nodup_nil, List.nodup_cons, List.mem_cons, List.not_mem_nil, or_false, or_true, false_or, not_false_eq_true, not_true, and_self, and_true, true_and, Bool.and_true, Bool.true_and, Bool.and_self, Bool.and_false, Bool.false_and, Bool.not_true, Bool.not_false, List.length_cons, List.length_nil, List.cons_append, List.nil_append, List.replicate, Out.map, List.append_eq, List.all_cons, List.all_nil, decide_not, ne_eq, lim_lit, List.length_map, Int.reduceLE, Int.reduceLT, Int.reduceToNat, Nat.reduceAdd, Nat.reduceSub, Nat.reduceLeDiff, Nat.reduceEqDiff, Int.reduceNeg, Int.reduceEq, Nat.reduceLT, Nat.reduceMul, mulI, fdivI, rngI1, rngI2, Int.cast_ofNat_Int, Int.toNat_natCast, Option.bind_none, Option.map_none, Int.reduceAdd, Int.reduceSub, b__law_odd_net, tailOf, hf7] at this
    simp -implicitDefEqProofs (disch := first | assumption | exact st_no | exact st_v | exact fst_no | omega) only [xs1, xs2, xs3, rd, rds, vals, cont, Sl.cont, D.fz, fzL, cmpD, ordD, eqD_int, eqD_in, eqD_ni, eqD_nn, eqD_bb, isD, D.isNon, idx_tup, idx_lst, idx_ro, idx_own, addI, subI, fdivD, modD, negD, truD, bltD, lenD_items, listD, tupleD, absD_int, intD, tyD, D.items, D.isL, mutD, appD, extD, mutArgs, argsOf, argOf, lentS, places, back, backOne, outs, setL, ownAt, parS, lock, unlock, wipeS, putBack, free_zero, free_succ, fst_no, fst_v, rngOf1, rngOf2, srcOf, kit_bb, wp_some, retq_rt, retq_nx, turn_nx, turn_ct, turnp_nx, turnp_ct, turnp_rt, turnp_bk, Option.toList, Int.zero_add, Int.sub_zero, List.getElem?_cons_succ, List.getElem?_cons_zero, List.set_cons_succ, List.set_cons_zero, Option.bind_some, Option.map_some, if_true, if_false, decide_true, decide_false, Bool.false_eq_true, store_zero, store_succ, st_no, st_v, atI_pos, ix50, ix51, ix52, ix53, ix54, ixN_pos, Option.bind_some, List.nodup_nil, List.nodup_cons, List.mem_cons, List.not_mem_nil, or_false, or_true, false_or, not_false_eq_true, not_true, and_self, and_true, true_and, Bool.and_true, Bool.true_and, Bool.and_self, Bool.and_false, Bool.false_and, Bool.not_true, Bool.not_false, List.length_cons, List.length_nil, List.cons_append, List.nil_append, List.replicate, Out.map, List.append_eq, List.all_cons, List.all_nil, decide_not, ne_eq, lim_lit, List.length_map, Int.reduceLE, Int.reduceLT, Int.reduceToNat, Nat.reduceAdd, Nat.reduceSub, Nat.reduceLeDiff, Nat.reduceEqDiff, Int.reduceNeg, Int.reduceEq, Nat.reduceLT, Nat.reduceMul, mulI, fdivI, rngI1, rngI2, Int.cast_ofNat_Int, Int.toNat_natCast, Option.bind_none, Option.map_none, Int.reduceAdd, Int.reduceSub, hf7, nf]
    simp only [wp_bi] at this ⊢
    exact this
  | true =>
    simp -implicitDefEqProofs (disch := first | assumption | exact st_no | exact st_v | exact fst_no | omega) only [xs1, xs2, xs3, rd, rds, vals, cont, Sl.cont, D.fz, fzL, cmpD, ordD, eqD_int, eqD_in, eqD_ni, eqD_nn, eqD_bb, isD, D.isNon, idx_tup, idx_lst, idx_ro, idx_own, addI, subI, fdivD, modD, negD, truD, bltD, lenD_items, listD, tupleD, absD_int, intD, tyD, D.items, D.isL, mutD, appD, extD, mutArgs, argsOf, argOf, lentS, places, back, backOne, outs, setL, ownAt, parS, lock, unlock, wipeS, putBack, free_zero, free_succ, fst_no, fst_v, rngOf1, rngOf2, srcOf, kit_bb, wp_some, retq_rt, retq_nx, turn_nx, turn_ct, turnp_nx, turnp_ct, turnp_rt, turnp_bk, Option.toList, Int.zero_add, Int.sub_zero, List.getElem?_cons_succ, List.getElem?_cons_zero, List.set_cons_succ, List.set_cons_zero, Option.bind_some, Option.map_some, if_true, if_false, decide_true, decide_false, Bool.false_eq_true, store_zero, store_succ, st_no, st_v, atI_pos, ix50, ix51, ix52, ix53, ix54, ixN_pos, Option.bind_some, List.nodup_nil, List.nodup_cons, List.mem_cons, List.not_mem_nil, or_false, or_true, false_or, not_false_eq_true, not_true, and_self, and_true, true_and, Bool.and_true, Bool.true_and, Bool.and_self, Bool.and_false, Bool.false_and, Bool.not_true, Bool.not_false, List.length_cons, List.length_nil, List.cons_append, List.nil_append, List.replicate, Out.map, List.append_eq, List.all_cons, List.all_nil, decide_not, ne_eq, lim_lit, List.length_map, Int.reduceLE, Int.reduceLT, Int.reduceToNat, Nat.reduceAdd, Nat.reduceSub, Nat.reduceLeDiff, Nat.reduceEqDiff, Int.reduceNeg, Int.reduceEq, Nat.reduceLT, Nat.reduceMul, mulI, fdivI, rngI1, rngI2, Int.cast_ofNat_Int, Int.toNat_natCast, Option.bind_none, Option.map_none, Int.reduceAdd, Int.reduceSub, hf7, nf]
    repeat with_reducible refine wp_b ?_
    refine wp_mono (draw_ok hd7 (by omega) (by omega)) ?_
    rintro _ ⟨u, d8, rfl, u0, u1, hd8⟩
    have hf8 := hd8.fz
    have u1 := u1 (by omega)
    obtain ⟨n2, hn2⟩ := Int.eq_ofNat_of_zero_le (show 0 ≤ 9 + u by omega)
    simp -implicitDefEqProofs (disch := first | assumption | exact st_no | exact st_v | exact fst_no | omega) only [xs1, xs2, xs3, rd, rds, vals, cont, Sl.cont, D.fz, fzL, cmpD, ordD, eqD_int, eqD_in, eqD_ni, eqD_nn, eqD_bb, isD, D.isNon, idx_tup, idx_lst, idx_ro, idx_own, addI, subI, fdivD, modD, negD, truD, bltD, lenD_items, listD, tupleD, absD_int, intD, tyD, D.items, D.isL, mutD, appD, extD, mutArgs, argsOf, argOf, lentS, places, back, backOne, outs, setL, ownAt, parS, lock, unlock, wipeS, putBack, free_zero, free_succ, fst_no, fst_v, rngOf1, rngOf2, srcOf, kit_bb, wp_some, retq_rt, retq_nx, turn_nx, turn_ct, turnp_nx, turnp_ct, turnp_rt, turnp_bk, Option.toList, Int.zero_add, Int.sub_zero, List.getElem?_cons_succ, List.getElem?_cons_zero, List.set_cons_succ, List.set_cons_zero, Option.bind_some, Option.map_some, if_true, if_false, decide_true, decide_false, Bool.false_eq_true, store_zero, store_succ, st_no, st_v, atI_pos, ix50, ix51, ix52, ix53, ix54, ixN_pos, Option.bind_some, List.nodup_nil, List.nodup_cons, List.mem_cons, List.not_mem_nil, or_false, or_true, false_or, not_false_eq_true, not_true, and_self, and_true, true_and, Bool.and_true, Bool.true_and, Bool.and_self, Bool.and_false, Bool.false_and, Bool.not_true, Bool.not_false, List.length_cons, List.length_nil, List.cons_append, List.nil_append, List.replicate, Out.map, List.append_eq, List.all_cons, List.all_nil, decide_not, ne_eq, lim_lit, List.length_map, Int.reduceLE, Int.reduceLT, Int.reduceToNat, Nat.reduceAdd, Nat.reduceSub, Nat.reduceLeDiff, Nat.reduceEqDiff, Int.reduceNeg, Int.reduceEq, Nat.reduceLT, Nat.reduceMul, mulI, fdivI, rngI1, rngI2, Int.cast_ofNat_Int, Int.toNat_natCast, Option.bind_none, Option.map_none, Int.reduceAdd, Int.reduceSub, hf8, hn2]
    repeat with_reducible refine wp_b ?_
    refine wp_mono (wnet_ok (k := k + 1) (n := n2) hd8 (by omega) (by omega)) ?_
    rintro _ ⟨h2, sp2, net2, d9, rfl, hnt2, g0, g1, hd9⟩
    have hf9 := hd9.fz
    have nf2 := hnt2.fz
    simp -implicitDefEqProofs (disch := first | assumption | exact st_no | exact st_v | exact fst_no | omega) only [xs1, xs2, xs3, rd, rds, vals, cont, Sl.cont, D.fz, fzL, cmpD, ordD, eqD_int, eqD_in, eqD_ni, eqD_nn, eqD_bb, isD, D.isNon, idx_tup, idx_lst, idx_ro, idx_own, addI, subI, fdivD, modD, negD, truD, bltD, lenD_items, listD, tupleD, absD_int, intD, tyD, D.items, D.isL, mutD, appD, extD, mutArgs, argsOf, argOf, lentS, places, back, backOne, outs, setL, ownAt, parS, lock, unlock, wipeS, putBack, free_zero, free_succ, fst_no, fst_v, rngOf1, rngOf2, srcOf, kit_bb, wp_some, retq_rt, retq_nx, turn_nx, turn_ct, turnp_nx, turnp_ct, turnp_rt, turnp_bk, Option.toList, Int.zero_add, Int.sub_zero, List.getElem?_cons_succ, List.getElem?_cons_zero, List.set_cons_succ, List.set_cons_zero, Option.bind_some, Option.map_some, if_true, if_false, decide_true, decide_false, Bool.false_eq_true, store_zero, store_succ, st_no, st_v, atI_pos, ix50, ix51, ix52, ix53, ix54, ixN_pos, Option.bind_some, List.nodup_nil, List.nodup_cons, List.mem_cons, List.not_mem_nil, or_false, or_true, false_or, not_false_eq_true, not_true, and_self, and_true, true_and, Bool.and_true, Bool.true_and, Bool.and_self, Bool.and_false, Bool.false_and, Bool.not_true, Bool.not_false, List.length_cons, List.length_nil, List.cons_append, List.nil_append, List.replicate, Out.map, List.append_eq, List.all_cons, List.all_nil, decide_not, ne_eq, lim_lit, List.length_map, Int.reduceLE, Int.reduceLT, Int.reduceToNat, Nat.reduceAdd, Nat.reduceSub, Nat.reduceLeDiff, Nat.reduceEqDiff, Int.reduceNeg, Int.reduceEq, Nat.reduceLT, Nat.reduceMul, mulI, fdivI, rngI1, rngI2, Int.cast_ofNat_Int, Int.toNat_natCast, Option.bind_none, Option.map_none, Int.reduceAdd, Int.reduceSub, hf9, nf2]
    repeat with_reducible refine wp_b ?_
    refine wp_mono (draw_ok hd9 (by omega) (by omega)) ?_
    rintro _ ⟨w, d10, rfl, w0, w1, hd10⟩
    have hf10 := hd10.fz
    have w1 := w1 (by omega)
    obtain ⟨nw, hnw⟩ := Int.eq_ofNat_of_zero_le (show 0 ≤ 20 + w by omega)
    have := fin n2 nw 40 480 _ sp2 [] [] net2 d10 hnt2 (by omega) (by omega) g0 g1 (by simp) (by simp) (by omega) (by omega) (by omega) (by omega) (hd10.mono (by omega))
    have c40 : ((40 : Nat) : Int) = 40 := rfl
    have c480 : ((480 : Nat) : Int) = 480 := rfl
    rw [c40, c480] at this
    simp -implicitDefEqProofs (disch := first | assumption | exact st_no | exact st_v | exact fst_no | omega) only [xs1, xs2, xs3, rd, rds, vals, cont, Sl.cont, D.fz, fzL, cmpD, ordD, eqD_int, eqD_in, eqD_ni, eqD_nn, eqD_bb, isD, D.isNon, idx_tup, idx_lst, idx_ro, idx_own, addI, subI, fdivD, modD, negD, truD, bltD, lenD_items, listD, tupleD, absD_int, intD, tyD, D.items, D.isL, mutD, appD, extD, mutArgs, argsOf, argOf, lentS, places, back, backOne, outs, setL, ownAt, parS, lock, unlock, wipeS, putBack, free_zero, free_succ, fst_no, fst_v, rngOf1, rngOf2, srcOf, kit_bb, wp_some, retq_rt, retq_nx, turn_nx, turn_ct, turnp_nx, turnp_ct, turnp_rt, turnp_bk, Option.toList, Int.zero_add, Int.sub_zero, List.getElem?_cons_succ, List.getElem?_cons_zero, List.set_cons_succ, List.set_cons_zero, Option.bind_some, Option.map_some, if_true, if_false, decide_true, decide_false, Bool.false_eq_true, store_zero, store_succ, st_no, st_v, atI_pos, ix50, ix51, ix52, ix53, ix54, ixN_pos, Option.bind_some, List.nodup_nil, List.nodup_cons, List.mem_cons, List.not_mem_nil, or_false, or_true, false_or, not_false_eq_true, not_true, and_self, and_true, true_and, Bool.and_true, Bool.true_and, Bool.and_self, Bool.and_false, Bool.false_and, Bool.not_true, Bool.not_false, List.length_cons, List.length_nil, List.cons_append, List.nil_append, List.replicate, Out.map, List.append_eq, List.all_cons, List.all_nil, decide_not, ne_eq, lim_lit, List.length_map, Int.reduceLE, Int.reduceLT, Int.reduceToNat, Nat.reduceAdd, Nat.reduceSub, Nat.reduceLeDiff, Nat.reduceEqDiff, Int.reduceNeg, Int.reduceEq, Nat.reduceLT, Nat.reduceMul, mulI, fdivI, rngI1, rngI2, Int.cast_ofNat_Int, Int.toNat_natCast, Option.bind_none, Option.map_none, Int.reduceAdd, Int.reduceSub, b__law_odd_net, tailOf, hf10] at this
    simp -implicitDefEqProofs (disch := first | assumption | exact st_no | exact st_v | exact fst_no | omega) only [xs1, xs2, xs3, rd, rds, vals, cont, Sl.cont, D.fz, fzL, cmpD, ordD, eqD_int, eqD_in, eqD_ni, eqD_nn, eqD_bb, isD, D.isNon, idx_tup, idx_lst, idx_ro, idx_own, addI, subI, fdivD, modD, negD, truD, bltD, lenD_items, listD, tupleD, absD_int, intD, tyD, D.items, D.isL, mutD, appD, extD, mutArgs, argsOf, argOf, lentS, places, back, backOne, outs, setL, ownAt, parS, lock, unlock, wipeS, putBack, free_zero, free_succ, fst_no, fst_v, rngOf1, rngOf2, srcOf, kit_bb, wp_some, retq_rt, retq_nx, turn_nx, turn_ct, turnp_nx, turnp_ct, turnp_rt, turnp_bk, Option.toList, Int.zero_add, Int.sub_zero, List.getElem?_cons_succ, List.getElem?_cons_zero, List.set_cons_succ, List.set_cons_zero, Option.bind_some, Option.map_some, if_true, if_false, decide_true, decide_false, Bool.false_eq_true, store_zero, store_succ, st_no, st_v, atI_pos, ix50, ix51, ix52, ix53, ix54, ixN_pos, Option.bind_some, List.nodup_nil, List.nodup_cons, List.mem_cons, List.not_mem_nil, or_false, or_true, false_or, not_false_eq_true, not_true, and_self, and_true, true_and, Bool.and_true, Bool.true_and, Bool.and_self, Bool.and_false, Bool.false_and, Bool.not_true, Bool.not_false, List.length_cons, List.length_nil, List.cons_append, List.nil_append, List.replicate, Out.map, List.append_eq, List.all_cons, List.all_nil, decide_not, ne_eq, lim_lit, List.length_map, Int.reduceLE, Int.reduceLT, Int.reduceToNat, Nat.reduceAdd, Nat.reduceSub, Nat.reduceLeDiff, Nat.reduceEqDiff, Int.reduceNeg, Int.reduceEq, Nat.reduceLT, Nat.reduceMul, mulI, fdivI, rngI1, rngI2, Int.cast_ofNat_Int, Int.toNat_natCast, Option.bind_none, Option.map_none, Int.reduceAdd, Int.reduceSub, hf10, nf2, hnw]
    simp only [wp_bi] at this ⊢
    exact this
end
end K22


set_option maxRecDepth 100000
set_option maxHeartbeats 4000000
namespace K22
open PySem Co
section
variable {k B n : Nat} {d : D} {h : Int} {sp : List (Int × Int)} {bs ws : List (Int × Int × Int)} {net : D}
def LQ (B n : Nat) (o : Sl) (r : D × List Sl) : Prop := ∃ (L : List Int) (d' : D), r = (.tup (L.map D.int), [.bo d', o]) ∧ L.length = n ∧ (∀ x ∈ L, 1 ≤ x ∧ x < 1000) ∧ Dd (B + 40) d'
theorem sp_mem {sp : List (Int × Int)} {i : Nat} {v : D} (h : (sp.map spD)[i]? = some v) : ∃ p ∈ sp, v = .tup [.int p.1, .int p.2] := by
  rw [List.getElem?_map] at h
  cases e : sp[i]? with
  | none => rw [e] at h; cases h
  | some p => rw [e] at h; cases h; exact ⟨p, List.mem_of_getElem? e, rfl⟩
theorem wp_cdrawM {α : Type} {step : D → Co.Env → Option (Option D × Co.Env)} (ρf : D → Co.Env) (P : D → Prop) (c : Nat) {m B : Nat} {d : D} {ds : List D} (hd : Dd B d) (hl : ds.length = m) (hn : m ≤ 1000000)
    (hstep : ∀ i d' v, ds[i]? = some v → Dd (B + c * i) d' → Wp (fun x => ∃ y d2, x = (some y, ρf d2) ∧ P y ∧ Dd (B + c * i + c) d2) (step v (ρf d'))) :
    Wp (fun r => ∃ l d2, r = (l, ρf d2) ∧ (∀ y ∈ l, P y) ∧ l.length = m ∧ Dd (B + c * m) d2) (compL step ds [] (ρf d)) := by
  refine wp_comp (fun i acc ρ => ∃ d', ρ = ρf d' ∧ (∀ y ∈ acc, P y) ∧ acc.length = i ∧ Dd (B + c * i) d') ?_ ?_ ?_ ?_
  · exact ⟨d, rfl, fun y z => (nomatch z), rfl, by simpa using hd⟩
  · rw [hl, lim_lit]; simp; omega
  · rintro i v acc _ hi ⟨d', rfl, hp, hal, hd'⟩
    refine wp_mono (hstep i d' v hi hd') ?_
    rintro _ ⟨y, d2, rfl, hy, hd2⟩
    refine ⟨d2, rfl, fun y' z => ?_, by rw [List.length_append, hal]; rfl, by rw [Nat.mul_succ, ← Nat.add_assoc]; exact hd2⟩
    rcases List.mem_append.mp z with z | z
    · exact hp y' z
    · have z' : y' = y := by simpa using z
      rw [z']; exact hy
  · rintro acc _ ⟨d', rfl, hp, hal, hd'⟩ _
    rw [hl] at hal hd'
    exact ⟨acc, d', rfl, hp, hal, hd'⟩
theorem lengths_ok (hd : Dd B d) (hB : B ≤ 90000000) (hn : NetD n h sp bs ws net) (hn2 : n ≤ 12) : Wp (LQ B n .no) (evF T 1000 (k + 2) 26 [.bo d, .v net]) := by
  refine evF_wp T__law_lengths rfl ?_
  have hf := hd.fz
  have nf := hn.fz
  have i2 := hn.i2
  have hl : (sp.map spD).length = n := by rw [List.length_map]; exact hn.len
  simp -implicitDefEqProofs (disch := first | assumption | exact st_no | exact st_v | exact fst_no | omega) only [xs1, xs2, xs3, rd, rds, vals, cont, Sl.cont, D.fz, fzL, cmpD, ordD, eqD_int, eqD_in, eqD_ni, eqD_nn, eqD_bb, isD, D.isNon, idx_tup, idx_lst, idx_ro, idx_own, addI, subI, fdivD, modD, negD, truD, bltD, lenD_items, listD, tupleD, absD_int, intD, tyD, D.items, D.isL, mutD, appD, extD, mutArgs, argsOf, argOf, lentS, places, back, backOne, outs, setL, ownAt, parS, lock, unlock, wipeS, putBack, free_zero, free_succ, fst_no, fst_v, rngOf1, rngOf2, srcOf, kit_bb, wp_some, retq_rt, retq_nx, turn_nx, turn_ct, turnp_nx, turnp_ct, turnp_rt, turnp_bk, Option.toList, Int.zero_add, Int.sub_zero, List.getElem?_cons_succ, List.getElem?_cons_zero, List.set_cons_succ, List.set_cons_zero, Option.bind_some, Option.map_some, if_true, if_false, decide_true, decide_false, Bool.false_eq_true, store_zero, store_succ, st_no, st_v, atI_pos, ix50, ix51, ix52, ix53, ix54, ixN_pos, Option.bind_some, List.nodup_nil, List.nodup_cons, List.mem_cons, List.not_mem_nil, or_false, or_true, false_or, not_false_eq_true, not_true, and_self, and_true, true_and, Bool.and_true, Bool.true_and, Bool.and_self, Bool.and_false, Bool.false_and, Bool.not_true, Bool.not_false, List.length_cons, List.length_nil, List.cons_append, List.nil_append, List.replicate, Out.map, List.append_eq, List.all_cons, List.all_nil, decide_not, ne_eq, lim_lit, List.length_map, Int.reduceLE, Int.reduceLT, Int.reduceToNat, Nat.reduceAdd, Nat.reduceSub, Nat.reduceLeDiff, Nat.reduceEqDiff, Int.reduceNeg, Int.reduceEq, Nat.reduceLT, Nat.reduceMul, mulI, fdivI, rngI1, rngI2, Int.cast_ofNat_Int, Int.toNat_natCast, Option.bind_none, Option.map_none, Int.reduceAdd, Int.reduceSub, b__law_lengths, hf, nf, i2, fz_sp]
  repeat with_reducible refine wp_b ?_
  refine wp_mono (wp_cdrawM (α := Nat) (fun d => [.bo d, .v net, .no]) (fun y => ∃ t, y = .int t ∧ (1 ≤ t ∧ t < 1000)) 1 hd hl (by omega) ?_) ?_
  · intro i d' v hi hd'
    obtain ⟨p, hp, rfl⟩ := sp_mem hi
    have hil : i < n := by have := (List.getElem?_eq_some_iff.mp hi).1; rwa [hl] at this
    obtain ⟨q1, q2, q3, q4⟩ := hn.sp p hp
    have hf' := hd'.fz
    simp -implicitDefEqProofs (disch := first | assumption | exact st_no | exact st_v | exact fst_no | omega) only [xs1, xs2, xs3, rd, rds, vals, cont, Sl.cont, D.fz, fzL, cmpD, ordD, eqD_int, eqD_in, eqD_ni, eqD_nn, eqD_bb, isD, D.isNon, idx_tup, idx_lst, idx_ro, idx_own, addI, subI, fdivD, modD, negD, truD, bltD, lenD_items, listD, tupleD, absD_int, intD, tyD, D.items, D.isL, mutD, appD, extD, mutArgs, argsOf, argOf, lentS, places, back, backOne, outs, setL, ownAt, parS, lock, unlock, wipeS, putBack, free_zero, free_succ, fst_no, fst_v, rngOf1, rngOf2, srcOf, kit_bb, wp_some, retq_rt, retq_nx, turn_nx, turn_ct, turnp_nx, turnp_ct, turnp_rt, turnp_bk, Option.toList, Int.zero_add, Int.sub_zero, List.getElem?_cons_succ, List.getElem?_cons_zero, List.set_cons_succ, List.set_cons_zero, Option.bind_some, Option.map_some, if_true, if_false, decide_true, decide_false, Bool.false_eq_true, store_zero, store_succ, st_no, st_v, atI_pos, ix50, ix51, ix52, ix53, ix54, ixN_pos, Option.bind_some, List.nodup_nil, List.nodup_cons, List.mem_cons, List.not_mem_nil, or_false, or_true, false_or, not_false_eq_true, not_true, and_self, and_true, true_and, Bool.and_true, Bool.true_and, Bool.and_self, Bool.and_false, Bool.false_and, Bool.not_true, Bool.not_false, List.length_cons, List.length_nil, List.cons_append, List.nil_append, List.replicate, Out.map, List.append_eq, List.all_cons, List.all_nil, decide_not, ne_eq, lim_lit, List.length_map, Int.reduceLE, Int.reduceLT, Int.reduceToNat, Nat.reduceAdd, Nat.reduceSub, Nat.reduceLeDiff, Nat.reduceEqDiff, Int.reduceNeg, Int.reduceEq, Nat.reduceLT, Nat.reduceMul, mulI, fdivI, rngI1, rngI2, Int.cast_ofNat_Int, Int.toNat_natCast, Option.bind_none, Option.map_none, Int.reduceAdd, Int.reduceSub, compTu, hf', nf]
    repeat with_reducible refine wp_b ?_
    refine wp_mono (draw_ok hd' (by omega) (by omega)) ?_
    rintro _ ⟨x, d1, rfl, x0, x1, hd1⟩
    have hf1 := hd1.fz
    have x1 := x1 (by omega)
    simp -implicitDefEqProofs (disch := first | assumption | exact st_no | exact st_v | exact fst_no | omega) only [xs1, xs2, xs3, rd, rds, vals, cont, Sl.cont, D.fz, fzL, cmpD, ordD, eqD_int, eqD_in, eqD_ni, eqD_nn, eqD_bb, isD, D.isNon, idx_tup, idx_lst, idx_ro, idx_own, addI, subI, fdivD, modD, negD, truD, bltD, lenD_items, listD, tupleD, absD_int, intD, tyD, D.items, D.isL, mutD, appD, extD, mutArgs, argsOf, argOf, lentS, places, back, backOne, outs, setL, ownAt, parS, lock, unlock, wipeS, putBack, free_zero, free_succ, fst_no, fst_v, rngOf1, rngOf2, srcOf, kit_bb, wp_some, retq_rt, retq_nx, turn_nx, turn_ct, turnp_nx, turnp_ct, turnp_rt, turnp_bk, Option.toList, Int.zero_add, Int.sub_zero, List.getElem?_cons_succ, List.getElem?_cons_zero, List.set_cons_succ, List.set_cons_zero, Option.bind_some, Option.map_some, if_true, if_false, decide_true, decide_false, Bool.false_eq_true, store_zero, store_succ, st_no, st_v, atI_pos, ix50, ix51, ix52, ix53, ix54, ixN_pos, Option.bind_some, List.nodup_nil, List.nodup_cons, List.mem_cons, List.not_mem_nil, or_false, or_true, false_or, not_false_eq_true, not_true, and_self, and_true, true_and, Bool.and_true, Bool.true_and, Bool.and_self, Bool.and_false, Bool.false_and, Bool.not_true, Bool.not_false, List.length_cons, List.length_nil, List.cons_append, List.nil_append, List.replicate, Out.map, List.append_eq, List.all_cons, List.all_nil, decide_not, ne_eq, lim_lit, List.length_map, Int.reduceLE, Int.reduceLT, Int.reduceToNat, Nat.reduceAdd, Nat.reduceSub, Nat.reduceLeDiff, Nat.reduceEqDiff, Int.reduceNeg, Int.reduceEq, Nat.reduceLT, Nat.reduceMul, mulI, fdivI, rngI1, rngI2, Int.cast_ofNat_Int, Int.toNat_natCast, Option.bind_none, Option.map_none, Int.reduceAdd, Int.reduceSub, hf1, nf]
    exact ⟨_, d1, rfl, ⟨_, rfl, by omega, by omega⟩, hd1⟩
  · rintro _ ⟨l, d2, rfl, hP, hll, hd2⟩
    obtain ⟨L, rfl, hL, le⟩ := liftI hP
    rw [List.length_map] at le hll
    have hf2 := hd2.fz
    simp -implicitDefEqProofs (disch := first | assumption | exact st_no | exact st_v | exact fst_no | omega) only [xs1, xs2, xs3, rd, rds, vals, cont, Sl.cont, D.fz, fzL, cmpD, ordD, eqD_int, eqD_in, eqD_ni, eqD_nn, eqD_bb, isD, D.isNon, idx_tup, idx_lst, idx_ro, idx_own, addI, subI, fdivD, modD, negD, truD, bltD, lenD_items, listD, tupleD, absD_int, intD, tyD, D.items, D.isL, mutD, appD, extD, mutArgs, argsOf, argOf, lentS, places, back, backOne, outs, setL, ownAt, parS, lock, unlock, wipeS, putBack, free_zero, free_succ, fst_no, fst_v, rngOf1, rngOf2, srcOf, kit_bb, wp_some, retq_rt, retq_nx, turn_nx, turn_ct, turnp_nx, turnp_ct, turnp_rt, turnp_bk, Option.toList, Int.zero_add, Int.sub_zero, List.getElem?_cons_succ, List.getElem?_cons_zero, List.set_cons_succ, List.set_cons_zero, Option.bind_some, Option.map_some, if_true, if_false, decide_true, decide_false, Bool.false_eq_true, store_zero, store_succ, st_no, st_v, atI_pos, ix50, ix51, ix52, ix53, ix54, ixN_pos, Option.bind_some, List.nodup_nil, List.nodup_cons, List.mem_cons, List.not_mem_nil, or_false, or_true, false_or, not_false_eq_true, not_true, and_self, and_true, true_and, Bool.and_true, Bool.true_and, Bool.and_self, Bool.and_false, Bool.false_and, Bool.not_true, Bool.not_false, List.length_cons, List.length_nil, List.cons_append, List.nil_append, List.replicate, Out.map, List.append_eq, List.all_cons, List.all_nil, decide_not, ne_eq, lim_lit, List.length_map, Int.reduceLE, Int.reduceLT, Int.reduceToNat, Nat.reduceAdd, Nat.reduceSub, Nat.reduceLeDiff, Nat.reduceEqDiff, Int.reduceNeg, Int.reduceEq, Nat.reduceLT, Nat.reduceMul, mulI, fdivI, rngI1, rngI2, Int.cast_ofNat_Int, Int.toNat_natCast, Option.bind_none, Option.map_none, Int.reduceAdd, Int.reduceSub, hf2, nf, fzL_ints]
    exact ⟨L, d2, rfl, by omega, hL, hd2.mono (by omega)⟩
theorem dlengths_ok (hd : Dd B d) (hB : B ≤ 80000000) (hn : NetD n h sp bs ws net) (hn2 : n ≤ 12) : Wp (LQ (B + 1) n .no) (evF T 1000 (k + 3) 35 [.bo d, .v net]) := by
  refine evF_wp T__law_drawn_lengths rfl ?_
  have hf := hd.fz
  have nf := hn.fz
  have i2 := hn.i2
  have hl : (sp.map spD).length = n := by rw [List.length_map]; exact hn.len
  simp -implicitDefEqProofs (disch := first | assumption | exact st_no | exact st_v | exact fst_no | omega) only [xs1, xs2, xs3, rd, rds, vals, cont, Sl.cont, D.fz, fzL, cmpD, ordD, eqD_int, eqD_in, eqD_ni, eqD_nn, eqD_bb, isD, D.isNon, idx_tup, idx_lst, idx_ro, idx_own, addI, subI, fdivD, modD, negD, truD, bltD, lenD_items, listD, tupleD, absD_int, intD, tyD, D.items, D.isL, mutD, appD, extD, mutArgs, argsOf, argOf, lentS, places, back, backOne, outs, setL, ownAt, parS, lock, unlock, wipeS, putBack, free_zero, free_succ, fst_no, fst_v, rngOf1, rngOf2, srcOf, kit_bb, wp_some, retq_rt, retq_nx, turn_nx, turn_ct, turnp_nx, turnp_ct, turnp_rt, turnp_bk, Option.toList, Int.zero_add, Int.sub_zero, List.getElem?_cons_succ, List.getElem?_cons_zero, List.set_cons_succ, List.set_cons_zero, Option.bind_some, Option.map_some, if_true, if_false, decide_true, decide_false, Bool.false_eq_true, store_zero, store_succ, st_no, st_v, atI_pos, ix50, ix51, ix52, ix53, ix54, ixN_pos, Option.bind_some, List.nodup_nil, List.nodup_cons, List.mem_cons, List.not_mem_nil, or_false, or_true, false_or, not_false_eq_true, not_true, and_self, and_true, true_and, Bool.and_true, Bool.true_and, Bool.and_self, Bool.and_false, Bool.false_and, Bool.not_true, Bool.not_false, List.length_cons, List.length_nil, List.cons_append, List.nil_append, List.replicate, Out.map, List.append_eq, List.all_cons, List.all_nil, decide_not, ne_eq, lim_lit, List.length_map, Int.reduceLE, Int.reduceLT, Int.reduceToNat, Nat.reduceAdd, Nat.reduceSub, Nat.reduceLeDiff, Nat.reduceEqDiff, Int.reduceNeg, Int.reduceEq, Nat.reduceLT, Nat.reduceMul, mulI, fdivI, rngI1, rngI2, Int.cast_ofNat_Int, Int.toNat_natCast, Option.bind_none, Option.map_none, Int.reduceAdd, Int.reduceSub, b__law_drawn_lengths, hf]
  repeat with_reducible refine wp_b ?_
  refine wp_mono (draw_ok hd (by omega) (by omega)) ?_
  rintro _ ⟨x, d1, rfl, x0, x1, hd1⟩
  have hf1 := hd1.fz
  have x1 := x1 (by omega)
  by_cases hx : x = 0
  · subst hx
    simp -implicitDefEqProofs (disch := first | assumption | exact st_no | exact st_v | exact fst_no | omega) only [xs1, xs2, xs3, rd, rds, vals, cont, Sl.cont, D.fz, fzL, cmpD, ordD, eqD_int, eqD_in, eqD_ni, eqD_nn, eqD_bb, isD, D.isNon, idx_tup, idx_lst, idx_ro, idx_own, addI, subI, fdivD, modD, negD, truD, bltD, lenD_items, listD, tupleD, absD_int, intD, tyD, D.items, D.isL, mutD, appD, extD, mutArgs, argsOf, argOf, lentS, places, back, backOne, outs, setL, ownAt, parS, lock, unlock, wipeS, putBack, free_zero, free_succ, fst_no, fst_v, rngOf1, rngOf2, srcOf, kit_bb, wp_some, retq_rt, retq_nx, turn_nx, turn_ct, turnp_nx, turnp_ct, turnp_rt, turnp_bk, Option.toList, Int.zero_add, Int.sub_zero, List.getElem?_cons_succ, List.getElem?_cons_zero, List.set_cons_succ, List.set_cons_zero, Option.bind_some, Option.map_some, if_true, if_false, decide_true, decide_false, Bool.false_eq_true, store_zero, store_succ, st_no, st_v, atI_pos, ix50, ix51, ix52, ix53, ix54, ixN_pos, Option.bind_some, List.nodup_nil, List.nodup_cons, List.mem_cons, List.not_mem_nil, or_false, or_true, false_or, not_false_eq_true, not_true, and_self, and_true, true_and, Bool.and_true, Bool.true_and, Bool.and_self, Bool.and_false, Bool.false_and, Bool.not_true, Bool.not_false, List.length_cons, List.length_nil, List.cons_append, List.nil_append, List.replicate, Out.map, List.append_eq, List.all_cons, List.all_nil, decide_not, ne_eq, lim_lit, List.length_map, Int.reduceLE, Int.reduceLT, Int.reduceToNat, Nat.reduceAdd, Nat.reduceSub, Nat.reduceLeDiff, Nat.reduceEqDiff, Int.reduceNeg, Int.reduceEq, Nat.reduceLT, Nat.reduceMul, mulI, fdivI, rngI1, rngI2, Int.cast_ofNat_Int, Int.toNat_natCast, Option.bind_none, Option.map_none, Int.reduceAdd, Int.reduceSub, hf1, nf]
    repeat with_reducible refine wp_b ?_
    refine wp_mono (lengths_ok (k := k) hd1 (by omega) hn hn2) ?_
    rintro _ ⟨L, d2, rfl, hL, hL2, hd2⟩
    have hf2 := hd2.fz
    simp -implicitDefEqProofs (disch := first | assumption | exact st_no | exact st_v | exact fst_no | omega) only [xs1, xs2, xs3, rd, rds, vals, cont, Sl.cont, D.fz, fzL, cmpD, ordD, eqD_int, eqD_in, eqD_ni, eqD_nn, eqD_bb, isD, D.isNon, idx_tup, idx_lst, idx_ro, idx_own, addI, subI, fdivD, modD, negD, truD, bltD, lenD_items, listD, tupleD, absD_int, intD, tyD, D.items, D.isL, mutD, appD, extD, mutArgs, argsOf, argOf, lentS, places, back, backOne, outs, setL, ownAt, parS, lock, unlock, wipeS, putBack, free_zero, free_succ, fst_no, fst_v, rngOf1, rngOf2, srcOf, kit_bb, wp_some, retq_rt, retq_nx, turn_nx, turn_ct, turnp_nx, turnp_ct, turnp_rt, turnp_bk, Option.toList, Int.zero_add, Int.sub_zero, List.getElem?_cons_succ, List.getElem?_cons_zero, List.set_cons_succ, List.set_cons_zero, Option.bind_some, Option.map_some, if_true, if_false, decide_true, decide_false, Bool.false_eq_true, store_zero, store_succ, st_no, st_v, atI_pos, ix50, ix51, ix52, ix53, ix54, ixN_pos, Option.bind_some, List.nodup_nil, List.nodup_cons, List.mem_cons, List.not_mem_nil, or_false, or_true, false_or, not_false_eq_true, not_true, and_self, and_true, true_and, Bool.and_true, Bool.true_and, Bool.and_self, Bool.and_false, Bool.false_and, Bool.not_true, Bool.not_false, List.length_cons, List.length_nil, List.cons_append, List.nil_append, List.replicate, Out.map, List.append_eq, List.all_cons, List.all_nil, decide_not, ne_eq, lim_lit, List.length_map, Int.reduceLE, Int.reduceLT, Int.reduceToNat, Nat.reduceAdd, Nat.reduceSub, Nat.reduceLeDiff, Nat.reduceEqDiff, Int.reduceNeg, Int.reduceEq, Nat.reduceLT, Nat.reduceMul, mulI, fdivI, rngI1, rngI2, Int.cast_ofNat_Int, Int.toNat_natCast, Option.bind_none, Option.map_none, Int.reduceAdd, Int.reduceSub, hf2, nf, fzL_ints]
    exact ⟨L, d2, rfl, hL, hL2, hd2⟩
  · simp -implicitDefEqProofs (disch := first | assumption | exact st_no | exact st_v | exact fst_no | omega) only [xs1, xs2, xs3, rd, rds, vals, cont, Sl.cont, D.fz, fzL, cmpD, ordD, eqD_int, eqD_in, eqD_ni, eqD_nn, eqD_bb, isD, D.isNon, idx_tup, idx_lst, idx_ro, idx_own, addI, subI, fdivD, modD, negD, truD, bltD, lenD_items, listD, tupleD, absD_int, intD, tyD, D.items, D.isL, mutD, appD, extD, mutArgs, argsOf, argOf, lentS, places, back, backOne, outs, setL, ownAt, parS, lock, unlock, wipeS, putBack, free_zero, free_succ, fst_no, fst_v, rngOf1, rngOf2, srcOf, kit_bb, wp_some, retq_rt, retq_nx, turn_nx, turn_ct, turnp_nx, turnp_ct, turnp_rt, turnp_bk, Option.toList, Int.zero_add, Int.sub_zero, List.getElem?_cons_succ, List.getElem?_cons_zero, List.set_cons_succ, List.set_cons_zero, Option.bind_some, Option.map_some, if_true, if_false, decide_true, decide_false, Bool.false_eq_true, store_zero, store_succ, st_no, st_v, atI_pos, ix50, ix51, ix52, ix53, ix54, ixN_pos, Option.bind_some, List.nodup_nil, List.nodup_cons, List.mem_cons, List.not_mem_nil, or_false, or_true, false_or, not_false_eq_true, not_true, and_self, and_true, true_and, Bool.and_true, Bool.true_and, Bool.and_self, Bool.and_false, Bool.false_and, Bool.not_true, Bool.not_false, List.length_cons, List.length_nil, List.cons_append, List.nil_append, List.replicate, Out.map, List.append_eq, List.all_cons, List.all_nil, decide_not, ne_eq, lim_lit, List.length_map, Int.reduceLE, Int.reduceLT, Int.reduceToNat, Nat.reduceAdd, Nat.reduceSub, Nat.reduceLeDiff, Nat.reduceEqDiff, Int.reduceNeg, Int.reduceEq, Nat.reduceLT, Nat.reduceMul, mulI, fdivI, rngI1, rngI2, Int.cast_ofNat_Int, Int.toNat_natCast, Option.bind_none, Option.map_none, Int.reduceAdd, Int.reduceSub, hf1, hx, nf, i2, fz_sp]
    repeat with_reducible refine wp_b ?_
    refine wp_mono (wp_cdrawM (α := Nat) (fun d => [.bo d, .v net, .no]) (fun y => ∃ t, y = .int t ∧ (1 ≤ t ∧ t < 1000)) 1 hd1 hl (by omega) ?_) ?_
    · intro i d' v hi hd'
      obtain ⟨p, hp, rfl⟩ := sp_mem hi
      have hil : i < n := by have := (List.getElem?_eq_some_iff.mp hi).1; rwa [hl] at this
      obtain ⟨q1, q2, q3, q4⟩ := hn.sp p hp
      have hf' := hd'.fz
      simp -implicitDefEqProofs (disch := first | assumption | exact st_no | exact st_v | exact fst_no | omega) only [xs1, xs2, xs3, rd, rds, vals, cont, Sl.cont, D.fz, fzL, cmpD, ordD, eqD_int, eqD_in, eqD_ni, eqD_nn, eqD_bb, isD, D.isNon, idx_tup, idx_lst, idx_ro, idx_own, addI, subI, fdivD, modD, negD, truD, bltD, lenD_items, listD, tupleD, absD_int, intD, tyD, D.items, D.isL, mutD, appD, extD, mutArgs, argsOf, argOf, lentS, places, back, backOne, outs, setL, ownAt, parS, lock, unlock, wipeS, putBack, free_zero, free_succ, fst_no, fst_v, rngOf1, rngOf2, srcOf, kit_bb, wp_some, retq_rt, retq_nx, turn_nx, turn_ct, turnp_nx, turnp_ct, turnp_rt, turnp_bk, Option.toList, Int.zero_add, Int.sub_zero, List.getElem?_cons_succ, List.getElem?_cons_zero, List.set_cons_succ, List.set_cons_zero, Option.bind_some, Option.map_some, if_true, if_false, decide_true, decide_false, Bool.false_eq_true, store_zero, store_succ, st_no, st_v, atI_pos, ix50, ix51, ix52, ix53, ix54, ixN_pos, Option.bind_some, List.nodup_nil, List.nodup_cons, List.mem_cons, List.not_mem_nil, or_false, or_true, false_or, not_false_eq_true, not_true, and_self, and_true, true_and, Bool.and_true, Bool.true_and, Bool.and_self, Bool.and_false, Bool.false_and, Bool.not_true, Bool.not_false, List.length_cons, List.length_nil, List.cons_append, List.nil_append, List.replicate, Out.map, List.append_eq, List.all_cons, List.all_nil, decide_not, ne_eq, lim_lit, List.length_map, Int.reduceLE, Int.reduceLT, Int.reduceToNat, Nat.reduceAdd, Nat.reduceSub, Nat.reduceLeDiff, Nat.reduceEqDiff, Int.reduceNeg, Int.reduceEq, Nat.reduceLT, Nat.reduceMul, mulI, fdivI, rngI1, rngI2, Int.cast_ofNat_Int, Int.toNat_natCast, Option.bind_none, Option.map_none, Int.reduceAdd, Int.reduceSub, compTu, hf', nf]
      repeat with_reducible refine wp_b ?_
      refine wp_mono (draw_ok hd' (by omega) (by omega)) ?_
      rintro _ ⟨y, d3, rfl, y0, y1, hd3⟩
      have hf3 := hd3.fz
      have y1 := y1 (by omega)
      have g := pick2 (l := p.1) (u := p.2) y0 y1
      simp -implicitDefEqProofs (disch := first | assumption | exact st_no | exact st_v | exact fst_no | omega) only [xs1, xs2, xs3, rd, rds, vals, cont, Sl.cont, D.fz, fzL, cmpD, ordD, eqD_int, eqD_in, eqD_ni, eqD_nn, eqD_bb, isD, D.isNon, idx_tup, idx_lst, idx_ro, idx_own, addI, subI, fdivD, modD, negD, truD, bltD, lenD_items, listD, tupleD, absD_int, intD, tyD, D.items, D.isL, mutD, appD, extD, mutArgs, argsOf, argOf, lentS, places, back, backOne, outs, setL, ownAt, parS, lock, unlock, wipeS, putBack, free_zero, free_succ, fst_no, fst_v, rngOf1, rngOf2, srcOf, kit_bb, wp_some, retq_rt, retq_nx, turn_nx, turn_ct, turnp_nx, turnp_ct, turnp_rt, turnp_bk, Option.toList, Int.zero_add, Int.sub_zero, List.getElem?_cons_succ, List.getElem?_cons_zero, List.set_cons_succ, List.set_cons_zero, Option.bind_some, Option.map_some, if_true, if_false, decide_true, decide_false, Bool.false_eq_true, store_zero, store_succ, st_no, st_v, atI_pos, ix50, ix51, ix52, ix53, ix54, ixN_pos, Option.bind_some, List.nodup_nil, List.nodup_cons, List.mem_cons, List.not_mem_nil, or_false, or_true, false_or, not_false_eq_true, not_true, and_self, and_true, true_and, Bool.and_true, Bool.true_and, Bool.and_self, Bool.and_false, Bool.false_and, Bool.not_true, Bool.not_false, List.length_cons, List.length_nil, List.cons_append, List.nil_append, List.replicate, Out.map, List.append_eq, List.all_cons, List.all_nil, decide_not, ne_eq, lim_lit, List.length_map, Int.reduceLE, Int.reduceLT, Int.reduceToNat, Nat.reduceAdd, Nat.reduceSub, Nat.reduceLeDiff, Nat.reduceEqDiff, Int.reduceNeg, Int.reduceEq, Nat.reduceLT, Nat.reduceMul, mulI, fdivI, rngI1, rngI2, Int.cast_ofNat_Int, Int.toNat_natCast, Option.bind_none, Option.map_none, Int.reduceAdd, Int.reduceSub, hf3, nf, g]
      refine ⟨_, d3, rfl, ⟨_, rfl, ?_, ?_⟩, hd3⟩
      · unfold pk; split <;> omega
      · unfold pk; split <;> omega
    · rintro _ ⟨l, d2, rfl, hP, hll, hd2⟩
      obtain ⟨L, rfl, hL, le⟩ := liftI hP
      rw [List.length_map] at le hll
      have hf2 := hd2.fz
      simp -implicitDefEqProofs (disch := first | assumption | exact st_no | exact st_v | exact fst_no | omega) only [xs1, xs2, xs3, rd, rds, vals, cont, Sl.cont, D.fz, fzL, cmpD, ordD, eqD_int, eqD_in, eqD_ni, eqD_nn, eqD_bb, isD, D.isNon, idx_tup, idx_lst, idx_ro, idx_own, addI, subI, fdivD, modD, negD, truD, bltD, lenD_items, listD, tupleD, absD_int, intD, tyD, D.items, D.isL, mutD, appD, extD, mutArgs, argsOf, argOf, lentS, places, back, backOne, outs, setL, ownAt, parS, lock, unlock, wipeS, putBack, free_zero, free_succ, fst_no, fst_v, rngOf1, rngOf2, srcOf, kit_bb, wp_some, retq_rt, retq_nx, turn_nx, turn_ct, turnp_nx, turnp_ct, turnp_rt, turnp_bk, Option.toList, Int.zero_add, Int.sub_zero, List.getElem?_cons_succ, List.getElem?_cons_zero, List.set_cons_succ, List.set_cons_zero, Option.bind_some, Option.map_some, if_true, if_false, decide_true, decide_false, Bool.false_eq_true, store_zero, store_succ, st_no, st_v, atI_pos, ix50, ix51, ix52, ix53, ix54, ixN_pos, Option.bind_some, List.nodup_nil, List.nodup_cons, List.mem_cons, List.not_mem_nil, or_false, or_true, false_or, not_false_eq_true, not_true, and_self, and_true, true_and, Bool.and_true, Bool.true_and, Bool.and_self, Bool.and_false, Bool.false_and, Bool.not_true, Bool.not_false, List.length_cons, List.length_nil, List.cons_append, List.nil_append, List.replicate, Out.map, List.append_eq, List.all_cons, List.all_nil, decide_not, ne_eq, lim_lit, List.length_map, Int.reduceLE, Int.reduceLT, Int.reduceToNat, Nat.reduceAdd, Nat.reduceSub, Nat.reduceLeDiff, Nat.reduceEqDiff, Int.reduceNeg, Int.reduceEq, Nat.reduceLT, Nat.reduceMul, mulI, fdivI, rngI1, rngI2, Int.cast_ofNat_Int, Int.toNat_natCast, Option.bind_none, Option.map_none, Int.reduceAdd, Int.reduceSub, hf2, nf, fzL_ints]
      exact ⟨L, d2, rfl, by omega, hL, hd2.mono (by omega)⟩
theorem law_true {dsc : D} {l : List Int} (hd : dsc = .ro (l.map D.int) ∨ dsc = .lst (l.map D.int)) : Wp (fun r => r.1 = .bl true) (evF T 1000 (k + 6) 38 [.v dsc]) := by
  have hfz : dsc.fz = true := by rcases hd with rfl | rfl <;> simp only [D.fz, fzL_ints]
  refine evF_wp T_law rfl ?_
  obtain ⟨_, eb, d0, rfl, hd0⟩ := begin_ok (k := k + 4) hd
  have hf0 := hd0.fz
  simp -implicitDefEqProofs (disch := first | assumption | exact st_no | exact st_v | exact fst_no | omega) only [xs1, xs2, xs3, rd, rds, vals, cont, Sl.cont, D.fz, fzL, cmpD, ordD, eqD_int, eqD_in, eqD_ni, eqD_nn, eqD_bb, isD, D.isNon, idx_tup, idx_lst, idx_ro, idx_own, addI, subI, fdivD, modD, negD, truD, bltD, lenD_items, listD, tupleD, absD_int, intD, tyD, D.items, D.isL, mutD, appD, extD, mutArgs, argsOf, argOf, lentS, places, back, backOne, outs, setL, ownAt, parS, lock, unlock, wipeS, putBack, free_zero, free_succ, fst_no, fst_v, rngOf1, rngOf2, srcOf, kit_bb, wp_some, retq_rt, retq_nx, turn_nx, turn_ct, turnp_nx, turnp_ct, turnp_rt, turnp_bk, Option.toList, Int.zero_add, Int.sub_zero, List.getElem?_cons_succ, List.getElem?_cons_zero, List.set_cons_succ, List.set_cons_zero, Option.bind_some, Option.map_some, if_true, if_false, decide_true, decide_false, Bool.false_eq_true, store_zero, store_succ, st_no, st_v, atI_pos, ix50, ix51, ix52, ix53, ix54, ixN_pos, Option.bind_some, List.nodup_nil, List.nodup_cons, List.mem_cons, List.not_mem_nil, or_false, or_true, false_or, not_false_eq_true, not_true, and_self, and_true, true_and, Bool.and_true, Bool.true_and, Bool.and_self, Bool.and_false, Bool.false_and, Bool.not_true, Bool.not_false, List.length_cons, List.length_nil, List.cons_append, List.nil_append, List.replicate, Out.map, List.append_eq, List.all_cons, List.all_nil, decide_not, ne_eq, lim_lit, List.length_map, Int.reduceLE, Int.reduceLT, Int.reduceToNat, Nat.reduceAdd, Nat.reduceSub, Nat.reduceLeDiff, Nat.reduceEqDiff, Int.reduceNeg, Int.reduceEq, Nat.reduceLT, Nat.reduceMul, mulI, fdivI, rngI1, rngI2, Int.cast_ofNat_Int, Int.toNat_natCast, Option.bind_none, Option.map_none, Int.reduceAdd, Int.reduceSub, b_law, hfz, eb, hf0]
  repeat with_reducible refine wp_b ?_
  refine wp_mono (onet_ok (k := k + 1) hd0 (by omega)) ?_
  rintro _ ⟨n, h, sp, bs, ws, net, d1, rfl, hn, n1, n2, h0, h1, hd1⟩
  have hf1 := hd1.fz
  have nf := hn.fz
  have i1 := hn.i1
  have i2 := hn.i2
  have hl : (sp.map spD).length = n := by rw [List.length_map]; exact hn.len
  simp -implicitDefEqProofs (disch := first | assumption | exact st_no | exact st_v | exact fst_no | omega) only [xs1, xs2, xs3, rd, rds, vals, cont, Sl.cont, D.fz, fzL, cmpD, ordD, eqD_int, eqD_in, eqD_ni, eqD_nn, eqD_bb, isD, D.isNon, idx_tup, idx_lst, idx_ro, idx_own, addI, subI, fdivD, modD, negD, truD, bltD, lenD_items, listD, tupleD, absD_int, intD, tyD, D.items, D.isL, mutD, appD, extD, mutArgs, argsOf, argOf, lentS, places, back, backOne, outs, setL, ownAt, parS, lock, unlock, wipeS, putBack, free_zero, free_succ, fst_no, fst_v, rngOf1, rngOf2, srcOf, kit_bb, wp_some, retq_rt, retq_nx, turn_nx, turn_ct, turnp_nx, turnp_ct, turnp_rt, turnp_bk, Option.toList, Int.zero_add, Int.sub_zero, List.getElem?_cons_succ, List.getElem?_cons_zero, List.set_cons_succ, List.set_cons_zero, Option.bind_some, Option.map_some, if_true, if_false, decide_true, decide_false, Bool.false_eq_true, store_zero, store_succ, st_no, st_v, atI_pos, ix50, ix51, ix52, ix53, ix54, ixN_pos, Option.bind_some, List.nodup_nil, List.nodup_cons, List.mem_cons, List.not_mem_nil, or_false, or_true, false_or, not_false_eq_true, not_true, and_self, and_true, true_and, Bool.and_true, Bool.true_and, Bool.and_self, Bool.and_false, Bool.false_and, Bool.not_true, Bool.not_false, List.length_cons, List.length_nil, List.cons_append, List.nil_append, List.replicate, Out.map, List.append_eq, List.all_cons, List.all_nil, decide_not, ne_eq, lim_lit, List.length_map, Int.reduceLE, Int.reduceLT, Int.reduceToNat, Nat.reduceAdd, Nat.reduceSub, Nat.reduceLeDiff, Nat.reduceEqDiff, Int.reduceNeg, Int.reduceEq, Nat.reduceLT, Nat.reduceMul, mulI, fdivI, rngI1, rngI2, Int.cast_ofNat_Int, Int.toNat_natCast, Option.bind_none, Option.map_none, Int.reduceAdd, Int.reduceSub, hf1, nf]
  repeat with_reducible refine wp_b ?_
  refine wp_mono (dlengths_ok (k := k + 2) hd1 (by omega) hn n2) ?_
  rintro _ ⟨L, d2, rfl, hL, hL2, hd2⟩
  have hf2 := hd2.fz
  have el := lat_eq (k := k + 4) hn (L := L) (by omega)
  have hn' := netD_fix hn hL hL2
  have nf' := hn'.fz
  simp -implicitDefEqProofs (disch := first | assumption | exact st_no | exact st_v | exact fst_no | omega) only [xs1, xs2, xs3, rd, rds, vals, cont, Sl.cont, D.fz, fzL, cmpD, ordD, eqD_int, eqD_in, eqD_ni, eqD_nn, eqD_bb, isD, D.isNon, idx_tup, idx_lst, idx_ro, idx_own, addI, subI, fdivD, modD, negD, truD, bltD, lenD_items, listD, tupleD, absD_int, intD, tyD, D.items, D.isL, mutD, appD, extD, mutArgs, argsOf, argOf, lentS, places, back, backOne, outs, setL, ownAt, parS, lock, unlock, wipeS, putBack, free_zero, free_succ, fst_no, fst_v, rngOf1, rngOf2, srcOf, kit_bb, wp_some, retq_rt, retq_nx, turn_nx, turn_ct, turnp_nx, turnp_ct, turnp_rt, turnp_bk, Option.toList, Int.zero_add, Int.sub_zero, List.getElem?_cons_succ, List.getElem?_cons_zero, List.set_cons_succ, List.set_cons_zero, Option.bind_some, Option.map_some, if_true, if_false, decide_true, decide_false, Bool.false_eq_true, store_zero, store_succ, st_no, st_v, atI_pos, ix50, ix51, ix52, ix53, ix54, ixN_pos, Option.bind_some, List.nodup_nil, List.nodup_cons, List.mem_cons, List.not_mem_nil, or_false, or_true, false_or, not_false_eq_true, not_true, and_self, and_true, true_and, Bool.and_true, Bool.true_and, Bool.and_self, Bool.and_false, Bool.false_and, Bool.not_true, Bool.not_false, List.length_cons, List.length_nil, List.cons_append, List.nil_append, List.replicate, Out.map, List.append_eq, List.all_cons, List.all_nil, decide_not, ne_eq, lim_lit, List.length_map, Int.reduceLE, Int.reduceLT, Int.reduceToNat, Nat.reduceAdd, Nat.reduceSub, Nat.reduceLeDiff, Nat.reduceEqDiff, Int.reduceNeg, Int.reduceEq, Nat.reduceLT, Nat.reduceMul, mulI, fdivI, rngI1, rngI2, Int.cast_ofNat_Int, Int.toNat_natCast, Option.bind_none, Option.map_none, Int.reduceAdd, Int.reduceSub, hf2, nf, fzL_ints, el, nf', i2, fz_sp]
  repeat with_reducible refine wp_b ?_
  refine wp_mono (wp_cdrawM (α := Nat) (fun d => [.v dsc, .v d, .v net, .v (.tup (L.map D.int)), .v (fixN h L bs ws), .no, .no, .no, .no]) (fun y => ∃ t, y = .int t ∧ 0 ≤ t) 1 hd2 hl (by omega) ?_) ?_
  · intro i d' v hi hd'
    obtain ⟨p, hp, rfl⟩ := sp_mem hi
    have hil : i < n := by have := (List.getElem?_eq_some_iff.mp hi).1; rwa [hl] at this
    have hf' := hd'.fz
    simp -implicitDefEqProofs (disch := first | assumption | exact st_no | exact st_v | exact fst_no | omega) only [xs1, xs2, xs3, rd, rds, vals, cont, Sl.cont, D.fz, fzL, cmpD, ordD, eqD_int, eqD_in, eqD_ni, eqD_nn, eqD_bb, isD, D.isNon, idx_tup, idx_lst, idx_ro, idx_own, addI, subI, fdivD, modD, negD, truD, bltD, lenD_items, listD, tupleD, absD_int, intD, tyD, D.items, D.isL, mutD, appD, extD, mutArgs, argsOf, argOf, lentS, places, back, backOne, outs, setL, ownAt, parS, lock, unlock, wipeS, putBack, free_zero, free_succ, fst_no, fst_v, rngOf1, rngOf2, srcOf, kit_bb, wp_some, retq_rt, retq_nx, turn_nx, turn_ct, turnp_nx, turnp_ct, turnp_rt, turnp_bk, Option.toList, Int.zero_add, Int.sub_zero, List.getElem?_cons_succ, List.getElem?_cons_zero, List.set_cons_succ, List.set_cons_zero, Option.bind_some, Option.map_some, if_true, if_false, decide_true, decide_false, Bool.false_eq_true, store_zero, store_succ, st_no, st_v, atI_pos, ix50, ix51, ix52, ix53, ix54, ixN_pos, Option.bind_some, List.nodup_nil, List.nodup_cons, List.mem_cons, List.not_mem_nil, or_false, or_true, false_or, not_false_eq_true, not_true, and_self, and_true, true_and, Bool.and_true, Bool.true_and, Bool.and_self, Bool.and_false, Bool.false_and, Bool.not_true, Bool.not_false, List.length_cons, List.length_nil, List.cons_append, List.nil_append, List.replicate, Out.map, List.append_eq, List.all_cons, List.all_nil, decide_not, ne_eq, lim_lit, List.length_map, Int.reduceLE, Int.reduceLT, Int.reduceToNat, Nat.reduceAdd, Nat.reduceSub, Nat.reduceLeDiff, Nat.reduceEqDiff, Int.reduceNeg, Int.reduceEq, Nat.reduceLT, Nat.reduceMul, mulI, fdivI, rngI1, rngI2, Int.cast_ofNat_Int, Int.toNat_natCast, Option.bind_none, Option.map_none, Int.reduceAdd, Int.reduceSub, compTu, hf', nf, i1]
    repeat with_reducible refine wp_b ?_
    refine wp_mono (draw_ok hd' (by omega) (by omega)) ?_
    rintro _ ⟨x, d3, rfl, x0, x1, hd3⟩
    have hf3 := hd3.fz
    have x1 := x1 (by omega)
    simp -implicitDefEqProofs (disch := first | assumption | exact st_no | exact st_v | exact fst_no | omega) only [xs1, xs2, xs3, rd, rds, vals, cont, Sl.cont, D.fz, fzL, cmpD, ordD, eqD_int, eqD_in, eqD_ni, eqD_nn, eqD_bb, isD, D.isNon, idx_tup, idx_lst, idx_ro, idx_own, addI, subI, fdivD, modD, negD, truD, bltD, lenD_items, listD, tupleD, absD_int, intD, tyD, D.items, D.isL, mutD, appD, extD, mutArgs, argsOf, argOf, lentS, places, back, backOne, outs, setL, ownAt, parS, lock, unlock, wipeS, putBack, free_zero, free_succ, fst_no, fst_v, rngOf1, rngOf2, srcOf, kit_bb, wp_some, retq_rt, retq_nx, turn_nx, turn_ct, turnp_nx, turnp_ct, turnp_rt, turnp_bk, Option.toList, Int.zero_add, Int.sub_zero, List.getElem?_cons_succ, List.getElem?_cons_zero, List.set_cons_succ, List.set_cons_zero, Option.bind_some, Option.map_some, if_true, if_false, decide_true, decide_false, Bool.false_eq_true, store_zero, store_succ, st_no, st_v, atI_pos, ix50, ix51, ix52, ix53, ix54, ixN_pos, Option.bind_some, List.nodup_nil, List.nodup_cons, List.mem_cons, List.not_mem_nil, or_false, or_true, false_or, not_false_eq_true, not_true, and_self, and_true, true_and, Bool.and_true, Bool.true_and, Bool.and_self, Bool.and_false, Bool.false_and, Bool.not_true, Bool.not_false, List.length_cons, List.length_nil, List.cons_append, List.nil_append, List.replicate, Out.map, List.append_eq, List.all_cons, List.all_nil, decide_not, ne_eq, lim_lit, List.length_map, Int.reduceLE, Int.reduceLT, Int.reduceToNat, Nat.reduceAdd, Nat.reduceSub, Nat.reduceLeDiff, Nat.reduceEqDiff, Int.reduceNeg, Int.reduceEq, Nat.reduceLT, Nat.reduceMul, mulI, fdivI, rngI1, rngI2, Int.cast_ofNat_Int, Int.toNat_natCast, Option.bind_none, Option.map_none, Int.reduceAdd, Int.reduceSub, hf3, nf]
    exact ⟨_, d3, rfl, ⟨_, rfl, x0⟩, hd3⟩
  · rintro _ ⟨l, d3, rfl, hP, hll, hd3⟩
    obtain ⟨S, rfl, _, le⟩ := liftI hP
    rw [List.length_map] at le hll
    have hf3 := hd3.fz
    have hS : S.length = n := by omega
    have e1 := printed_eq (k := k + 1) hn n2
    have e2 := are_eq (k := k + 2) hn n2 hS
    have e3 := at_eq (k := k) hn n2 hL hL2
    have e4 := are_eq (k := k + 2) hn' n2 hS
    have e5 := printed_eq (k := k + 1) hn' n2
    have e6 := at_eq (k := k) hn' n2 hL hL2
    have e7 := ldemands_eq (k := k + 2) hn n2
    generalize dems h n sp bs ws = da at e1 e2 e7
    generalize dems h n (fixS L) bs ws = db at e3 e4 e5 e6
    simp -implicitDefEqProofs (disch := first | assumption | exact st_no | exact st_v | exact fst_no | omega) only [xs1, xs2, xs3, rd, rds, vals, cont, Sl.cont, D.fz, fzL, cmpD, ordD, eqD_int, eqD_in, eqD_ni, eqD_nn, eqD_bb, isD, D.isNon, idx_tup, idx_lst, idx_ro, idx_own, addI, subI, fdivD, modD, negD, truD, bltD, lenD_items, listD, tupleD, absD_int, intD, tyD, D.items, D.isL, mutD, appD, extD, mutArgs, argsOf, argOf, lentS, places, back, backOne, outs, setL, ownAt, parS, lock, unlock, wipeS, putBack, free_zero, free_succ, fst_no, fst_v, rngOf1, rngOf2, srcOf, kit_bb, wp_some, retq_rt, retq_nx, turn_nx, turn_ct, turnp_nx, turnp_ct, turnp_rt, turnp_bk, Option.toList, Int.zero_add, Int.sub_zero, List.getElem?_cons_succ, List.getElem?_cons_zero, List.set_cons_succ, List.set_cons_zero, Option.bind_some, Option.map_some, if_true, if_false, decide_true, decide_false, Bool.false_eq_true, store_zero, store_succ, st_no, st_v, atI_pos, ix50, ix51, ix52, ix53, ix54, ixN_pos, Option.bind_some, List.nodup_nil, List.nodup_cons, List.mem_cons, List.not_mem_nil, or_false, or_true, false_or, not_false_eq_true, not_true, and_self, and_true, true_and, Bool.and_true, Bool.true_and, Bool.and_self, Bool.and_false, Bool.false_and, Bool.not_true, Bool.not_false, List.length_cons, List.length_nil, List.cons_append, List.nil_append, List.replicate, Out.map, List.append_eq, List.all_cons, List.all_nil, decide_not, ne_eq, lim_lit, List.length_map, Int.reduceLE, Int.reduceLT, Int.reduceToNat, Nat.reduceAdd, Nat.reduceSub, Nat.reduceLeDiff, Nat.reduceEqDiff, Int.reduceNeg, Int.reduceEq, Nat.reduceLT, Nat.reduceMul, mulI, fdivI, rngI1, rngI2, Int.cast_ofNat_Int, Int.toNat_natCast, Option.bind_none, Option.map_none, Int.reduceAdd, Int.reduceSub, hf3, nf, nf', fzL_ints, fz_tr, e1, e2, e3, e4, e5, e6, e7, eq_trT, eq_trO]
theorem plain (d : D) (ns : List Int) (h : d = .ro (ns.map D.int) ∨ d = .lst (ns.map D.int)) : ∃ os, evF T 1000 199 38 [.v d] = some (.bl true, os) := by
  obtain ⟨⟨r, os⟩, e, h2⟩ := law_true (k := 193) h
  have h2 : r = .bl true := h2
  subst h2
  exact ⟨os, e⟩
end
end K22


set_option maxRecDepth 100000
set_option maxHeartbeats 0
namespace HT
open PySem PySem.Spec PyProof.Rows L2
abbrev P0 : Program := PySem.Challenge.pw_surefreight_k22_demands
def defOf : Stmt → Option He.DefD
  | .FunctionDef n a b _ _ _ sc _ _ _ => some ⟨(n, none), n, n, a, b, sc, [], []⟩
  | _ => none
def fn : List He.DefD := P0.main.body.filterMap defOf
abbrev fa : List He.Fa := (fn.map fun d => He.Fa.glo d.1.1) ++ [.free "len", .free "range", .free "tuple", .free "list", .free "abs", .free "int", .free "isinstance", .free "bool", .free "str", .free "enumerate", .free "min", .free "max", .free "sum", .free "any", .free "all"]
abbrev lawIx : Nat := 42
abbrev R : PySem.W.OpenRow := PySem.W.OpenLaw.row PySem.Challenge.rw_surefreight_k22_demands
abbrev hk : PySem.W.Hook := He.hookD 4 fa fn
def ob (s : PySem.W.SharedT) : He.AlD := He.obsDG 4 fa fn (HandSHeadRun.getT s)
theorem ob_eq (s : PySem.W.SharedT) : ob s = hk.obs s.abs := He.obsDG_eq (HandSHeadRun.getT_eq s)
theorem run (w : World) : HandSHeadRun.RunEq R (PySem.W.view R.prog [lawIx]) hk ob 2000 [("start_of" : PySem.Str), ("end_of" : PySem.Str), ("work_of" : PySem.Str), ("points_of" : PySem.Str), ("point_rows" : PySem.Str), ("span_rows" : PySem.Str), ("wait_row" : PySem.Str), ("basic_rows" : PySem.Str), ("is_end" : PySem.Str), ("anchor_of" : PySem.Str), ("demand_of" : PySem.Str), ("printed_demands" : PySem.Str), ("fixed_net" : PySem.Str), ("demands_at" : PySem.Str), ("_law_begin" : PySem.Str), ("_law_draw" : PySem.Str), ("_law_rare" : PySem.Str), ("_law_is_int" : PySem.Str), ("_law_ints" : PySem.Str), ("_law_spans" : PySem.Str), ("_law_pair" : PySem.Str), ("_law_tie_rows" : PySem.Str), ("_law_net" : PySem.Str), ("_law_basic" : PySem.Str), ("_law_broken" : PySem.Str), ("_law_full_state" : PySem.Str), ("_law_lengths" : PySem.Str), ("_law_anchor" : PySem.Str), ("_law_demand" : PySem.Str), ("_law_demands" : PySem.Str), ("_law_at" : PySem.Str), ("_law_wide_net" : PySem.Str), ("_law_odd_bound" : PySem.Str), ("_law_odd_wait" : PySem.Str), ("_law_odd_net" : PySem.Str), ("_law_drawn_lengths" : PySem.Str), ("_law_row_kept" : PySem.Str), ("_law_are_demands" : PySem.Str)] w := by
  intro os
  kernel_rfl
end HT

set_option maxRecDepth 100000
set_option maxHeartbeats 0
namespace K22
open PySem PySem.Spec PyProof.Rows L2 Co
theorem chk_all : (List.range nm.length).all (chkAt HT.fn nm T slots) = true := by decide +kernel
theorem bind_0 : BindAt HT.fn T slots 0 := by
  intro d F N e1 e2 e3 kV doc pm an cdv ct us hl
  cases e1; cases e2; cases e3
  match us, hl with
  | [_], _ => rfl
theorem bind_1 : BindAt HT.fn T slots 1 := by
  intro d F N e1 e2 e3 kV doc pm an cdv ct us hl
  cases e1; cases e2; cases e3
  match us, hl with
  | [_], _ => rfl
theorem bind_2 : BindAt HT.fn T slots 2 := by
  intro d F N e1 e2 e3 kV doc pm an cdv ct us hl
  cases e1; cases e2; cases e3
  match us, hl with
  | [_], _ => rfl
theorem bind_3 : BindAt HT.fn T slots 3 := by
  intro d F N e1 e2 e3 kV doc pm an cdv ct us hl
  cases e1; cases e2; cases e3
  match us, hl with
  | [_], _ => rfl
theorem bind_4 : BindAt HT.fn T slots 4 := by
  intro d F N e1 e2 e3 kV doc pm an cdv ct us hl
  cases e1; cases e2; cases e3
  match us, hl with
  | [_, _], _ => rfl
theorem bind_5 : BindAt HT.fn T slots 5 := by
  intro d F N e1 e2 e3 kV doc pm an cdv ct us hl
  cases e1; cases e2; cases e3
  match us, hl with
  | [_], _ => rfl
theorem bind_6 : BindAt HT.fn T slots 6 := by
  intro d F N e1 e2 e3 kV doc pm an cdv ct us hl
  cases e1; cases e2; cases e3
  match us, hl with
  | [_, _], _ => rfl
theorem bind_7 : BindAt HT.fn T slots 7 := by
  intro d F N e1 e2 e3 kV doc pm an cdv ct us hl
  cases e1; cases e2; cases e3
  match us, hl with
  | [_], _ => rfl
theorem bind_8 : BindAt HT.fn T slots 8 := by
  intro d F N e1 e2 e3 kV doc pm an cdv ct us hl
  cases e1; cases e2; cases e3
  match us, hl with
  | [_], _ => rfl
theorem bind_9 : BindAt HT.fn T slots 9 := by
  intro d F N e1 e2 e3 kV doc pm an cdv ct us hl
  cases e1; cases e2; cases e3
  match us, hl with
  | [_], _ => rfl
theorem bind_10 : BindAt HT.fn T slots 10 := by
  intro d F N e1 e2 e3 kV doc pm an cdv ct us hl
  cases e1; cases e2; cases e3
  match us, hl with
  | [_, _], _ => rfl
theorem bind_11 : BindAt HT.fn T slots 11 := by
  intro d F N e1 e2 e3 kV doc pm an cdv ct us hl
  cases e1; cases e2; cases e3
  match us, hl with
  | [_], _ => rfl
theorem bind_12 : BindAt HT.fn T slots 12 := by
  intro d F N e1 e2 e3 kV doc pm an cdv ct us hl
  cases e1; cases e2; cases e3
  match us, hl with
  | [_, _], _ => rfl
theorem bind_13 : BindAt HT.fn T slots 13 := by
  intro d F N e1 e2 e3 kV doc pm an cdv ct us hl
  cases e1; cases e2; cases e3
  match us, hl with
  | [_, _], _ => rfl
theorem bind_14 : BindAt HT.fn T slots 14 := by
  intro d F N e1 e2 e3 kV doc pm an cdv ct us hl
  cases e1; cases e2; cases e3
  match us, hl with
  | [_], _ => rfl
theorem bind_15 : BindAt HT.fn T slots 15 := by
  intro d F N e1 e2 e3 kV doc pm an cdv ct us hl
  cases e1; cases e2; cases e3
  match us, hl with
  | [_, _], _ => rfl
theorem bind_16 : BindAt HT.fn T slots 16 := by
  intro d F N e1 e2 e3 kV doc pm an cdv ct us hl
  cases e1; cases e2; cases e3
  match us, hl with
  | [_, _], _ => rfl
theorem bind_17 : BindAt HT.fn T slots 17 := by
  intro d F N e1 e2 e3 kV doc pm an cdv ct us hl
  cases e1; cases e2; cases e3
  match us, hl with
  | [_], _ => rfl
theorem bind_18 : BindAt HT.fn T slots 18 := by
  intro d F N e1 e2 e3 kV doc pm an cdv ct us hl
  cases e1; cases e2; cases e3
  match us, hl with
  | [_, _], _ => rfl
theorem bind_19 : BindAt HT.fn T slots 19 := by
  intro d F N e1 e2 e3 kV doc pm an cdv ct us hl
  cases e1; cases e2; cases e3
  match us, hl with
  | [_, _, _], _ => rfl
theorem bind_20 : BindAt HT.fn T slots 20 := by
  intro d F N e1 e2 e3 kV doc pm an cdv ct us hl
  cases e1; cases e2; cases e3
  match us, hl with
  | [_, _], _ => rfl
theorem bind_21 : BindAt HT.fn T slots 21 := by
  intro d F N e1 e2 e3 kV doc pm an cdv ct us hl
  cases e1; cases e2; cases e3
  match us, hl with
  | [_, _, _, _], _ => rfl
theorem bind_22 : BindAt HT.fn T slots 22 := by
  intro d F N e1 e2 e3 kV doc pm an cdv ct us hl
  cases e1; cases e2; cases e3
  match us, hl with
  | [_, _, _, _, _], _ => rfl
theorem bind_23 : BindAt HT.fn T slots 23 := by
  intro d F N e1 e2 e3 kV doc pm an cdv ct us hl
  cases e1; cases e2; cases e3
  match us, hl with
  | [_], _ => rfl
theorem bind_24 : BindAt HT.fn T slots 24 := by
  intro d F N e1 e2 e3 kV doc pm an cdv ct us hl
  cases e1; cases e2; cases e3
  match us, hl with
  | [_, _], _ => rfl
theorem bind_25 : BindAt HT.fn T slots 25 := by
  intro d F N e1 e2 e3 kV doc pm an cdv ct us hl
  cases e1; cases e2; cases e3
  match us, hl with
  | [_, _], _ => rfl
theorem bind_26 : BindAt HT.fn T slots 26 := by
  intro d F N e1 e2 e3 kV doc pm an cdv ct us hl
  cases e1; cases e2; cases e3
  match us, hl with
  | [_, _], _ => rfl
theorem bind_27 : BindAt HT.fn T slots 27 := by
  intro d F N e1 e2 e3 kV doc pm an cdv ct us hl
  cases e1; cases e2; cases e3
  match us, hl with
  | [_], _ => rfl
theorem bind_28 : BindAt HT.fn T slots 28 := by
  intro d F N e1 e2 e3 kV doc pm an cdv ct us hl
  cases e1; cases e2; cases e3
  match us, hl with
  | [_, _], _ => rfl
theorem bind_29 : BindAt HT.fn T slots 29 := by
  intro d F N e1 e2 e3 kV doc pm an cdv ct us hl
  cases e1; cases e2; cases e3
  match us, hl with
  | [_], _ => rfl
theorem bind_30 : BindAt HT.fn T slots 30 := by
  intro d F N e1 e2 e3 kV doc pm an cdv ct us hl
  cases e1; cases e2; cases e3
  match us, hl with
  | [_, _], _ => rfl
theorem bind_31 : BindAt HT.fn T slots 31 := by
  intro d F N e1 e2 e3 kV doc pm an cdv ct us hl
  cases e1; cases e2; cases e3
  match us, hl with
  | [_, _], _ => rfl
theorem bind_32 : BindAt HT.fn T slots 32 := by
  intro d F N e1 e2 e3 kV doc pm an cdv ct us hl
  cases e1; cases e2; cases e3
  match us, hl with
  | [_, _], _ => rfl
theorem bind_33 : BindAt HT.fn T slots 33 := by
  intro d F N e1 e2 e3 kV doc pm an cdv ct us hl
  cases e1; cases e2; cases e3
  match us, hl with
  | [_, _, _], _ => rfl
theorem bind_34 : BindAt HT.fn T slots 34 := by
  intro d F N e1 e2 e3 kV doc pm an cdv ct us hl
  cases e1; cases e2; cases e3
  match us, hl with
  | [_], _ => rfl
theorem bind_35 : BindAt HT.fn T slots 35 := by
  intro d F N e1 e2 e3 kV doc pm an cdv ct us hl
  cases e1; cases e2; cases e3
  match us, hl with
  | [_, _], _ => rfl
theorem bind_36 : BindAt HT.fn T slots 36 := by
  intro d F N e1 e2 e3 kV doc pm an cdv ct us hl
  cases e1; cases e2; cases e3
  match us, hl with
  | [_, _, _], _ => rfl
theorem bind_37 : BindAt HT.fn T slots 37 := by
  intro d F N e1 e2 e3 kV doc pm an cdv ct us hl
  cases e1; cases e2; cases e3
  match us, hl with
  | [_, _, _], _ => rfl
theorem bind_38 : BindAt HT.fn T slots 38 := by
  intro d F N e1 e2 e3 kV doc pm an cdv ct us hl
  cases e1; cases e2; cases e3
  match us, hl with
  | [_], _ => rfl
theorem bind_all : ∀ j, j < nm.length → BindAt HT.fn T slots j := fun j h => match j, h with
  | 0, _ => bind_0
  | 1, _ => bind_1
  | 2, _ => bind_2
  | 3, _ => bind_3
  | 4, _ => bind_4
  | 5, _ => bind_5
  | 6, _ => bind_6
  | 7, _ => bind_7
  | 8, _ => bind_8
  | 9, _ => bind_9
  | 10, _ => bind_10
  | 11, _ => bind_11
  | 12, _ => bind_12
  | 13, _ => bind_13
  | 14, _ => bind_14
  | 15, _ => bind_15
  | 16, _ => bind_16
  | 17, _ => bind_17
  | 18, _ => bind_18
  | 19, _ => bind_19
  | 20, _ => bind_20
  | 21, _ => bind_21
  | 22, _ => bind_22
  | 23, _ => bind_23
  | 24, _ => bind_24
  | 25, _ => bind_25
  | 26, _ => bind_26
  | 27, _ => bind_27
  | 28, _ => bind_28
  | 29, _ => bind_29
  | 30, _ => bind_30
  | 31, _ => bind_31
  | 32, _ => bind_32
  | 33, _ => bind_33
  | 34, _ => bind_34
  | 35, _ => bind_35
  | 36, _ => bind_36
  | 37, _ => bind_37
  | 38, _ => bind_38
  | n + 39, h => absurd h (by show ¬ n + 39 < 39; omega)
theorem facts {P : Program} {w : World} {K : PySem.W.Frag} {h : Heap} {mg : Str → Option Value} {f : Addr} (X : K.In h) (G : h.Ns mainGlobals mg) (hfa : mg ("law" : Str) = some (.ref f)) (c : He.SaysD HT.fa HT.fn K) :
    ∃ fd : FuncData, (∀ (s : Shared) (v : Value), BindsTo s fd ⟨[v], []⟩ [("script", v)]) ∧ ∀ base : Heap, K.In base → base.Ns mainGlobals mg → FnOk P w K mg base CX0 200 f fd ["script"] (fun vs H Q _ => ∃ (a : Addr) (ns : List Int), vs = [.ref a] ∧ SqL K H a (ns.map V.int) ∧ ∀ H', Q (.bl true) H') :=
  facts_of (wf := 1000) (fi := 38) (k := 198) (nm := nm) (T := T) (slots := slots) X G hfa c (by decide +kernel) (by decide +kernel) chk_all bind_all rfl (fun N F e1 e2 => by cases e1; cases e2; exact ⟨rfl, rfl⟩) plain
end K22

set_option maxRecDepth 100000
set_option maxHeartbeats 0
open PySem PySem.W PySem.Calls PyProof.Rows
theorem PySem.Challenge.cw_surefreight_k22_demands_holds : PySem.Challenge.rw_surefreight_k22_demands.Holds := by
  w_on; o_law
  refine HandSHeadRun.head_any (r := OpenLaw.row PySem.Challenge.rw_surefreight_k22_demands) (q := view (OpenLaw.row PySem.Challenge.rw_surefreight_k22_demands).prog [HT.lawIx]) (H := HT.hk) (ob := HT.ob) (M := 2000) (loose := [("start_of" : PySem.Str), ("end_of" : PySem.Str), ("work_of" : PySem.Str), ("points_of" : PySem.Str), ("point_rows" : PySem.Str), ("span_rows" : PySem.Str), ("wait_row" : PySem.Str), ("basic_rows" : PySem.Str), ("is_end" : PySem.Str), ("anchor_of" : PySem.Str), ("demand_of" : PySem.Str), ("printed_demands" : PySem.Str), ("fixed_net" : PySem.Str), ("demands_at" : PySem.Str), ("_law_begin" : PySem.Str), ("_law_draw" : PySem.Str), ("_law_rare" : PySem.Str), ("_law_is_int" : PySem.Str), ("_law_ints" : PySem.Str), ("_law_spans" : PySem.Str), ("_law_pair" : PySem.Str), ("_law_tie_rows" : PySem.Str), ("_law_net" : PySem.Str), ("_law_basic" : PySem.Str), ("_law_broken" : PySem.Str), ("_law_full_state" : PySem.Str), ("_law_lengths" : PySem.Str), ("_law_anchor" : PySem.Str), ("_law_demand" : PySem.Str), ("_law_demands" : PySem.Str), ("_law_at" : PySem.Str), ("_law_wide_net" : PySem.Str), ("_law_odd_bound" : PySem.Str), ("_law_odd_wait" : PySem.Str), ("_law_odd_net" : PySem.Str), ("_law_drawn_lengths" : PySem.Str), ("_law_row_kept" : PySem.Str), ("_law_are_demands" : PySem.Str)]) (d := HandSHeadRun.topDef (OpenLaw.row PySem.Challenge.rw_surefreight_k22_demands).prog HT.lawIx) (kwd := []) HT.ob_eq
    (by kernel_rfl) (fun s => by kernel_rfl) HT.run (by kernel_rfl) (by kernel_rfl) (by kernel_rfl) (by rfl) (by first | assumption | decide +kernel) (by decide +kernel) ⟨rfl, rfl, rfl, rfl, rfl, by decide +kernel⟩ ?hw ?hc
  case hw => w_witness2
  case hc =>
    refine L2.walk_ofE (l := PySem.Challenge.rw_surefreight_k22_demands) (n := 63) (k := 200) (x := "script") (CX := L2.CX0) rfl (by decide) (by kernel_rfl) ⟨rfl, by decide, by decide⟩ ?F (fun _ _ _ _ z => z)
    intro w mg fa h Y G hmg0
    obtain ⟨K, KX, c⟩ := Y
    have hmg : mg ("law" : PySem.Str) = some (.ref fa) := by
      have e : (HandSHeadRun.topDef (OpenLaw.row PySem.Challenge.rw_surefreight_k22_demands).prog HT.lawIx).name = ("law" : PySem.Str) := by kernel_rfl
      rw [← e]
      exact hmg0
    obtain ⟨fd, hb, hF⟩ := K22.facts (P := (PySem.Challenge.rw_surefreight_k22_demands).prog) (w := w) KX G hmg c
    exact ⟨K, fd, _, KX, hb, fun H a ns hl _ hS => ⟨a, ns, rfl, hS, fun _ => rfl⟩, hF⟩
