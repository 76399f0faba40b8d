import PyProof.Rows.All
import Wide.All
import OpenK.AllK
import Wide.FinOn
import HandS.ForMost
import HandS.Conv
import HandS.Wide
import HandS.IsInst
import HandS.Walk
import HandS.SortInts
import HandS.Defaults
import HandS.HeadEnd
import HandS.HeadHook2
import HandS.HeadHook4
import HandS.Head2
import HandS.TupAny
import HandS.Deep
import HandS.TupMul
import HandS.Zip
import HandS.Rev
import HandS.Flow
import HandS.RaiseMore
import HandS.Style
import HandS.Strs
import KE.GoesEnum
import KE.KStateDown
import Lean
import HandS.Base
import HandS.Call
import HandS.Ends
import HandS.More
import HandS.Words
import HandS.WordsExc
import HandS.Head0
import HandS.Head1
import HandS.HeadHook1
import PySem.Challenge.RW_surefreight_k09_promises_meant
set_option Elab.async false
set_option linter.all false
set_option maxRecDepth 100000
/-! Core1: a small core language with values, and its evaluator (no heap). -/
namespace Co
open PySem

/-- data: tup, lst (frozen list), ro (the script), own (a list that one place owns) -/
inductive D where
  | non | bl (b : Bool) | int (i : Int) | str (x : Str)
  | tup (l : List D) | lst (l : List D) | ro (l : List D) | own (l : List D)

mutual
/-- nothing owned within -/
def D.fz : D → Bool
  | .tup l => fzL l
  | .lst l => fzL l
  | .ro l => fzL l
  | .own _ => false
  | .non => true
  | .bl _ => true
  | .int _ => true
  | .str _ => true
def fzL : List D → Bool
  | [] => true
  | d :: l => d.fz && fzL l
end
mutual
/-- frozen -/
def D.frz : D → D
  | .tup l => .tup (frzL l)
  | .own l => .lst (frzL l)
  | .lst l => .lst l
  | .ro l => .ro l
  | .non => .non
  | .bl b => .bl b
  | .int i => .int i
  | .str x => .str x
def frzL : List D → List D
  | [] => []
  | d :: l => d.frz :: frzL l
end

/-- a slot: nothing, a value of one's own, a borrowed one, a locked one -/
inductive Sl where
  | no | v (d : D) | bo (d : D) | lk (d : D)
abbrev Env := List Sl
/-- a result: data, or what stands in a slot -/
inductive R where
  | d (d : D) | pl (i : Nat)

def Sl.cont : Sl → Option D
  | .no => none
  | .v d => some d
  | .bo d => some d
  | .lk d => some d
def cont (ρ : Env) (i : Nat) : Option D := (ρ[i]?).bind Sl.cont
def rd (ρ : Env) : R → Option D
  | .d d => some d
  | .pl i => cont ρ i
def rds (ρ : Env) : List R → Option (List D)
  | [] => some []
  | r :: rs => (rd ρ r).bind fun d => (rds ρ rs).map (d :: ·)
/-- all are data themselves -/
def vals : List R → Option (List D)
  | [] => some []
  | .d d :: rs => (vals rs).map (d :: ·)
  | .pl _ :: _ => none

def lim : Nat := 16777216

inductive Blt where
  | len | list | tuple | abs | int | min | max | sum | any | all | str
  deriving DecidableEq
inductive Mut where
  | append | extend | pop
  deriving DecidableEq

/-- the core's terms: expressions, lists of them, targets, sources, statements, blocks -/
inductive C where
  | var (i : Nat) | fz (i : Nat) | mv (i : Nat)
  | non | bl (b : Bool) | int (i : Int) | str (x : Str)
  | bin (o : Operator) (a b : C)
  | neg (a : C) | not (a : C)
  | cmp (o : CmpOp) (a b : C)
  | chn (o1 o2 : CmpOp) (a b c : C)
  | and (a b : C) | or (a b : C)
  | ite (c a b : C)
  | one (a : C)
  | tst (a : C)
  | frz (a : C)
  | tup (es : C) | lst (es : C)
  | idx (a b : C)
  | slc (a lo hi : C)
  | lrng1 (a : C) | lrng2 (a b : C) | ixm (a b : C)
  | isi (a : C) (t : String)
  | call (f : Nat) (es : C)
  | blt (n : Blt) (es : C)
  | mut (n : Mut) (i : Nat) (es : C)
  | comp (elt tg src cond : C) (own : List Nat)
  | nil | cons (a r : C)
  | tnm (i : Nat) | ttup (ts : C) | tsub (i : Nat) (k : C)
  | sseq (e : C) | srng (es : C) | senum (e : C)
  | asg (t e : C) | par (i j : Nat) (es : C) | par3 (i j l : Nat) (es : C) | exs (e : C) | ret (e : C) | retN | cond (c a b : C) | for_ (t src body : C) | whl (c body : C) | brk | cnt | pass

/-! ### operations on data -/
/-- the items of a list or a tuple -/
def D.items : D → Option (List D)
  | .tup l => some l
  | .lst l => some l
  | .ro l => some l
  | .own l => some l
  | _ => none
def D.isL : D → Option (List D)
  | .lst l => some l
  | .own l => some l
  | _ => none

def addD : D → D → Option D
  | .int i, .int j => some (.int (i + j))
  | .str x, .str y => if x.length + y.length ≤ lim then some (.str (x ++ y)) else none
  | .own a, .own b => if fzL a && fzL b && decide (a.length + b.length ≤ lim) then some (.own (a ++ b)) else none
  | .own a, .lst b => if fzL a && fzL b && decide (a.length + b.length ≤ lim) then some (.own (a ++ b)) else none
  | .lst a, .own b => if fzL a && fzL b && decide (a.length + b.length ≤ lim) then some (.own (a ++ b)) else none
  | .lst a, .lst b => if fzL a && fzL b && decide (a.length + b.length ≤ lim) then some (.own (a ++ b)) else none
  | .tup a, .tup b => if fzL a && fzL b && decide (a.length + b.length ≤ lim) then some (.tup (a ++ b)) else none
  | _, _ => none
def binD (o : Operator) (x y : D) : Option D :=
  match o, x, y with
  | .Add, x, y => addD x y
  | .Sub, .int i, .int j => some (.int (i - j))
  | .Mult, .int i, .int j => if i.natAbs.log2 + j.natAbs.log2 < 1000000 then some (.int (i * j)) else none
  | .FloorDiv, .int i, .int j => if 0 < j ∧ j.natAbs.log2 < 9000 then some (.int (i / j)) else none
  | .Mod, .int i, .int j => if 0 < j then some (.int (i % j)) else none
  | .Pow, .int i, .int j => if 0 ≤ j ∧ j ≤ 1000000 ∧ i.natAbs < 2 ^ 64 then some (.int (i ^ j.toNat)) else none
  | .BitAnd, .int i, .int j => some (.int (Builtin.bitAnd i j))
  | .RShift, .int i, .int j => if 0 ≤ j then some (.int (i / 2 ^ j.toNat)) else none
  | _, _, _ => none
def negD : D → Option D
  | .int i => some (.int (-i))
  | _ => none

mutual
def D.py : D → PyData
  | .non => .none
  | .bl b => .bool b
  | .int i => .int i
  | .str x => .str x
  | .tup l => .tuple (pyL l)
  | .lst l => .list (pyL l)
  | .ro l => .list (pyL l)
  | .own l => .list (pyL l)
def pyL : List D → List PyData
  | [] => []
  | d :: l => d.py :: pyL l
end
def eqD (x y : D) : Option Bool :=
  if SeqAt.shaped x.py && SeqAt.shaped y.py then some (PyData.eqv x.py y.py) else none
def D.flat : D → Bool
  | .non => true
  | .bl _ => true
  | .int _ => true
  | .str _ => true
  | _ => false
def D.isNon : D → Bool
  | .non => true
  | _ => false
/-- == of flat data -/
def eqF : D → D → Bool
  | .non, .non => true
  | .bl a, .bl b => a == b
  | .bl a, .int b => (if a then 1 else 0) == b
  | .int a, .bl b => a == (if b then 1 else 0)
  | .int a, .int b => a == b
  | .str a, .str b => a == b
  | _, _ => false
def inF (x : D) (l : List D) : Option Bool := if x.flat && l.all D.flat then some (l.any fun y => eqF y x) else none
def inN (x : D) (l : List D) : Option Bool :=
  if x.flat && l.all D.flat then some (l.any fun y => eqF y x)
  else if SeqAt.shaped x.py && SeqAt.shaped (.list (pyL l)) then some ((pyL l).any fun z => PyData.eqv z x.py) else none
def inD (x y : D) : Option Bool :=
  match y with
  | .tup l => inF x l
  | .lst l => inN x l
  | .ro l => inN x l
  | .own l => inN x l
  | _ => none
def ordD (g : Int → Int → Bool) : D → D → Option Bool
  | .int i, .int j => some (g i j)
  | _, _ => none
def isD (b : Bool) : D → Option Bool
  | .non => some b
  | _ => none
def cmpD (o : CmpOp) (x y : D) : Option Bool :=
  match o with
  | .Eq => eqD x y
  | .NotEq => (eqD x y).map not
  | .Lt => ordD (fun i j => decide (i < j)) x y
  | .LtE => ordD (fun i j => decide (i ≤ j)) x y
  | .Gt => ordD (fun i j => decide (j < i)) x y
  | .GtE => ordD (fun i j => decide (j ≤ i)) x y
  | .Is => isD x.isNon y
  | .IsNot => isD (!x.isNon) y
  | .In => inD x y
  | .NotIn => (inD x y).map not
def truD : D → Option Bool
  | .non => some false
  | .bl b => some b
  | .int i => some (i != 0)
  | .str x => if x.length ≤ lim then some ((x.length : Int) != 0) else none
  | .tup l => some (!l.isEmpty)
  | .lst l => some (!l.isEmpty)
  | .ro l => some (!l.isEmpty)
  | .own l => some (!l.isEmpty)
def tyD : D → String
  | .non => "NoneType" | .bl _ => "bool" | .int _ => "int" | .str _ => "str" | .tup _ => "tuple" | .lst _ => "list" | .ro _ => "list" | .own _ => "list"
def idxD (x y : D) : Option D :=
  match x, y with
  | .str z, .int i => if z.length ≤ lim then (L2.atI z.cps.toList i).map fun c => .str ⟨#[c]⟩ else none
  | .tup l, .int i => (L2.atI l i).bind fun d => if d.fz then some d else none
  | .lst l, .int i => (L2.atI l i).bind fun d => if d.fz then some d else none
  | .ro l, .int i => (L2.atI l i).bind fun d => if d.fz then some d else none
  | .own l, .int i => (L2.atI l i).bind fun d => if d.fz then some d else none
  | _, _ => none
def cutD (l : List D) (lo hi : Option Int) : List D := (l.drop (HT.sIx l.length 0 lo)).take (HT.sIx l.length l.length hi - HT.sIx l.length 0 lo)
def slD (x : D) (lo hi : Option Int) : Option D :=
  match x with
  | .tup l => if fzL l then some (.tup (cutD l lo hi)) else none
  | .lst l => if fzL l then some (.own (cutD l lo hi)) else none
  | .ro l => if fzL l then some (.own (cutD l lo hi)) else none
  | .own l => if fzL l then some (.own (cutD l lo hi)) else none
  | _ => none
def lenD : List D → Option D
  | [.str z] => if z.length ≤ lim then some (.int z.length) else none
  | [d] => d.items.map fun l => .int l.length
  | _ => none
def listD : List D → Option D
  | [d] => d.items.bind fun l => if fzL l then some (.own l) else none
  | _ => none
def tupleD : List D → Option D
  | [d] => d.items.bind fun l => if fzL l then some (.tup l) else none
  | _ => none
def absD : List D → Option D
  | [.int i] => some (.int (if i < 0 then -i else i))
  | _ => none
def intD : List D → Option D
  | [.int i] => some (.int i)
  | [.bl b] => some (.int (if b then 1 else 0))
  | _ => none
/-- the items of a list -/
def D.lsts : D → Option (List D)
  | .lst l => some l
  | .ro l => some l
  | .own l => some l
  | _ => none
/-- whose items index looks through -/
def ixA (ρ : Env) : R → Option (List D)
  | .d (.tup l) => some l
  | r => (rd ρ r).bind D.lsts
def allInt : List D → Option (List Int)
  | [] => some []
  | .int i :: l => (allInt l).map (i :: ·)
  | _ => none
def allBl : List D → Option (List Bool)
  | [] => some []
  | .bl i :: l => (allBl l).map (i :: ·)
  | _ => none
def leastI : List Int → Option Int
  | [] => none
  | [a] => some a
  | a :: l => (leastI l).map fun m => if m < a then m else a
def mostI : List Int → Option Int
  | [] => none
  | [a] => some a
  | a :: l => (mostI l).map fun m => if a < m then m else a
def minD : List D → Option D
  | [.int i, .int j] => some (.int (if j < i then j else i))
  | [d] => d.lsts.bind fun l => (allInt l).bind fun ns => (leastI ns).map D.int
  | _ => none
def maxD : List D → Option D
  | [.int i, .int j] => some (.int (if j > i then j else i))
  | [d] => d.lsts.bind fun l => (allInt l).bind fun ns => (mostI ns).map D.int
  | _ => none
def sumD : List D → Option D
  | [d] => d.lsts.bind fun l => (allInt l).map fun ns => .int ns.sum
  | _ => none
def anyD : List D → Option D
  | [d] => d.lsts.bind fun l => (allBl l).map fun bs => .bl (bs.any id)
  | _ => none
def allD : List D → Option D
  | [d] => d.lsts.bind fun l => (allBl l).map fun bs => .bl (bs.all id)
  | _ => none
def strD : List D → Option D
  | [.int i] => if i.natAbs.log2 < 1920 then some (.str (toString i)) else none
  | [.str x] => some (.str x)
  | _ => none
def bltD (n : Blt) : List D → Option D :=
  match n with
  | .min => minD
  | .max => maxD
  | .sum => sumD
  | .any => anyD
  | .all => allD
  | .str => strD
  | .len => lenD
  | .list => listD
  | .tuple => tupleD
  | .abs => absD
  | .int => intD
/-- a method that changes a list: its result, the new items -/
def appD (l : List D) : List D → Option (D × List D)
  | [x] => if l.length < lim then some (.non, l ++ [x]) else none
  | _ => none
def extD (l : List D) : List D → Option (D × List D)
  | [x] => x.isL.bind fun r => if fzL r && decide (l.length + r.length ≤ lim) then some (.non, l ++ r) else none
  | _ => none
def popD (l : List D) : List D → Option (D × List D)
  | [.int i] => if -(2 ^ 63) ≤ i ∧ i < 2 ^ 63 then (L2.ixN l.length i).bind fun n => (l[n]?).bind fun d => if d.fz then some (d, l.eraseIdx n) else none else none
  | _ => none
def mutD (n : Mut) (l : List D) (ds : List D) : Option (D × List D) :=
  match n with
  | .append => appD l ds
  | .extend => extD l ds
  | .pop => popD l ds
/-- the first place of what is equal -/
def idxF (y : D) : List D → Option Nat
  | [] => none
  | d :: l => if eqF d y then some 0 else (idxF y l).map (· + 1)
def indexD (l : List D) (y : D) : Option D := if y.flat && l.all D.flat then (idxF y l).map fun (n : Nat) => .int n else none
/-- what such a method is given -/
def mutArgs (n : Mut) (ρ : Env) (rs : List R) : Option (List D) :=
  match n with
  | .append => vals rs
  | .extend => rds ρ rs
  | .pop => vals rs

/-! ### slots -/
/-- a name stored -/
def store (ρ : Env) (i : Nat) (d : D) : Option Env :=
  match ρ[i]? with
  | some .no => some (ρ.set i (.v d))
  | some (.v _) => some (ρ.set i (.v d))
  | _ => none
/-- a slot's list with new items -/
def setL (ρ : Env) (i : Nat) (l : List D) : Option Env :=
  match ρ[i]? with
  | some (.v (.own _)) => some (ρ.set i (.v (.own l)))
  | some (.bo (.own _)) => some (ρ.set i (.bo (.own l)))
  | _ => none
def ownAt (ρ : Env) (i : Nat) : Option (List D) :=
  match ρ[i]? with
  | some (.v (.own l)) => some l
  | some (.bo (.own l)) => some l
  | _ => none
/-- an argument's slot in the callee -/
def lentS : Option Sl → Option Sl
  | some (.v d) => some (.bo d)
  | some (.bo d) => some (.bo d)
  | some (.lk d) => some (.lk d)
  | _ => none
def argOf (ρ : Env) : R → Option Sl
  | .d d => some (.v d)
  | .pl i => lentS ρ[i]?
def argsOf (ρ : Env) : List R → Option (List Sl)
  | [] => some []
  | r :: rs => (argOf ρ r).bind fun s => (argsOf ρ rs).map (s :: ·)
def places : List R → List Nat
  | [] => []
  | .d _ :: rs => places rs
  | .pl i :: rs => i :: places rs
/-- what a lent slot holds behind the call -/
def backOne (old new : Sl) : Sl :=
  match old, new with
  | .v _, .bo d => .v d
  | .bo _, .bo d => .bo d
  | o, _ => o
def back (ρ : Env) : List R → List Sl → Env
  | .pl i :: rs, n :: ns => back (match ρ[i]? with | some o => ρ.set i (backOne o n) | none => ρ) rs ns
  | .d _ :: rs, _ :: ns => back ρ rs ns
  | _, _ => ρ
/-- the parameters' slots behind a call -/
def outs : List Sl → List Sl → List Sl
  | .bo _ :: as, s :: ss => s :: outs as ss
  | .lk _ :: as, s :: ss => s :: outs as ss
  | .v _ :: as, _ :: ss => .no :: outs as ss
  | .no :: as, _ :: ss => .no :: outs as ss
  | _, _ => []

inductive Out where
  | nx (ρ : Env) | rt (d : D) (ρ : Env) | bk (ρ : Env) | ct (ρ : Env)
def parS (ρ : Env) (i j : Nat) : List R → Option Out
  | [.d x, .d y] => (store ρ i x).bind fun ρ2 => (store ρ2 j y).bind fun ρ3 => some (.nx ρ3)
  | _ => none
def parS3 (ρ : Env) (i j l : Nat) : List R → Option Out
  | [.d x, .d y, .d z] => (store ρ i x).bind fun ρ2 => (store ρ2 j y).bind fun ρ3 => (store ρ3 l z).bind fun ρ4 => some (.nx ρ4)
  | _ => none
def Out.map (f : Env → Env) : Out → Out
  | .nx ρ => .nx (f ρ)
  | .rt d ρ => .rt d (f ρ)
  | .bk ρ => .bk (f ρ)
  | .ct ρ => .ct (f ρ)
/-- a list that is walked is locked -/
def lock (ρ : Env) : Option Nat → Env
  | none => ρ
  | some i => match ρ[i]? with
    | some (.v d) => ρ.set i (.lk d)
    | some (.bo d) => ρ.set i (.lk d)
    | _ => ρ
def unlock (old : Env) (l : Option Nat) (ρ : Env) : Env :=
  match l with
  | none => ρ
  | some i => match old[i]? with
    | some s => ρ.set i s
    | none => ρ
def wipeS (ρ : Env) : List Nat → Env
  | [] => ρ
  | i :: is => (wipeS ρ is).set i .no
def putBack (old : Env) (ρ : Env) : List Nat → Env
  | [] => ρ
  | i :: is => match old[i]? with
    | some s => (putBack old ρ is).set i s
    | none => putBack old ρ is
/-- the slot holds nothing that is owned -/
def freeAt (ρ : Env) (i : Nat) : Bool :=
  match ρ[i]? with
  | some .no => true
  | some (.v d) => d.fz
  | _ => false

def forL (step : D → Env → Option Out) : List D → Env → Option Out
  | [], ρ => some (.nx ρ)
  | d :: ds, ρ => match step d ρ with
    | some (.nx ρ') => forL step ds ρ'
    | some (.ct ρ') => forL step ds ρ'
    | some (.bk ρ') => some (.nx ρ')
    | some (.rt d ρ') => some (.rt d ρ')
    | none => none
def compL (step : D → Env → Option (Option D × Env)) : List D → List D → Env → Option (List D × Env)
  | [], acc, ρ => some (acc, ρ)
  | d :: ds, acc, ρ => match step d ρ with
    | some (some x, ρ') => if acc.length < lim then compL step ds (acc ++ [x]) ρ' else none
    | some (none, ρ') => compL step ds acc ρ'
    | none => none
def whileL (test : Env → Option (Bool × Env)) (step : Env → Option Out) : Nat → Env → Option Out
  | 0, _ => none
  | n + 1, ρ => match test ρ with
    | some (true, ρ') => match step ρ' with
      | some (.nx ρ2) => whileL test step n ρ2
      | some (.ct ρ2) => whileL test step n ρ2
      | some (.bk ρ2) => some (.nx ρ2)
      | some (.rt d ρ2) => some (.rt d ρ2)
      | none => none
    | some (false, ρ') => some (.nx ρ')
    | none => none
/-- what a for walks: the items, the slot to be locked -/
def srcOf (ρ : Env) : R → Option (List D × Option Nat)
  | .d d => d.items.bind fun l => if fzL l then some (l, none) else none
  | .pl i => match ρ[i]? with
    | some (.v (.own l)) => if fzL l then some (l, some i) else none
    | some (.bo (.own l)) => if fzL l then some (l, some i) else none
    | some (.lk (.own l)) => if fzL l then some (l, none) else none
    | _ => none
def rngD (a b : Int) : List D := (List.range (b - a).toNat).map fun (k : Nat) => D.int (a + (k : Int))
def enumL : Nat → List D → List D
  | _, [] => []
  | i, d :: ds => .tup [.int i, d] :: enumL (i + 1) ds
def rngOf : List D → Option (List D)
  | [.int n] => if -(2 ^ 62) ≤ n ∧ n < 2 ^ 62 then some (rngD 0 n) else none
  | [.int a, .int b] => if -(2 ^ 62) ≤ a ∧ a < 2 ^ 62 ∧ -(2 ^ 62) ≤ b ∧ b < 2 ^ 62 then some (rngD a b) else none
  | _ => none

section
variable (Φ : Nat → List Sl → Option (D × List Sl)) (wf : Nat)
mutual
/-- expressions -/
def evE : C → Env → Option (R × Env)
  | .var i, ρ => match ρ[i]? with
    | some (.v d) => some (if d.fz then .d d else .pl i, ρ)
    | some (.bo d) => some (if d.fz then .d d else .pl i, ρ)
    | some (.lk _) => some (.pl i, ρ)
    | _ => none
  | .fz i, ρ => match ρ[i]? with
    | some (.v d) => some (.d d.frz, ρ.set i (.v d.frz))
    | some (.bo d) => some (.d d.frz, ρ.set i (.bo d.frz))
    | _ => none
  | .mv i, ρ => match ρ[i]? with
    | some (.v d) => some (.d d, ρ.set i .no)
    | _ => none
  | .non, ρ => some (.d .non, ρ)
  | .bl b, ρ => some (.d (.bl b), ρ)
  | .int i, ρ => some (.d (.int i), ρ)
  | .str x, ρ => some (.d (.str x), ρ)
  | .bin o a b, ρ => (evE a ρ).bind fun (ra, ρ1) => (evE b ρ1).bind fun (rb, ρ2) =>
      (rd ρ2 ra).bind fun x => (rd ρ2 rb).bind fun y => (binD o x y).bind fun z => some (.d z, ρ2)
  | .neg a, ρ => (evE a ρ).bind fun (ra, ρ1) => (rd ρ1 ra).bind fun x => (negD x).bind fun z => some (.d z, ρ1)
  | .not a, ρ => (evE a ρ).bind fun (ra, ρ1) => match ra with
    | .d (.bl b) => some (.d (.bl (!b)), ρ1)
    | _ => none
  | .cmp o a b, ρ => (evE a ρ).bind fun (ra, ρ1) => (evE b ρ1).bind fun (rb, ρ2) =>
      (rd ρ2 ra).bind fun x => (rd ρ2 rb).bind fun y => (cmpD o x y).bind fun z => some (.d (.bl z), ρ2)
  | .chn o1 o2 a b c, ρ => ((evE a ρ).bind fun (ra, ρ1) => (evE b ρ1).bind fun (rb, ρ2) =>
      (rd ρ2 ra).bind fun x => (rd ρ2 rb).bind fun y => (cmpD o1 x y).bind fun z =>
        if z then (evE c ρ2).bind fun (rc, ρ3) => (rd ρ3 rb).bind fun y' => (rd ρ3 rc).bind fun w => (cmpD o2 y' w).bind fun z2 => some (z2, ρ3)
        else some (false, ρ2)).bind fun (z, ρ4) => some (.d (.bl z), ρ4)
  | .and a b, ρ => (evE a ρ).bind fun (ra, ρ1) => match ra with
    | .d (.bl true) => evE b ρ1
    | .d (.bl false) => some (.d (.bl false), ρ1)
    | _ => none
  | .or a b, ρ => (evE a ρ).bind fun (ra, ρ1) => match ra with
    | .d (.bl true) => some (.d (.bl true), ρ1)
    | .d (.bl false) => evE b ρ1
    | _ => none
  | .one a, ρ => evE a ρ
  | .frz a, ρ => (evE a ρ).bind fun (r, ρ1) => match r with
    | .d d => some (.d d.frz, ρ1)
    | .pl _ => none
  | .ite c a b, ρ => (evT c ρ).bind fun (t, ρ1) => if t then evE a ρ1 else evE b ρ1
  | .tup es, ρ => (evA es ρ).bind fun (rs, ρ1) => (vals rs).bind fun ds => if ds.length ≤ lim then some (.d (.tup ds), ρ1) else none
  | .lst es, ρ => (evA es ρ).bind fun (rs, ρ1) => (vals rs).bind fun ds => if ds.length ≤ lim then some (.d (.own ds), ρ1) else none
  | .idx a b, ρ => (evE a ρ).bind fun (ra, ρ1) => (evE b ρ1).bind fun (rb, ρ2) =>
      (rd ρ2 ra).bind fun x => (rd ρ2 rb).bind fun y => (idxD x y).bind fun z => some (.d z, ρ2)
  | .slc a lo hi, ρ => (evE a ρ).bind fun (ra, ρ1) => (evO lo ρ1).bind fun (l, ρ2) => (evO hi ρ2).bind fun (h, ρ3) =>
      (rd ρ3 ra).bind fun x => (slD x l h).bind fun z => some (.d z, ρ3)
  | .lrng1 a, ρ => (evE a ρ).bind fun (r, ρ1) => (vals [r]).bind fun ds => (rngOf ds).bind fun l => if l.length ≤ lim then some (.d (.own l), ρ1) else none
  | .lrng2 a b, ρ => (evE a ρ).bind fun (ra, ρ1) => (evE b ρ1).bind fun (rb, ρ2) => (vals [ra, rb]).bind fun ds => (rngOf ds).bind fun l => if l.length ≤ lim then some (.d (.own l), ρ2) else none
  | .ixm a b, ρ => (evE a ρ).bind fun (ra, ρ1) => (ixA ρ1 ra).bind fun _ => (evE b ρ1).bind fun (rb, ρ2) =>
      (ixA ρ2 ra).bind fun l => (rd ρ2 rb).bind fun y => (indexD l y).bind fun z => some (.d z, ρ2)
  | .isi a t, ρ => (evE a ρ).bind fun (ra, ρ1) => (rd ρ1 ra).bind fun x => (L2.kitB (tyD x) t).bind fun b => some (.d (.bl b), ρ1)
  | .call f es, ρ => (evA es ρ).bind fun (rs, ρ1) => if (places rs).Nodup then (argsOf ρ1 rs).bind fun as =>
      (Φ f as).bind fun (d, os) => some (.d d, back ρ1 rs os) else none
  | .blt n es, ρ => (evA es ρ).bind fun (rs, ρ1) => (rds ρ1 rs).bind fun ds => (bltD n ds).bind fun d => some (.d d, ρ1)
  | .mut n i es, ρ => (ownAt ρ i).bind fun _ => (evA es ρ).bind fun (rs, ρ1) => (mutArgs n ρ1 rs).bind fun ds => (ownAt ρ1 i).bind fun l => (mutD n l ds).bind fun (d, l') =>
      (setL ρ1 i l').bind fun ρ2 => some (.d d, ρ2)
  | .comp elt tg src cond own, ρ => (evI src ρ).bind fun (ds, lk, ρ1) => if own.all (freeAt ρ1) then
      (compL (fun d ρ => (evG tg d ρ).bind fun ρ' => (evT cond ρ').bind fun (t, ρ2) =>
        if t then (evE elt ρ2).bind fun (r, ρ3) => match r with
          | .d x => some (some x, wipeS ρ3 own)
          | .pl _ => none
        else some (none, wipeS ρ2 own)) ds [] (wipeS (lock ρ1 lk) own)).bind fun (acc, ρ4) => some (.d (.own acc), putBack ρ1 (unlock ρ1 lk ρ4) own) else none
  | _, _ => none
/-- a slice's bound -/
def evO : C → Env → Option (Option Int × Env)
  | .nil, ρ => some (none, ρ)
  | .one a, ρ => (evE a ρ).bind fun (r, ρ1) => match r with
    | .d (.int i) => some (some i, ρ1)
    | _ => none
  | _, _ => none
/-- lists of expressions -/
def evA : C → Env → Option (List R × Env)
  | .nil, ρ => some ([], ρ)
  | .cons a r, ρ => (evE a ρ).bind fun (ra, ρ1) => (evA r ρ1).bind fun (rs, ρ2) => some (ra :: rs, ρ2)
  | _, _ => none
/-- tests -/
def evT : C → Env → Option (Bool × Env)
  | .not a, ρ => (evT a ρ).bind fun (t, ρ1) => some (!t, ρ1)
  | .and a b, ρ => (evT a ρ).bind fun (t, ρ1) => if t then evT b ρ1 else some (false, ρ1)
  | .or a b, ρ => (evT a ρ).bind fun (t, ρ1) => if t then some (true, ρ1) else evT b ρ1
  | .cmp o a b, ρ => (evE a ρ).bind fun (ra, ρ1) => (evE b ρ1).bind fun (rb, ρ2) =>
      (rd ρ2 ra).bind fun x => (rd ρ2 rb).bind fun y => (cmpD o x y).bind fun z => some (z, ρ2)
  | .chn o1 o2 a b c, ρ => (evE a ρ).bind fun (ra, ρ1) => (evE b ρ1).bind fun (rb, ρ2) =>
      (rd ρ2 ra).bind fun x => (rd ρ2 rb).bind fun y => (cmpD o1 x y).bind fun z =>
        if z then (evE c ρ2).bind fun (rc, ρ3) => (rd ρ3 rb).bind fun y' => (rd ρ3 rc).bind fun w => (cmpD o2 y' w).bind fun z2 => some (z2, ρ3)
        else some (false, ρ2)
  | .tst a, ρ => (evE a ρ).bind fun (ra, ρ1) => (rd ρ1 ra).bind fun x => (truD x).bind fun b => some (b, ρ1)
  | .bl b, ρ => some (b, ρ)
  | .one a, ρ => evT a ρ
  | _, _ => none
/-- targets -/
def evG : C → D → Env → Option Env
  | .tnm i, d, ρ => store ρ i d
  | .ttup ts, d, ρ => match d with
    | .tup l => evGs ts l ρ
    | _ => none
  | .tsub i k, d, ρ => (ownAt ρ i).bind fun _ => (evE k ρ).bind fun (rk, ρ1) => match rk with
    | .d (.int j) => (ownAt ρ1 i).bind fun l => (L2.ixN l.length j).bind fun n => setL ρ1 i (l.set n d)
    | _ => none
  | _, _, _ => none
def evGs : C → List D → Env → Option Env
  | .nil, l, ρ => match l with
    | [] => some ρ
    | _ => none
  | .cons t ts, l, ρ => match l with
    | d :: l' => (evG t d ρ).bind fun ρ1 => evGs ts l' ρ1
    | [] => none
  | _, _, _ => none
/-- what is walked -/
def evI : C → Env → Option (List D × Option Nat × Env)
  | .sseq e, ρ => (evE e ρ).bind fun (r, ρ1) => (srcOf ρ1 r).bind fun (l, k) => some (l, k, ρ1)
  | .srng es, ρ => (evA es ρ).bind fun (rs, ρ1) => (vals rs).bind fun ds => (rngOf ds).bind fun l => some (l, none, ρ1)
  | .senum e, ρ => (evE e ρ).bind fun (r, ρ1) => (srcOf ρ1 r).bind fun (l, k) => some (enumL 0 l, k, ρ1)
  | _, _ => none
/-- statements -/
def evS : C → Env → Option Out
  | .asg t e, ρ => (evE e ρ).bind fun (r, ρ1) => match r with
    | .d d => (evG t d ρ1).bind fun ρ2 => some (.nx ρ2)
    | .pl _ => none
  | .par i j es, ρ => (evA es ρ).bind fun (rs, ρ1) => parS ρ1 i j rs
  | .par3 i j l es, ρ => (evA es ρ).bind fun (rs, ρ1) => parS3 ρ1 i j l rs
  | .exs e, ρ => (evE e ρ).bind fun (_, ρ1) => some (.nx ρ1)
  | .ret e, ρ => (evE e ρ).bind fun (r, ρ1) => match r with
    | .d d => some (.rt d ρ1)
    | .pl _ => none
  | .retN, ρ => some (.rt .non ρ)
  | .cond c a b, ρ => (evT c ρ).bind fun (t, ρ1) => if t then evB a ρ1 else evB b ρ1
  | .for_ t src body, ρ => (evI src ρ).bind fun (ds, lk, ρ1) =>
      (forL (fun d ρ => (evG t d ρ).bind fun ρ' => evB body ρ') ds (lock ρ1 lk)).bind fun o => some (o.map (unlock ρ1 lk))
  | .whl c body, ρ => whileL (evT c) (evB body) wf ρ
  | .brk, ρ => some (.bk ρ)
  | .cnt, ρ => some (.ct ρ)
  | .pass, ρ => some (.nx ρ)
  | _, _ => none
/-- blocks -/
def evB : C → Env → Option Out
  | .nil, ρ => some (.nx ρ)
  | .cons a r, ρ => (evS a ρ).bind fun o => match o with
    | .nx ρ1 => evB r ρ1
    | o => some o
  | _, _ => none
end
end

/-- a def: how many parameters, how many slots, its body -/
structure Fn where
  np : Nat
  ns : Nat
  body : C
/-- a call, by the depth that is left -/
def evF (T : List Fn) (wf : Nat) : Nat → Nat → List Sl → Option (D × List Sl)
  | 0, _, _ => none
  | k + 1, f, as => match T[f]? with
    | some F => if as.length = F.np then
        match evB (evF T wf k) wf F.body (as ++ List.replicate (F.ns - F.np) .no) with
        | some (.nx ρ) => some (.non, outs as ρ)
        | some (.rt d ρ) => some (d, outs as ρ)
        | _ => none
      else none
    | none => none
end Co

set_option maxRecDepth 100000
/-! Core2: how data stand in the heap -/
namespace Co
open PySem PySem.Spec PyProof.Rows L2

def RoL (K : PySem.W.Frag) (H : Hp) (a : Addr) (xs : List V) : Prop :=
  (∃ o, H a = some (.frz o (.lst xs))) ∨
    ∃ (o : Obj) (its : Array Value) (n : Nat), K.lookup a = some o ∧ o.cls = .type "list" ∧ o.dict = none ∧ o.data = .seq its n ∧ its.size ≤ sizeLine ∧ Vals xs its.toList
theorem RoL.sq {K : PySem.W.Frag} {H : Hp} {a : Addr} {xs : List V} (h : RoL K H a xs) : SqL K H a xs := by
  rcases h with h | h
  · exact .inl (.inr h)
  · exact .inr h

/-- a tuple that was made here: known to the object, no dict -/
def TuF (H : Hp) (a : Addr) (xs : List V) : Prop := ∃ o : Obj, H a = some (.frz o (.tup xs)) ∧ o.dict = none
theorem TuF.sq {K : PySem.W.Frag} {H : Hp} {a : Addr} {xs : List V} (h : TuF H a xs) : SqT K H a xs := let ⟨o, e, _⟩ := h; .inl (.inr ⟨o, e⟩)
theorem TuF.of {H : Hp} {a : Addr} {xs : List V} {o : Obj} (h : H a = some (.frz o (.tup xs))) (d : o.dict = none) : TuF H a xs := ⟨o, h, d⟩
section
variable (K : PySem.W.Frag) (F : Addr → Prop) (H : Hp)
mutual
/-- the value v is the data d; P: the lists that d owns -/
def VR : D → V → List Addr → Prop
  | .non, v, P => v = .non ∧ P = []
  | .bl b, v, P => v = .bl b ∧ P = []
  | .int i, v, P => v = .int i ∧ P = []
  | .str x, v, P => v = .str x ∧ P = []
  | .tup l, v, P => ∃ a xs, v = .ref a ∧ TuF H a xs ∧ VRL l xs P
  | .lst l, v, P => ∃ a xs, v = .ref a ∧ F a ∧ H a = some (.lst xs) ∧ VRL l xs [] ∧ P = []
  | .ro l, v, P => ∃ a xs, v = .ref a ∧ RoL K H a xs ∧ VRL l xs [] ∧ P = []
  | .own l, v, P => ∃ a xs P', v = .ref a ∧ H a = some (.lst xs) ∧ VRL l xs P' ∧ P = a :: P'
def VRL : List D → List V → List Addr → Prop
  | [], xs, P => xs = [] ∧ P = []
  | d :: l, xs, P => ∃ x xs' P1 P2, xs = x :: xs' ∧ VR d x P1 ∧ VRL l xs' P2 ∧ P = P1 ++ P2
end
/-- a slot -/
def S1 : Sl → Option V → List Addr → Prop
  | .no, _, P => P = []
  | .v d, ov, P => ∃ v, ov = some v ∧ VR K F H d v P
  | .bo d, ov, P => ∃ v, ov = some v ∧ VR K F H d v P
  | .lk d, ov, P => ∃ v, ov = some v ∧ VR K F H d v P
def SR : Env → List (Option V) → List Addr → Prop
  | [], σ, O => σ = [] ∧ O = []
  | s :: ρ, σ, O => ∃ ov σ' O1 O2, σ = ov :: σ' ∧ S1 K F H s ov O1 ∧ SR ρ σ' O2 ∧ O = O1 ++ O2
end
/-- what is owned, what is frozen -/
structure Wd (F : Addr → Prop) (H : Hp) (O : List Addr) : Prop where
  nd : O.Nodup
  nf : ∀ a ∈ O, ¬ F a
  ls : ∀ a ∈ O, ∃ xs, H a = some (.lst xs)
  ft : ∀ a, F a → ∃ xs, H a = some (.lst xs)
structure Stp (F : Addr → Prop) (H : Hp) (O : List Addr) (F' : Addr → Prop) (H' : Hp) (O' : List Addr) : Prop where
  fr : ∀ a o, H a = some o → a ∉ O → H' a = some o
  mo : ∀ a, F a → F' a
  ow : ∀ a ∈ O', a ∈ O ∨ H a = none
  nw : ∀ a, F' a → F a ∨ a ∈ O ∨ H a = none

section
variable {K : PySem.W.Frag} {F F' F2 : Addr → Prop} {H H' H2 : Hp} {O O' O2 P P' : List Addr}
theorem Stp.refl : Stp F H O F H O := ⟨fun _ _ h _ => h, fun _ h => h, fun _ h => .inl h, fun _ h => .inl h⟩
theorem Stp.trans (a : Stp F H O F' H' O') (b : Stp F' H' O' F2 H2 O2) : Stp F H O F2 H2 O2 where
  fr := fun x o h n => b.fr x o (a.fr x o h n) fun z => (a.ow x z).elim n fun q => by rw [h] at q; cases q
  mo := fun x h => b.mo x (a.mo x h)
  ow := fun x h => by
    rcases b.ow x h with z | z
    · exact a.ow x z
    · by_cases hx : x ∈ O
      · exact .inl hx
      · right
        cases q : H x with
        | none => rfl
        | some o => rw [a.fr x o q hx] at z; cases z
  nw := fun x h => by
    rcases b.nw x h with z | z | z
    · exact a.nw x z
    · exact .inr (a.ow x z)
    · by_cases hx : x ∈ O
      · exact .inr (.inl hx)
      · right; right
        cases q : H x with
        | none => rfl
        | some o => rw [a.fr x o q hx] at z; cases z
theorem Stp.sub (a : Stp F H O F' H' O') (h : ∀ x ∈ O2, x ∈ O') : Stp F H O F' H' O2 := ⟨a.fr, a.mo, fun x z => a.ow x (h x z), a.nw⟩
/-- more is owned: what lies beside -/
theorem Stp.more (a : Stp F H O F' H' O') : Stp F H (O ++ P) F' H' (O' ++ P) where
  fr := fun x o h n => a.fr x o h fun z => n (List.mem_append_left _ z)
  mo := a.mo
  ow := fun x h => by
    rcases List.mem_append.mp h with z | z
    · rcases a.ow x z with z | z
      · exact .inl (List.mem_append_left _ z)
      · exact .inr z
    · exact .inl (List.mem_append_right _ z)
  nw := fun x h => by
    rcases a.nw x h with z | z | z
    · exact .inl z
    · exact .inr (.inl (List.mem_append_left _ z))
    · exact .inr (.inr z)
theorem Stp.sup (a : Stp F H O F' H' O') (h : ∀ x ∈ O, x ∈ O2) : Stp F H O2 F' H' O' where
  fr := fun x o e n => a.fr x o e fun z => n (h x z)
  mo := a.mo
  ow := fun x z => (a.ow x z).imp (h x) id
  nw := fun x z => by
    rcases a.nw x z with z | z | z
    · exact .inl z
    · exact .inr (.inl (h x z))
    · exact .inr (.inr z)
theorem Wd.sub (w : Wd F H O) (h : O2.Sublist O) : Wd F H O2 := ⟨h.nodup w.nd, fun a z => w.nf a (h.subset z), fun a z => w.ls a (h.subset z), w.ft⟩
theorem Wd.left (w : Wd F H (O ++ P)) : Wd F H O := w.sub (List.sublist_append_left O P)
theorem Wd.right (w : Wd F H (O ++ P)) : Wd F H P := w.sub (List.sublist_append_right O P)
theorem Wd.apart (w : Wd F H (O ++ P)) : ∀ a ∈ P, a ∉ O := fun a h z => (List.nodup_append.mp w.nd).2.2 a z a h rfl
theorem Wd.apart' (w : Wd F H (O ++ P)) : ∀ a ∈ O, a ∉ P := fun a h z => (List.nodup_append.mp w.nd).2.2 a h a z rfl
theorem Wd.perm (w : Wd F H O) (h : O.Perm O2) : Wd F H O2 := ⟨h.nodup_iff.mp w.nd, fun a z => w.nf a (h.symm.subset z), fun a z => w.ls a (h.symm.subset z), w.ft⟩

theorem SqT.stp (w : Wd F H O) (s : Stp F H O F' H' O') {a : Addr} {xs : List V} (h : SqT K H a xs) : SqT K H' a xs := by
  rcases h with (h | ⟨o, h⟩) | h
  · exact .inl (.inl (s.fr a _ h fun z => by obtain ⟨ys, e⟩ := w.ls a z; rw [h] at e; cases e))
  · exact .inl (.inr ⟨o, s.fr a _ h fun z => by obtain ⟨ys, e⟩ := w.ls a z; rw [h] at e; cases e⟩)
  · exact .inr h
theorem TuF.stp (w : Wd F H O) (s : Stp F H O F' H' O') {a : Addr} {xs : List V} (h : TuF H a xs) : TuF H' a xs := by
  obtain ⟨o, h, d⟩ := h
  exact ⟨o, s.fr a _ h fun z => (by obtain ⟨ys, e⟩ := w.ls a z; rw [h] at e; cases e), d⟩
theorem RoL.stp (w : Wd F H O) (s : Stp F H O F' H' O') {a : Addr} {xs : List V} (h : RoL K H a xs) : RoL K H' a xs := by
  rcases h with ⟨o, h⟩ | h
  · exact .inl ⟨o, s.fr a _ h fun z => by obtain ⟨ys, e⟩ := w.ls a z; rw [h] at e; cases e⟩
  · exact .inr h
mutual
theorem VR.stp (w : Wd F H O) (s : Stp F H O F' H' O') : ∀ (d : D) (v : V) (P : List Addr), (∀ a ∈ P, a ∉ O) → VR K F H d v P → VR K F' H' d v P
  | .non, v, P, _, h => by simp only [VR] at h ⊢; exact h
  | .bl b, v, P, _, h => by simp only [VR] at h ⊢; exact h
  | .int i, v, P, _, h => by simp only [VR] at h ⊢; exact h
  | .str x, v, P, _, h => by simp only [VR] at h ⊢; exact h
  | .tup l, v, P, hp, h => by
    simp only [VR] at h ⊢
    obtain ⟨a, xs, e, h1, h2⟩ := h
    exact ⟨a, xs, e, TuF.stp w s h1, VRL.stp w s l xs P hp h2⟩
  | .lst l, v, P, hp, h => by
    simp only [VR] at h ⊢
    obtain ⟨a, xs, e, h1, h2, h3, h4⟩ := h
    exact ⟨a, xs, e, s.mo a h1, s.fr a _ h2 fun z => w.nf a z h1, VRL.stp w s l xs [] (fun a z => by cases z) h3, h4⟩
  | .ro l, v, P, hp, h => by
    simp only [VR] at h ⊢
    obtain ⟨a, xs, e, h1, h3, h4⟩ := h
    exact ⟨a, xs, e, RoL.stp w s h1, VRL.stp w s l xs [] (fun a z => by cases z) h3, h4⟩
  | .own l, v, P, hp, h => by
    simp only [VR] at h ⊢
    obtain ⟨a, xs, P', e, h1, h2, h3⟩ := h
    subst h3
    exact ⟨a, xs, P', e, s.fr a _ h1 (hp a List.mem_cons_self), VRL.stp w s l xs P' (fun b z => hp b (List.mem_cons_of_mem _ z)) h2, rfl⟩
theorem VRL.stp (w : Wd F H O) (s : Stp F H O F' H' O') : ∀ (l : List D) (xs : List V) (P : List Addr), (∀ a ∈ P, a ∉ O) → VRL K F H l xs P → VRL K F' H' l xs P
  | [], xs, P, _, h => by simp only [VRL] at h ⊢; exact h
  | d :: l, xs, P, hp, h => by
    simp only [VRL] at h ⊢
    obtain ⟨x, xs', P1, P2, e, h1, h2, h3⟩ := h
    subst h3
    exact ⟨x, xs', P1, P2, e, VR.stp w s d x P1 (fun a z => hp a (List.mem_append_left _ z)) h1, VRL.stp w s l xs' P2 (fun a z => hp a (List.mem_append_right _ z)) h2, rfl⟩
end
/-! frozen data own nothing -/
mutual
theorem VR.fz : ∀ (d : D) (v : V) (P : List Addr), d.fz = true → VR K F H d v P → P = []
  | .non, v, P, _, h => by simp only [VR] at h; exact h.2
  | .bl b, v, P, _, h => by simp only [VR] at h; exact h.2
  | .int i, v, P, _, h => by simp only [VR] at h; exact h.2
  | .str x, v, P, _, h => by simp only [VR] at h; exact h.2
  | .tup l, v, P, hf, h => by
    simp only [VR] at h
    obtain ⟨a, xs, e, h1, h2⟩ := h
    exact VRL.fz l xs P (by simpa [D.fz] using hf) h2
  | .lst l, v, P, _, h => by simp only [VR] at h; obtain ⟨a, xs, e, h1, h2, h3, h4⟩ := h; exact h4
  | .ro l, v, P, _, h => by simp only [VR] at h; obtain ⟨a, xs, e, h1, h3, h4⟩ := h; exact h4
  | .own l, v, P, hf, _ => by simp [D.fz] at hf
theorem VRL.fz : ∀ (l : List D) (xs : List V) (P : List Addr), fzL l = true → VRL K F H l xs P → P = []
  | [], xs, P, _, h => by simp only [VRL] at h; exact h.2
  | d :: l, xs, P, hf, h => by
    simp only [VRL] at h
    obtain ⟨x, xs', P1, P2, e, h1, h2, h3⟩ := h
    simp only [fzL, Bool.and_eq_true] at hf
    rw [h3, VR.fz d x P1 hf.1 h1, VRL.fz l xs' P2 hf.2 h2]
    rfl
end
theorem VRL.length : ∀ (l : List D) (xs : List V) (P : List Addr), VRL K F H l xs P → xs.length = l.length
  | [], xs, P, h => by simp only [VRL] at h; rw [h.1]; rfl
  | d :: l, xs, P, h => by
    simp only [VRL] at h
    obtain ⟨x, xs', P1, P2, e, h1, h2, h3⟩ := h
    rw [e, List.length_cons, List.length_cons, VRL.length l xs' P2 h2]
theorem VRL.get : ∀ {l : List D} {xs : List V} {P : List Addr} {i : Nat} {d : D}, VRL K F H l xs P → l[i]? = some d → ∃ x Px, xs[i]? = some x ∧ VR K F H d x Px ∧ Px.Sublist P
  | [], xs, P, i, d, h, e => by simp at e
  | d0 :: l, xs, P, 0, d, h, e => by
    simp only [VRL] at h
    obtain ⟨x, xs', P1, P2, e1, h1, h2, h3⟩ := h
    simp at e
    subst e
    exact ⟨x, P1, by rw [e1]; rfl, h1, by rw [h3]; exact List.sublist_append_left _ _⟩
  | d0 :: l, xs, P, i + 1, d, h, e => by
    simp only [VRL] at h
    obtain ⟨x, xs', P1, P2, e1, h1, h2, h3⟩ := h
    obtain ⟨y, Py, q1, q2, q3⟩ := VRL.get (i := i) h2 (by simpa using e)
    exact ⟨y, Py, by rw [e1]; simpa using q1, q2, by rw [h3]; exact q3.trans (List.sublist_append_right _ _)⟩
theorem VRL.app : ∀ {l l2 : List D} {xs ys : List V} {P P2 : List Addr}, VRL K F H l xs P → VRL K F H l2 ys P2 → VRL K F H (l ++ l2) (xs ++ ys) (P ++ P2)
  | [], l2, xs, ys, P, P2, h, h2 => by
    simp only [VRL] at h
    rw [h.1, h.2]
    exact h2
  | d :: l, l2, xs, ys, P, P2, h, h2 => by
    simp only [VRL] at h
    obtain ⟨x, xs', Q1, Q2, e, h1, h3, h4⟩ := h
    show VRL K F H (d :: (l ++ l2)) (xs ++ ys) (P ++ P2)
    simp only [VRL]
    exact ⟨x, xs' ++ ys, Q1, Q2 ++ P2, by rw [e]; rfl, h1, VRL.app h3 h2, by rw [h4, List.append_assoc]⟩
theorem VRL.one {d : D} {v : V} (h : VR K F H d v P) : VRL K F H [d] [v] P := by
  simp only [VRL]
  exact ⟨v, [], P, [], rfl, h, ⟨rfl, rfl⟩, by simp⟩
/-- one item exchanged -/
theorem VRL.set : ∀ {l : List D} {xs : List V} {P Q : List Addr} {i : Nat} {d : D} {v : V}, VRL K F H l xs P → VR K F H d v Q → i < l.length → ∃ P', VRL K F H (l.set i d) (xs.set i v) P' ∧ (∀ a ∈ P', a ∈ P ++ Q) ∧ ∀ R : List Addr, (R ++ (P ++ Q)).Nodup → (R ++ P').Nodup
  | [], xs, P, Q, i, d, v, h, hq, hi => by simp at hi
  | d0 :: l, xs, P, Q, 0, d, v, h, hq, hi => by
    simp only [VRL] at h
    obtain ⟨x, xs', P1, P2, e1, h1, h2, h3⟩ := h
    subst e1 h3
    refine ⟨Q ++ P2, ?_, fun a ha => ?_, fun R hn => ?_⟩
    · show VRL K F H (d :: l) (v :: xs') (Q ++ P2)
      simp only [VRL]
      exact ⟨v, xs', Q, P2, rfl, hq, h2, rfl⟩
    · simp only [List.mem_append] at ha ⊢
      rcases ha with z | z
      · exact .inr z
      · exact .inl (.inr z)
    · have e : (R ++ ((P1 ++ P2) ++ Q)).Perm (R ++ (P1 ++ (Q ++ P2))) := by
        apply List.Perm.append_left
        rw [List.append_assoc]
        exact List.Perm.append_left _ List.perm_append_comm
      have hn2 := e.nodup_iff.mp hn
      exact (List.Sublist.append_left (List.sublist_append_right P1 (Q ++ P2)) R).nodup hn2
  | d0 :: l, xs, P, Q, i + 1, d, v, h, hq, hi => by
    simp only [VRL] at h
    obtain ⟨x, xs', P1, P2, e1, h1, h2, h3⟩ := h
    subst e1 h3
    obtain ⟨P', q1, q0, q2⟩ := VRL.set (i := i) h2 hq (by simpa using hi)
    refine ⟨P1 ++ P', ?_, fun a ha => ?_, fun R hn => ?_⟩
    · show VRL K F H (d0 :: l.set i d) (x :: xs'.set i v) (P1 ++ P')
      simp only [VRL]
      exact ⟨x, _, P1, P', rfl, h1, q1, rfl⟩
    · rcases List.mem_append.mp ha with z | z
      · simp [z]
      · have := q0 a z
        simp only [List.mem_append] at this ⊢
        rcases this with z | z
        · exact .inl (.inr z)
        · exact .inr z
    · have r1 := q2 (R ++ P1) (by rw [List.append_assoc, ← List.append_assoc P1]; exact hn)
      rw [← List.append_assoc]
      exact r1
end
end Co

set_option maxRecDepth 100000
/-! Core3: slots, results, readings from the evaluator -/
namespace Co
open PySem PySem.Spec PyProof.Rows L2

section
variable {K : PySem.W.Frag} {F F' F2 : Addr → Prop} {H H' H2 : Hp} {O O' O2 P P' : List Addr} {ρ ρ' : Env} {σ σ' : L2.St}
theorem S1.stp (w : Wd F H O) (s : Stp F H O F' H' O') {sl : Sl} {ov : Option V} (hp : ∀ a ∈ P, a ∉ O) (h : S1 K F H sl ov P) : S1 K F' H' sl ov P := by
  cases sl with
  | no => exact h
  | v d => obtain ⟨v, e, h⟩ := h; exact ⟨v, e, VR.stp w s d v P hp h⟩
  | bo d => obtain ⟨v, e, h⟩ := h; exact ⟨v, e, VR.stp w s d v P hp h⟩
  | lk d => obtain ⟨v, e, h⟩ := h; exact ⟨v, e, VR.stp w s d v P hp h⟩
theorem SR.stp (w : Wd F H O) (s : Stp F H O F' H' O') : ∀ {ρ : Env} {σ : List (Option V)} {P : List Addr}, (∀ a ∈ P, a ∉ O) → SR K F H ρ σ P → SR K F' H' ρ σ P
  | [], _, _, _, h => h
  | sl :: ρ, σ, P, hp, h => by
    obtain ⟨ov, σ', O1, O2, e, h1, h2, e2⟩ := h
    subst e2
    exact ⟨ov, σ', O1, O2, e, S1.stp w s (fun a z => hp a (List.mem_append_left _ z)) h1, SR.stp w s (fun a z => hp a (List.mem_append_right _ z)) h2, rfl⟩
theorem SR.length : ∀ {ρ : Env} {σ : List (Option V)} {O : List Addr}, SR K F H ρ σ O → σ.length = ρ.length
  | [], _, _, h => by rw [h.1]; rfl
  | sl :: ρ, σ, O, h => by
    obtain ⟨ov, σ', O1, O2, e, h1, h2, e2⟩ := h
    rw [e, List.length_cons, List.length_cons, SR.length h2]
/-- a slot's content taken out -/
theorem SR.take : ∀ {ρ : Env} {σ : List (Option V)} {O : List Addr} {i : Nat} {s : Sl}, SR K F H ρ σ O → ρ[i]? = some s →
    ∃ ov P O', σ[i]? = some ov ∧ S1 K F H s ov P ∧ SR K F H (ρ.set i .no) σ O' ∧ O.Perm (O' ++ P)
  | [], _, _, _, _, _, e => by simp at e
  | sl :: ρ, σ, O, 0, s, h, e => by
    obtain ⟨ov, σ', O1, O2, e1, h1, h2, e2⟩ := h
    simp at e
    subst e
    exact ⟨ov, O1, O2, by rw [e1]; rfl, h1, ⟨ov, σ', [], O2, e1, rfl, h2, rfl⟩, by rw [e2]; exact List.perm_append_comm⟩
  | sl :: ρ, σ, O, i + 1, s, h, e => by
    obtain ⟨ov, σ', O1, O2, e1, h1, h2, e2⟩ := h
    obtain ⟨ov', P, O', q1, q2, q3, q4⟩ := SR.take (i := i) h2 (by simpa using e)
    refine ⟨ov', P, O1 ++ O', by rw [e1]; simpa using q1, q2, ⟨ov, σ', O1, O', e1, h1, q3, rfl⟩, ?_⟩
    rw [e2, List.append_assoc]
    exact q4.append_left O1
/-- .. put in -/
theorem SR.put : ∀ {ρ : Env} {σ : List (Option V)} {O : List Addr} {i : Nat} {s : Sl} {ov : Option V} {P : List Addr}, SR K F H ρ σ O → ρ[i]? = some .no → S1 K F H s ov P →
    ∃ O', SR K F H (ρ.set i s) (σ.set i ov) O' ∧ O'.Perm (O ++ P)
  | [], _, _, _, _, _, _, _, e, _ => by simp at e
  | sl :: ρ, σ, O, 0, s, ov, P, h, e, hs => by
    obtain ⟨ov0, σ', O1, O2, e1, h1, h2, e2⟩ := h
    simp at e
    subst e
    have z : O1 = [] := h1
    subst z
    exact ⟨P ++ O2, ⟨ov, σ', P, O2, by rw [e1]; rfl, hs, h2, rfl⟩, by rw [e2]; exact List.perm_append_comm⟩
  | sl :: ρ, σ, O, i + 1, s, ov, P, h, e, hs => by
    obtain ⟨ov0, σ', O1, O2, e1, h1, h2, e2⟩ := h
    obtain ⟨O', q1, q2⟩ := SR.put (i := i) h2 (by simpa using e) hs
    refine ⟨O1 ++ O', ⟨ov0, σ'.set i ov, O1, O', by rw [e1]; rfl, h1, q1, rfl⟩, ?_⟩
    rw [e2, List.append_assoc]
    exact q2.append_left O1
theorem set_same {α : Type} : ∀ {l : List α} {i : Nat} {x : α}, l[i]? = some x → l.set i x = l
  | [], _, _, e => by simp at e
  | y :: l, 0, x, e => by simp at e; subst e; rfl
  | y :: l, i + 1, x, e => by
    show y :: l.set i x = y :: l
    rw [set_same (by simpa using e)]
theorem set_set {α : Type} (l : List α) (i : Nat) (x y : α) : (l.set i x).set i y = l.set i y := List.set_set ..
theorem get_set_same {α : Type} {l : List α} {i : Nat} {x y : α} (h : l[i]? = some y) : (l.set i x)[i]? = some x := by
  have : i < l.length := (List.getElem?_eq_some_iff.mp h).1
  rw [List.getElem?_set_self this]

/-- flavours are kept -/
structure Kp (ρ ρ' : Env) : Prop where
  len : ρ'.length = ρ.length
  bo : ∀ (i : Nat) (d : D), ρ[i]? = some (Sl.bo d) → ∃ d' : D, ρ'[i]? = some (Sl.bo d')
  lk : ∀ (i : Nat) (d : D), ρ[i]? = some (Sl.lk d) → ρ'[i]? = some (Sl.lk d)
theorem Kp.refl : Kp ρ ρ := ⟨rfl, fun _ d h => ⟨d, h⟩, fun _ _ h => h⟩
theorem Kp.trans {ρ2 : Env} (a : Kp ρ ρ') (b : Kp ρ' ρ2) : Kp ρ ρ2 := ⟨b.len.trans a.len, fun i d h => let ⟨d', e⟩ := a.bo i d h; b.bo i d' e, fun i d h => b.lk i d (a.lk i d h)⟩
theorem Kp.set {i : Nat} {s s' : Sl} (h : ρ[i]? = some s) (hb : ∀ d, s = .bo d → ∃ d', s' = .bo d') (hl : ∀ d, s = .lk d → s' = .lk d) : Kp ρ (ρ.set i s') := by
  refine ⟨List.length_set .., fun j d e => ?_, fun j d e => ?_⟩
  · by_cases hj : i = j
    · subst hj
      rw [h] at e
      obtain ⟨d', q⟩ := hb d (Option.some.inj e)
      exact ⟨d', by rw [get_set_same h, q]⟩
    · exact ⟨d, by rw [List.getElem?_set_ne hj]; exact e⟩
  · by_cases hj : i = j
    · subst hj
      rw [h] at e
      rw [get_set_same h, hl d (Option.some.inj e)]
    · rw [List.getElem?_set_ne hj]; exact e
/-- pinned slots stand -/
def Pin (ρ : Env) (i : Nat) : Prop := (∃ d, ρ[i]? = some (Sl.bo d)) ∨ ∃ d, ρ[i]? = some (Sl.lk d)
def Ks (ρ : Env) (σ σ' : List (Option V)) : Prop := ∀ i, Pin ρ i → σ'[i]? = σ[i]?
theorem Kp.pin (k : Kp ρ ρ') {i : Nat} (h : Pin ρ i) : Pin ρ' i := by
  rcases h with ⟨d, h⟩ | ⟨d, h⟩
  · obtain ⟨d', e⟩ := k.bo i d h; exact .inl ⟨d', e⟩
  · exact .inr ⟨d, k.lk i d h⟩
theorem Ks.refl : Ks ρ σ σ := fun _ _ => rfl
theorem Ks.trans {σ2 : L2.St} (k : Kp ρ ρ') (a : Ks ρ σ σ') (b : Ks ρ' σ' σ2) : Ks ρ σ σ2 := fun i h => (b i (k.pin h)).trans (a i h)

/-- what a target names -/
def tgts : C → List Nat
  | .tnm i => [i]
  | .ttup ts => tgts ts
  | .cons a r => tgts a ++ tgts r
  | _ => []
/-- slots but those of L stand -/
structure Ag (L : List Nat) (σ σ' : List (Option V)) : Prop where
  len : σ'.length = σ.length
  at_ : ∀ j, j ∉ L → σ'[j]? = σ[j]?
theorem Ag.refl {L : List Nat} : Ag L σ σ := ⟨rfl, fun _ _ => rfl⟩
/-- results -/
def RR (K : PySem.W.Frag) (F : Addr → Prop) (H : Hp) (σ : L2.St) : R → V → List Addr → Prop
  | .d d, v, P => VR K F H d v P
  | .pl i, v, P => σ[i]? = some (some v) ∧ P = []
def RRL (K : PySem.W.Frag) (F : Addr → Prop) (H : Hp) (σ : L2.St) : List R → List V → List Addr → Prop
  | [], xs, P => xs = [] ∧ P = []
  | r :: rs, xs, P => ∃ x xs' P1 P2, xs = x :: xs' ∧ RR K F H σ r x P1 ∧ RRL K F H σ rs xs' P2 ∧ P = P1 ++ P2
theorem RR.stp (w : Wd F H O) (s : Stp F H O F' H' O') {r : R} {v : V} (hp : ∀ a ∈ P, a ∉ O) (h : RR K F H σ r v P) : RR K F' H' σ r v P := by
  cases r with
  | d d => exact VR.stp w s d v P hp h
  | pl i => exact h
/-- the two parts of what is owned -/
theorem Wd.join (w1 : Wd F H (O ++ P)) (s : Stp F H O F' H' O') (w2 : Wd F' H' O') : Wd F' H' (O' ++ P) := by
  have dis : ∀ a ∈ P, a ∉ O' := fun a ha hb => by
    rcases s.ow a hb with z | z
    · exact w1.apart a ha z
    · obtain ⟨xs, e⟩ := w1.ls a (List.mem_append_right _ ha)
      rw [e] at z; cases z
  have keep : ∀ a ∈ P, ∃ xs, H' a = some (.lst xs) := fun a ha => by
    obtain ⟨xs, e⟩ := w1.ls a (List.mem_append_right _ ha)
    exact ⟨xs, s.fr a _ e (w1.apart a ha)⟩
  refine ⟨List.nodup_append.mpr ⟨w2.nd, w1.right.nd, fun a ha b hb e => dis b hb (e ▸ ha)⟩, fun a ha => ?_, fun a ha => ?_, w2.ft⟩
  · rcases List.mem_append.mp ha with z | z
    · exact w2.nf a z
    · intro q
      rcases s.nw a q with y | y | y
      · exact w1.nf a (List.mem_append_right _ z) y
      · exact w1.apart a z y
      · obtain ⟨xs, e⟩ := w1.ls a (List.mem_append_right _ z)
        rw [e] at y; cases y
  · rcases List.mem_append.mp ha with z | z
    · exact w2.ls a z
    · exact keep a z
theorem perm3 {A B C' : List Addr} : ((A ++ B) ++ C').Perm (A ++ (C' ++ B)) := by
  rw [List.append_assoc]
  exact List.Perm.append_left A List.perm_append_comm
/-- a step, then a second one beside what the first has made -/
theorem Stp.two {O1 P1 P2 : List Addr} {F1 : Addr → Prop} {H1 : Hp} (a : Stp F H O F1 H1 (O1 ++ P1)) (b : Stp F1 H1 O1 F2 H2 (O2 ++ P2)) : Stp F H O F2 H2 (O2 ++ (P1 ++ P2)) :=
  (a.trans b.more).sub fun x hx => perm3.symm.subset hx
theorem Wd.two {O1 P1 P2 : List Addr} {F1 : Addr → Prop} {H1 : Hp} (w1 : Wd F1 H1 (O1 ++ P1)) (b : Stp F1 H1 O1 F2 H2 (O2 ++ P2)) (w2 : Wd F2 H2 (O2 ++ P2)) : Wd F2 H2 (O2 ++ (P1 ++ P2)) :=
  (w1.join b w2).perm perm3
/-- something new, nothing changed -/
theorem fin_new {P3 : List Addr} {H3 : Hp} {ρ2 : Env} (w : Wd F2 H2 O2) (sr : SR K F2 H2 ρ2 σ O2) (s : Stp F2 H2 [] F2 H3 P3) (w3 : Wd F2 H3 P3) :
    SR K F2 H3 ρ2 σ O2 ∧ Wd F2 H3 (O2 ++ P3) ∧ Stp F2 H2 O2 F2 H3 (O2 ++ P3) := by
  have w0 : Wd F2 H2 ([] ++ O2) := w
  have j := w0.join s w3
  refine ⟨SR.stp (O := []) (O' := P3) ⟨List.nodup_nil, fun _ z => (nomatch z), fun _ z => (nomatch z), w.ft⟩ s (fun _ _ z => (nomatch z)) sr, j.perm List.perm_append_comm, ?_⟩
  have m := s.more (P := O2)
  exact m.sub fun x hx => List.perm_append_comm.subset hx
end

/-! ### readings from the evaluator -/
section
variable (K : PySem.W.Frag) (Φ : Nat → List Sl → Option (D × List Sl)) (wf : Nat)
def tE (c : C) : TE := fun σ H Q => ∃ F ρ O r ρ', SR K F H ρ σ O ∧ Wd F H O ∧ evE Φ wf c ρ = some (r, ρ') ∧
  ∀ v F' H' O' P, Stp F H O F' H' (O' ++ P) → SR K F' H' ρ' σ O' → RR K F' H' σ r v P → Wd F' H' (O' ++ P) → Kp ρ ρ' → Q v H'
def tA (c : C) : TA := fun σ H Q => ∃ F ρ O rs ρ', SR K F H ρ σ O ∧ Wd F H O ∧ evA Φ wf c ρ = some (rs, ρ') ∧
  ∀ vs F' H' O' P, Stp F H O F' H' (O' ++ P) → SR K F' H' ρ' σ O' → RRL K F' H' σ rs vs P → Wd F' H' (O' ++ P) → Kp ρ ρ' → Q vs H'
def tT (c : C) : TT := fun σ H Q => ∃ F ρ O b ρ', SR K F H ρ σ O ∧ Wd F H O ∧ evT Φ wf c ρ = some (b, ρ') ∧
  ∀ F' H' O', Stp F H O F' H' O' → SR K F' H' ρ' σ O' → Wd F' H' O' → Kp ρ ρ' → Q b H'
def tO (c : C) : L2.TO := fun σ H Q => ∃ F ρ O o ρ', SR K F H ρ σ O ∧ Wd F H O ∧ evO Φ wf c ρ = some (o, ρ') ∧
  ∀ F' H' O', Stp F H O F' H' O' → SR K F' H' ρ' σ O' → Wd F' H' O' → Kp ρ ρ' → Q o H'
/-- behind a statement -/
def Post (ρ : Env) (F : Addr → Prop) (H : Hp) (O : List Addr) (σ : L2.St) (D : Ends) : Out → Prop
  | .nx ρ' => ∀ σ' F' H' O', Stp F H O F' H' O' → SR K F' H' ρ' σ' O' → Wd F' H' O' → Kp ρ ρ' → Ks ρ σ σ' → D.nx σ' H'
  | .bk ρ' => ∀ σ' F' H' O', Stp F H O F' H' O' → SR K F' H' ρ' σ' O' → Wd F' H' O' → Kp ρ ρ' → Ks ρ σ σ' → D.bk σ' H'
  | .ct ρ' => ∀ σ' F' H' O', Stp F H O F' H' O' → SR K F' H' ρ' σ' O' → Wd F' H' O' → Kp ρ ρ' → Ks ρ σ σ' → D.ct σ' H'
  | .rt d ρ' => ∀ σ' v F' H' O' P, Stp F H O F' H' (O' ++ P) → SR K F' H' ρ' σ' O' → VR K F' H' d v P → Wd F' H' (O' ++ P) → Kp ρ ρ' → Ks ρ σ σ' → D.rt v H'
def tS (c : C) : TS := fun D σ H => ∃ F ρ O o, SR K F H ρ σ O ∧ Wd F H O ∧ evS Φ wf c ρ = some o ∧ Post K ρ F H O σ D o
def tBk (c : C) : TS := fun D σ H => ∃ F ρ O o, SR K F H ρ σ O ∧ Wd F H O ∧ evB Φ wf c ρ = some o ∧ Post K ρ F H O σ D o
/-- a target: the value beside the slots -/
def tG (c : C) : TG := fun v σ H Q => ∃ F ρ O P d ρ', SR K F H ρ σ O ∧ VR K F H d v P ∧ Wd F H (O ++ P) ∧ evG Φ wf c d ρ = some ρ' ∧
  ∀ σ' F' H' O', Stp F H (O ++ P) F' H' O' → SR K F' H' ρ' σ' O' → Wd F' H' O' → Kp ρ ρ' → Ks ρ σ σ' → Ag (tgts c) σ σ' → Q σ' H'
def tGs (c : C) : TGs := fun vs σ H Q => ∃ F ρ O P ds ρ', SR K F H ρ σ O ∧ VRL K F H ds vs P ∧ Wd F H (O ++ P) ∧ evGs Φ wf c ds ρ = some ρ' ∧
  ∀ σ' F' H' O', Stp F H (O ++ P) F' H' O' → SR K F' H' ρ' σ' O' → Wd F' H' O' → Kp ρ ρ' → Ks ρ σ σ' → Ag (tgts c) σ σ' → Q σ' H'
end

section
variable {X : Cx} {Φ : Nat → List Sl → Option (D × List Sl)} {wf : Nat}
theorem PE.weak {e : Expr} {t u : TE} (h : PE X e t) (w : ∀ σ H Q, u σ H Q → t σ H Q) : PE X e u := ⟨fun pins s σ H Q I q => h.run pins s σ H Q I (w σ H Q q)⟩
theorem PT.weak {e : Expr} {t u : TT} (h : PT X e t) (w : ∀ σ H Q, u σ H Q → t σ H Q) : PT X e u := ⟨fun pins s σ H Q I q => h.run pins s σ H Q I (w σ H Q q)⟩
theorem PW.weak {e : Expr} {t u : TT} (h : PW X e t) (w : ∀ σ H Q, u σ H Q → t σ H Q) : PW X e u := ⟨fun wh pins s σ H Q I q => h.run wh pins s σ H Q I (w σ H Q q)⟩
theorem PA.weak {e : List Expr} {t u : TA} (h : PA X e t) (w : ∀ σ H Q, u σ H Q → t σ H Q) : PA X e u := ⟨fun pos pins s σ H Q I q => h.run pos pins s σ H Q I (w σ H Q q)⟩
theorem PS.weak {e : Stmt} {t u : TS} (h : PS X e t) (w : ∀ D σ H, u D σ H → t D σ H) : PS X e u := ⟨fun pins s σ H D I q => h.run pins s σ H D I (w D σ H q)⟩
theorem PSs.weak {e : List Stmt} {t u : TS} (h : PSs X e t) (w : ∀ D σ H, u D σ H → t D σ H) : PSs X e u := ⟨fun pins s σ H D I q => h.run pins s σ H D I (w D σ H q)⟩
theorem PG.weak {e : Expr} {t u : TG} (h : PG X e t) (w : ∀ v σ H Q, u v σ H Q → t v σ H Q) : PG X e u := ⟨fun pins s σ H v us Q I r q => h.run pins s σ H v us Q I r (w v σ H Q q)⟩
theorem PGs.weak {e : List Expr} {t u : TGs} (h : PGs X e t) (w : ∀ v σ H Q, u v σ H Q → t v σ H Q) : PGs X e u := ⟨fun pins s σ H v us Q I r q => h.run pins s σ H v us Q I r (w v σ H Q q)⟩
theorem some_bind {α β : Type} {o : Option α} {f : α → Option β} {b : β} (h : o.bind f = some b) : ∃ a, o = some a ∧ f a = some b := by
  cases o with
  | none => cases h
  | some a => exact ⟨a, rfl, h⟩
/-- two expressions, one behind the other -/
theorem two {ca cb : C} {K : PySem.W.Frag} {F : Addr → Prop} {H : Hp} {O : List Addr} {ρ ρ1 ρ2 : Env} {σ : L2.St} {ra rb : R} {R2 : V → V → Hp → Prop}
    (sr : SR K F H ρ σ O) (wd : Wd F H O) (ea : evE Φ wf ca ρ = some (ra, ρ1)) (eb : evE Φ wf cb ρ1 = some (rb, ρ2))
    (k : ∀ x y F2 H2 O2 Pa Pb, Stp F H O F2 H2 (O2 ++ (Pa ++ Pb)) → SR K F2 H2 ρ2 σ O2 → RR K F2 H2 σ ra x Pa → RR K F2 H2 σ rb y Pb → Wd F2 H2 (O2 ++ (Pa ++ Pb)) → Kp ρ ρ2 → R2 x y H2) :
    tE K Φ wf ca σ H fun x H1 => tE K Φ wf cb σ H1 fun y H2 => R2 x y H2 :=
  ⟨F, ρ, O, ra, ρ1, sr, wd, ea, fun x F1 H1 O1 P1 st1 sr1 rr1 wd1 kp1 => ⟨F1, ρ1, O1, rb, ρ2, sr1, wd1.left, eb, fun y F2 H2 O2 P2 st2 sr2 rr2 wd2 kp2 =>
    k x y F2 H2 O2 P1 P2 (st1.two st2) sr2 (RR.stp wd1.left st2 wd1.apart rr1) rr2 (wd1.two st2 wd2) (kp1.trans kp2)⟩⟩
/-- what is read -/
theorem rd_ok {K : PySem.W.Frag} {F : Addr → Prop} {H : Hp} {O P : List Addr} {ρ : Env} {σ : L2.St} {r : R} {v : V} {d : D} (sr : SR K F H ρ σ O) (h : RR K F H σ r v P) (e : rd ρ r = some d) : ∃ P', VR K F H d v P' := by
  cases r with
  | d d0 => cases e; exact ⟨P, h⟩
  | pl i =>
    obtain ⟨e1, _⟩ := h
    have e : (ρ[i]?).bind Sl.cont = some d := e
    obtain ⟨s, e2, e3⟩ := some_bind e
    obtain ⟨ov, P', O', q1, q2, _, _⟩ := SR.take sr e2
    rw [e1] at q1
    cases s with
    | no => cases e3
    | v d1 => cases e3; obtain ⟨w, z, q⟩ := q2; cases q1; cases z; exact ⟨P', q⟩
    | bo d1 => cases e3; obtain ⟨w, z, q⟩ := q2; cases q1; cases z; exact ⟨P', q⟩
    | lk d1 => cases e3; obtain ⟨w, z, q⟩ := q2; cases q1; cases z; exact ⟨P', q⟩
theorem rds_ok {K : PySem.W.Frag} {F : Addr → Prop} {H : Hp} {O : List Addr} {ρ : Env} {σ : L2.St} (sr : SR K F H ρ σ O) : ∀ {rs : List R} {vs : List V} {P : List Addr} {ds : List D}, RRL K F H σ rs vs P → rds ρ rs = some ds → ∃ P', VRL K F H ds vs P'
  | [], vs, P, ds, h, e => by cases e; exact ⟨[], by unfold VRL; exact ⟨h.1, rfl⟩⟩
  | r :: rs, vs, P, ds, h, e => by
    obtain ⟨x, xs', P1, P2, e1, h1, h2, h3⟩ := h
    obtain ⟨d, q1, q2⟩ := some_bind (show (rd ρ r).bind _ = some ds from e)
    cases hh : rds ρ rs with
    | none => rw [hh] at q2; cases q2
    | some dt =>
      rw [hh] at q2
      cases q2
      obtain ⟨Pa, ha⟩ := rd_ok sr h1 q1
      obtain ⟨Pb, hb⟩ := rds_ok sr h2 hh
      exact ⟨Pa ++ Pb, by simp only [VRL]; exact ⟨x, xs', Pa, Pb, e1, ha, hb, rfl⟩⟩
theorem vals_ok {K : PySem.W.Frag} {F : Addr → Prop} {H : Hp} {σ : L2.St} : ∀ {rs : List R} {vs : List V} {P : List Addr} {ds : List D}, RRL K F H σ rs vs P → vals rs = some ds → VRL K F H ds vs P
  | [], vs, P, ds, h, e => by cases e; simp only [VRL]; exact h
  | .pl i :: rs, vs, P, ds, h, e => by cases e
  | .d d :: rs, vs, P, ds, h, e => by
    obtain ⟨x, xs', P1, P2, e1, h1, h2, h3⟩ := h
    cases hh : vals rs with
    | none => rw [show vals (.d d :: rs) = (vals rs).map (d :: ·) from rfl, hh] at e; cases e
    | some dt =>
      rw [show vals (.d d :: rs) = (vals rs).map (d :: ·) from rfl, hh] at e
      cases e
      simp only [VRL]
      exact ⟨x, xs', P1, P2, e1, h1, vals_ok h2 hh, h3⟩
end
end Co

set_option maxRecDepth 100000
/-! Core3T: tuples that are made: the object is known -/
namespace Co
open PySem PySem.Spec PyProof.Rows L2
/-- a tuple is new at p -/
def Tn (H : Hp) (xs : List V) (Q : VK) : Prop := ∀ p o, Obj.dict o = none → H p = none → Q (.ref p) (upd H p (.frz o (.tup xs)))
section
variable {X : Cx} {pins : List (Addr × Obj)} {σ : L2.St} {H : Hp} {s : Shared} {xs : List V} {us : List Value} {Q : VK}
theorem tn_push (I : Inv X pins σ H s) (r : Vals xs us) (hz : xs.length ≤ sizeLine) (q : Tn H xs Q) :
    EP X pins σ Q (.ref s.heap.objs.size) { s with heap := s.heap.push { cls := .type "tuple", data := .seq us.toArray } } :=
  ⟨.ref s.heap.objs.size, _, I.laid (t' := s.toks) (o := .frz { cls := .type "tuple", data := .seq us.toArray } (.tup xs)) (fun b ob q => Heap.get?_push_of_some _ q) (Nat.le_refl _)
    ⟨Heap.get?_push_size _ rfl, hz, us, r, IsTup.new _ _⟩, rfl, q _ { cls := .type "tuple", data := .seq us.toArray } rfl (I.hok.fresh (Nat.le_refl _))⟩
end
section
variable {X : Cx} {es : List Expr} {t : TA} {pos : Pos}
def tTupF (t : TA) : TE := fun σ H Q => t σ H fun xs H1 => xs.length ≤ sizeLine ∧ Tn H1 xs Q
theorem pe_tupF {x1} (h : PA X es t) : PE X (.Tuple es x1 pos) (tTupF t) := by
  refine ⟨fun pins s σ H Q I hq => ?_⟩
  exact wpAny_Tuple_spliced (thn (h.run pos pins s σ H _ I hq) fun us s1 ⟨xs, H1, I1, r, z, q⟩ => ⟨by rw [← r.length]; exact z, tn_push I1 r z q⟩)
def rCatF (K : PySem.W.Frag) : R2 := fun x y H Q => ∃ a b xs ys, x = .ref a ∧ y = .ref b ∧ SqT K H a xs ∧ SqT K H b ys ∧ xs.length + ys.length ≤ sizeLine ∧
  (xs = [] → Q (.ref b) H) ∧ (xs ≠ [] → ys = [] → Q (.ref a) H) ∧ (xs ≠ [] → ys ≠ [] → Tn H (xs ++ ys) Q)
theorem op_catF : OpR X (binaryOp .Add) (rCatF X.K) := by
  intro pins s σ H x y v u Q I rx ry h
  obtain ⟨a, b, xs, ys, rfl, rfl, ha, hb, hz, q0, q1, q2⟩ := h
  cases rx
  cases ry
  obtain ⟨its, r1, p1, _⟩ := I.tuple ha
  obtain ⟨its2, r2, p2, _⟩ := I.tuple hb
  by_cases hx : xs = []
  · subst hx
    cases r1
    exact cat_tup0 p1 p2 ⟨.ref b, H, I, rfl, q0 rfl⟩
  · refine HT.cat_tup p1 p2 (fun z => hx (r1.nil_iff.mp z)) (fun z => ⟨.ref a, H, I, rfl, q1 hx (r2.nil_iff.mp z)⟩) (fun z => ?_) (by rw [← r1.length, ← r2.length]; exact hz)
    exact tn_push I (r1.append r2) (by rw [List.length_append]; exact hz) (q2 hx fun w => z (r2.nil_iff.mpr w))
def rSlF (K : PySem.W.Frag) : V → Option Int → Option Int → Hp → VK → Prop := fun x lo hi H Q => ∃ a xs, x = .ref a ∧ SqT K H a xs ∧
  (HT.sIx xs.length 0 lo = 0 ∧ HT.sIx xs.length xs.length hi = xs.length → Q (.ref a) H) ∧ (¬ (HT.sIx xs.length 0 lo = 0 ∧ HT.sIx xs.length xs.length hi = xs.length) → Tn H (cutV xs lo hi) Q)
theorem sl_tupF : SlR X (rSlF X.K) := by
  intro pins s σ H x v vl vu lo hi sl Q I rx hs pl pu h
  obtain ⟨a, xs, rfl, hx, q1, q2⟩ := h
  by_cases hw : HT.sIx xs.length 0 lo = 0 ∧ HT.sIx xs.length xs.length hi = xs.length
  · exact sl_tupA pins s σ H _ v vl vu lo hi sl Q I rx hs pl pu ⟨a, xs, rfl, hx, q1, fun z => absurd hw z⟩
  · cases rx
    obtain ⟨its, r, ht, hz⟩ := I.tuple hx
    have hlen : its.toArray.size = xs.length := by rw [List.size_toArray]; exact r.length.symm
    refine ⟨"tuple", _, PyProof.Rows.slot_tuple_getitem.lookup, ht.typeIs, ?_⟩
    refine HT.getItem_tuple_cut ht hs pl pu (by rw [hlen]; exact hw) ?_ (by rw [hlen]; exact hz)
    rw [hlen]
    exact tn_push I ((r.drop (HT.sIx xs.length 0 lo)).take (HT.sIx xs.length xs.length hi - HT.sIx xs.length 0 lo)) (Nat.le_trans (cutV_length xs lo hi) hz) (q2 hw)
theorem call_tupleF : CallR X (.type "tuple") (fun xs H Q => ∃ p ys, xs = [.ref p] ∧ ((SqL X.K H p ys ∧ Tn H ys Q) ∨ (SqT X.K H p ys ∧ Q (.ref p) H))) := by
  intro pins s σ H xs us Q I r h
  obtain ⟨p, ys, rfl, h⟩ := h
  rcases h with ⟨hq, q⟩ | ⟨hq, q⟩
  · obtain ⟨u, rfl, rx⟩ := vals1 r
    cases rx
    obtain ⟨its, r', pl, hz⟩ := I.list hq
    have hlen := r'.length
    refine call_tuple_list pl.isList (fun h' kp => ?_) (by simp only [List.size_toArray] <;> omega)
    exact tn_push (s := { s with heap := h' }) (I.kept (t' := s.toks) kp) r' hz q
  · exact call_tuple_of pins s σ H _ us Q I r ⟨p, ys, rfl, .inr ⟨hq, q⟩⟩
/-! x.index(y): x a tuple that was made here -/
def tyF (x : V) (H : Hp) : Prop := ∃ a xs, x = .ref a ∧ TuF H a xs
variable {o e : Expr} {to : TE} {name : Str} {apos cpos : Pos} {id : String} {r : V → List V → Hp → VK → Prop}
def tBMF (r : V → List V → Hp → VK → Prop) (to : TE) (t : TA) : TE := fun σ H Q => to σ H fun x H1 => tyF x H1 ∧ t σ H1 fun xs H2 => r x xs H2 Q
theorem pe_bmF (slot : Slot "tuple" name id) (hty : typeOf (.builtin id) = pure (.type "method_descriptor")) (pa : PlainAttrs "tuple") (hm : MtR X id r) (ho : PE X o to) (ha : PA X (e :: es) t)
    (hbase : attributeBase o name X.env (eval o X.env) = eval o X.env := by rfl)
    (hfew : ((backTo cpos (starEach (e :: es) X.env)).all (fun x => !x.1) && (backToKw cpos (keywordEach [] X.env)).all (fun x => x.1.isSome)
      && decide ((e :: es).length + ([] : List Keyword).length + (if ([] : List Keyword).isEmpty then 0 else 1) < 30)) = true := by rfl)
    (hline : (apos.endLine == cpos.line) = true := by rfl) (hs : starEach (e :: es) X.env = (false, eval e X.env) :: starEach es X.env := by rfl) (hplain : (backTo cpos (starEach es X.env)).any (·.1) = false := by rfl) :
    PE X (.Call (.Attribute o name apos) (e :: es) [] cpos) (tBMF r to t) := by
  refine ⟨fun pins s σ H Q I h => ?_⟩
  refine wpAny_Call_method_late hbase hfew hline rfl (thn (ho.run pins s σ H _ I h) fun v s1 ⟨x, H1, I1, r1, ty, q1⟩ => ?_)
  obtain ⟨a, xs, rfl, o, ho2, hd⟩ := ty
  cases r1
  obtain ⟨hg, hz, its, rv, ob, hob, hc, _⟩ := I1.hok a _ ho2
  rw [hg] at hob
  cases hob
  refine ⟨"tuple", id, pa, slot, hty, ⟨_, hg, hc⟩, fun b eb => (by cases eb; exact ⟨_, hg, hd⟩), ?_⟩
  have hA := ha.run cpos pins s1 σ H1 _ I1 q1
  rw [hs] at hA ⊢
  refine Calls.callWith_builtin (by show (false || (backTo cpos (starEach es X.env)).any (·.1)) = false; rw [hplain] <;> rfl) (Calls.evalArgs_plain ?_)
  exact thn hA fun us s2 ⟨vs, H2, I2, r2, q2⟩ => hm pins s2 σ H2 _ vs _ us Q I2 (show RelV (.ref a) (.ref a) from rfl) r2 q2
/-- t.index(y), the first place; flat items -/
theorem mt_tupF : MtR X "tuple.index" (fun x xs H Q => ∃ a ys y j z, x = .ref a ∧ xs = [y] ∧ SqT X.K H a ys ∧ flatV y = true ∧ ys.all flatV = true ∧ ys[j]? = some z ∧ eqV z y = true ∧
    (∀ (m : Nat) (z' : V), m < j → ys[m]? = some z' → eqV z' y = false) ∧ Q (.int (j : Nat)) H) := by
  intro pins s σ H x xs v us Q I rx rxs h
  obtain ⟨a, ys, y, j, z, rfl, rfl, hq, fy, fys, hz, hzj, hno, q⟩ := h
  cases rx
  obtain ⟨uy, rfl, ry⟩ := vals1 rxs
  obtain ⟨its, rv, ⟨⟨cls, dd, dt, sl⟩, ho, hc, n, hd⟩, _⟩ := I.tuple hq
  simp only at hc hd
  subst hc hd
  have hvl := rv.length
  have at' : ∀ (m : Nat) (hm : m < its.toArray.size) (z' : V), ys[m]? = some z' → eqU y its.toArray[m] = eqV z' y := by
    intro m hm z' e
    obtain ⟨u, hu, ru⟩ := rv.get e
    have e1 : its.toArray[m] = u := by simpa using (List.getElem?_eq_some_iff.mp hu).2
    rw [e1]
    exact eqU_of ru (flat_at fys e)
  have hj : j < its.toArray.size := by
    have := (List.getElem?_eq_some_iff.mp hz).1
    simp only [List.size_toArray]
    omega
  refine call_meets PySem.F.slot_tuple_index ⟨_, ho, rfl⟩ PySem.F.entry_tuple_index (PySem.F.args_tuple_index_2 _ _) (_root_.TI.tuple_indexAt a its.toArray n dd sl uy (eqU y) j hj ?_ ?_)
    ⟨ho, fun w hw => mem_eqAt ry fy rv fys w (by simpa using hw), ⟨.int (j : Nat), H, I.tok _, ⟨_, rfl⟩, q⟩⟩
  · rw [at' j hj z hz]; exact hzj
  · intro m hm hmj
    have hml : m < ys.length := by
      simp only [List.size_toArray] at hm
      omega
    rw [at' m hm ys[m] (List.getElem?_eq_getElem hml)]
    exact hno m _ hmj (List.getElem?_eq_getElem hml)
theorem PE.or {e : Expr} {t u : TE} (h : PE X e t) (h2 : PE X e u) : PE X e (fun σ H Q => t σ H Q ∨ u σ H Q) := ⟨fun pins s σ H Q I q => by
  rcases q with q | q
  · exact h.run pins s σ H Q I q
  · exact h2.run pins s σ H Q I q⟩
end
end Co

set_option maxRecDepth 100000
set_option maxHeartbeats 1000000
/-! Core4: operations on values -/
namespace Co
open PySem PySem.Spec PyProof.Rows L2

theorem lim_eq : lim = sizeLine := by rw [sizeLine_eq]; rfl
section
variable {K : PySem.W.Frag} {F : Addr → Prop} {H : Hp} {O P : List Addr} {p : Addr} {xs : List V} {l : List D}
theorem wd_nil (h : ∀ a, F a → ∃ xs, H a = some (.lst xs)) : Wd F H [] := ⟨List.nodup_nil, fun _ z => (nomatch z), fun _ z => (nomatch z), h⟩
theorem stp_new {o : HO} (hp : H p = none) : Stp F H [] F (upd H p o) [p] :=
  ⟨fun a u e _ => by rw [upd_ne (ne_of_none e hp)]; exact e, fun _ h => h, fun a ha => by simp at ha; subst ha; exact .inr hp, fun _ h => .inl h⟩
theorem new_lst (w : Wd F H P) (hv : VRL K F H l xs P) (hp : H p = none) :
    Stp F H P F (upd H p (.lst xs)) (p :: P) ∧ VR K F (upd H p (.lst xs)) (.own l) (.ref p) (p :: P) ∧ Wd F (upd H p (.lst xs)) (p :: P) := by
  have s := stp_new (F := F) (o := .lst xs) hp
  have hv2 : VRL K F (upd H p (.lst xs)) l xs P := VRL.stp (wd_nil w.ft) s l xs P (fun _ _ z => (nomatch z)) hv
  refine ⟨(s.more (P := P)), ?_, ?_⟩
  · unfold VR
    exact ⟨p, xs, P, rfl, upd_same, hv2, rfl⟩
  · have j := Wd.join (O := []) (P := P) w s ⟨List.nodup_cons.mpr ⟨by simp, List.nodup_nil⟩, fun a ha => ?_, fun a ha => ?_, fun a ha => ?_⟩
    · exact j
    · simp at ha; subst ha
      intro z
      obtain ⟨ys, e⟩ := w.ft a z
      rw [hp] at e; cases e
    · simp at ha; subst ha
      exact ⟨xs, upd_same⟩
    · obtain ⟨ys, e⟩ := w.ft a ha
      exact ⟨ys, by rw [upd_ne (ne_of_none e hp)]; exact e⟩
theorem new_tup {o : Obj} (w : Wd F H P) (hv : VRL K F H l xs P) (hd : o.dict = none) (hp : H p = none) :
    Stp F H P F (upd H p (.frz o (.tup xs))) P ∧ VR K F (upd H p (.frz o (.tup xs))) (.tup l) (.ref p) P ∧ Wd F (upd H p (.frz o (.tup xs))) P := by
  have s : Stp F H P F (upd H p (.frz o (.tup xs))) P := ⟨fun a u e _ => by rw [upd_ne (ne_of_none e hp)]; exact e, fun _ h => h, fun a ha => .inl ha, fun _ h => .inl h⟩
  have s0 : Stp F H [] F (upd H p (.frz o (.tup xs))) [p] := stp_new hp
  have hv2 : VRL K F (upd H p (.frz o (.tup xs))) l xs P := VRL.stp (wd_nil w.ft) s0 l xs P (fun _ _ z => (nomatch z)) hv
  refine ⟨s, ?_, ⟨w.nd, w.nf, fun a ha => ?_, fun a ha => ?_⟩⟩
  · unfold VR
    exact ⟨p, xs, rfl, TuF.of upd_same hd, hv2⟩
  · obtain ⟨ys, e⟩ := w.ls a ha
    exact ⟨ys, by rw [upd_ne (ne_of_none e hp)]; exact e⟩
  · obtain ⟨ys, e⟩ := w.ft a ha
    exact ⟨ys, by rw [upd_ne (ne_of_none e hp)]; exact e⟩
theorem VR.seq {d : D} {v : V} (h : VR K F H d v P) (e : d.items = some l) : ∃ a xs P', v = .ref a ∧ (SqL K H a xs ∨ SqT K H a xs) ∧ VRL K F H l xs P' := by
  cases d with
  | tup l0 => cases e; unfold VR at h; obtain ⟨a, xs, q, h1, h2⟩ := h; exact ⟨a, xs, P, q, .inr h1.sq, h2⟩
  | lst l0 => cases e; unfold VR at h; obtain ⟨a, xs, q, h1, h2, h3, h4⟩ := h; exact ⟨a, xs, [], q, .inl (SqL.of h2), h3⟩
  | ro l0 => cases e; unfold VR at h; obtain ⟨a, xs, q, h1, h3, h4⟩ := h; exact ⟨a, xs, [], q, .inl h1.sq, h3⟩
  | own l0 => cases e; unfold VR at h; obtain ⟨a, xs, P', q, h1, h2, h3⟩ := h; exact ⟨a, xs, P', q, .inl (SqL.of h1), h2⟩
  | _ => cases e
theorem VR.seqF {d : D} {v : V} (h : VR K F H d v P) (e : d.items = some l) : ∃ a xs P', v = .ref a ∧ (SqL K H a xs ∨ TuF H a xs) ∧ VRL K F H l xs P' := by
  cases d with
  | tup l0 => cases e; unfold VR at h; obtain ⟨a, xs, q, h1, h2⟩ := h; exact ⟨a, xs, P, q, .inr h1, h2⟩
  | lst l0 => cases e; unfold VR at h; obtain ⟨a, xs, q, h1, h2, h3, h4⟩ := h; exact ⟨a, xs, [], q, .inl (SqL.of h2), h3⟩
  | ro l0 => cases e; unfold VR at h; obtain ⟨a, xs, q, h1, h3, h4⟩ := h; exact ⟨a, xs, [], q, .inl h1.sq, h3⟩
  | own l0 => cases e; unfold VR at h; obtain ⟨a, xs, P', q, h1, h2, h3⟩ := h; exact ⟨a, xs, P', q, .inl (SqL.of h1), h2⟩
  | _ => cases e
theorem VR.lstAt {d : D} {v : V} (h : VR K F H d v P) (e : d.isL = some l) : ∃ a xs P', v = .ref a ∧ H a = some (.lst xs) ∧ VRL K F H l xs P' := by
  cases d with
  | lst l0 => cases e; unfold VR at h; obtain ⟨a, xs, q, h1, h2, h3, h4⟩ := h; exact ⟨a, xs, [], q, h2, h3⟩
  | own l0 => cases e; unfold VR at h; obtain ⟨a, xs, P', q, h1, h2, h3⟩ := h; exact ⟨a, xs, P', q, h1, h2⟩
  | _ => cases e
end

/-- what is wanted of an operation's value -/
def Get (K : PySem.W.Frag) (F : Addr → Prop) (H : Hp) (z : D) (Q : VK) : Prop := ∀ v H' P, Stp F H [] F H' P → VR K F H' z v P → Wd F H' P → Q v H'
def Fl (F : Addr → Prop) (H : Hp) : Prop := ∀ a, F a → ∃ xs, H a = some (.lst xs)
section
variable {K : PySem.W.Frag} {F : Addr → Prop} {H : Hp} {Q : VK}
theorem Get.int {i : Int} (g : Get K F H (.int i) Q) (f : Fl F H) : Q (.int i) H := g _ H [] Stp.refl (by unfold VR; exact ⟨rfl, rfl⟩) (wd_nil f)
theorem Get.bl {i : Bool} (g : Get K F H (.bl i) Q) (f : Fl F H) : Q (.bl i) H := g _ H [] Stp.refl (by unfold VR; exact ⟨rfl, rfl⟩) (wd_nil f)
theorem Get.str {i : Str} (g : Get K F H (.str i) Q) (f : Fl F H) : Q (.str i) H := g _ H [] Stp.refl (by unfold VR; exact ⟨rfl, rfl⟩) (wd_nil f)
theorem Get.non (g : Get K F H .non Q) (f : Fl F H) : Q .non H := g _ H [] Stp.refl (by unfold VR; exact ⟨rfl, rfl⟩) (wd_nil f)
theorem Get.own {l : List D} {xs : List V} {p : Addr} (g : Get K F H (.own l) Q) (f : Fl F H) (h : VRL K F H l xs []) (hp : H p = none) : Q (.ref p) (upd H p (.lst xs)) := by
  obtain ⟨a, b, c⟩ := new_lst (wd_nil f) h hp
  exact g _ _ _ a b c
theorem Get.tup {l : List D} {xs : List V} (g : Get K F H (.tup l) Q) (f : Fl F H) (h : VRL K F H l xs []) : Tn H xs Q := by
  intro p o hd hp
  obtain ⟨a, b, c⟩ := new_tup (wd_nil f) h hd hp
  exact g _ _ _ a b c
/-- something that stood there -/
theorem Get.old {z : D} {v : V} {P : List Addr} (g : Get K F H z Q) (f : Fl F H) (hz : z.fz = true) (h : VR K F H z v P) : Q v H := by
  have e := VR.fz z v P hz h
  subst e
  exact g _ H [] Stp.refl h (wd_nil f)
end

theorem fz_app : ∀ {a b : List D}, fzL a = true → fzL b = true → fzL (a ++ b) = true
  | [], _, _, h => h
  | d :: a, b, h1, h2 => by
    simp only [fzL, Bool.and_eq_true] at h1
    show (d.fz && fzL (a ++ b)) = true
    rw [h1.1, fz_app h1.2 h2]
    rfl
theorem fz_get : ∀ {l : List D} {i : Nat} {d : D}, fzL l = true → l[i]? = some d → d.fz = true
  | [], _, _, _, e => by simp at e
  | x :: l, 0, d, h, e => by
    simp only [fzL, Bool.and_eq_true] at h
    simp at e
    subst e
    exact h.1
  | x :: l, i + 1, d, h, e => by
    simp only [fzL, Bool.and_eq_true] at h
    exact fz_get (i := i) h.2 (by simpa using e)
/-! ### operators -/
def rBin (K : PySem.W.Frag) (o : Operator) : L2.R2 := fun x y H Q => ∃ F d1 d2 P1 P2 z, Fl F H ∧ VR K F H d1 x P1 ∧ VR K F H d2 y P2 ∧ binD o d1 d2 = some z ∧ Get K F H z Q
section
variable {X : Cx}
theorem vr_i {K : PySem.W.Frag} {F : Addr → Prop} {H : Hp} {i : Int} {x : V} {P : List Addr} (h : VR K F H (.int i) x P) : x = .int i := by unfold VR at h; exact h.1
theorem vr_s {K : PySem.W.Frag} {F : Addr → Prop} {H : Hp} {i : Str} {x : V} {P : List Addr} (h : VR K F H (.str i) x P) : x = .str i := by unfold VR at h; exact h.1
theorem vr_b {K : PySem.W.Frag} {F : Addr → Prop} {H : Hp} {i : Bool} {x : V} {P : List Addr} (h : VR K F H (.bl i) x P) : x = .bl i := by unfold VR at h; exact h.1
theorem vr_n {K : PySem.W.Frag} {F : Addr → Prop} {H : Hp} {x : V} {P : List Addr} (h : VR K F H .non x P) : x = .non := by unfold VR at h; exact h.1
theorem and3 {a b : Bool} {c : Prop} [Decidable c] (h : (a && b && decide c) = true) : a = true ∧ b = true ∧ c := by
  simp only [Bool.and_eq_true, decide_eq_true_eq] at h
  exact ⟨h.1.1, h.1.2, h.2⟩
theorem cat_ok {K : PySem.W.Frag} {F : Addr → Prop} {H : Hp} {Q : VK} {d1 d2 : D} {a b : List D} {x y : V} {P1 P2 : List Addr} {z : D} (f : Fl F H) (h1 : VR K F H d1 x P1) (h2 : VR K F H d2 y P2) (e1 : d1.isL = some a) (e2 : d2.isL = some b)
    (hz : (if fzL a && fzL b && decide (a.length + b.length ≤ lim) then some (D.own (a ++ b)) else none) = some z) (g : Get K F H z Q) : rCat x y H Q := by
  split at hz
  · rename_i hc
    obtain ⟨f1, f2, f3⟩ := and3 hc
    cases hz
    obtain ⟨p, xs, Q1, rfl, q1, r1⟩ := h1.lstAt e1
    obtain ⟨p', ys, Q2, rfl, q2, r2⟩ := h2.lstAt e2
    have z1 := VRL.fz a xs Q1 f1 r1
    have z2 := VRL.fz b ys Q2 f2 r2
    subst z1 z2
    refine ⟨p, p', xs, ys, rfl, rfl, q1, q2, ?_, fun p3 hp3 => ?_⟩
    · rw [VRL.length _ _ _ r1, VRL.length _ _ _ r2, ← lim_eq]; exact f3
    · exact g.own f (VRL.app r1 r2) hp3
  · cases hz
theorem op_add_all : OpR X (binaryOp .Add) (rBin X.K .Add) := by
  intro pins s σ H x y v u Q I rx ry h
  obtain ⟨F, d1, d2, P1, P2, z, f, h1, h2, hz, g⟩ := h
  have hz : addD d1 d2 = some z := hz
  unfold addD at hz
  split at hz
  · cases hz
    rw [vr_i h1] at rx; rw [vr_i h2] at ry
    exact op_add pins s σ H _ _ v u Q I rx ry ⟨_, _, rfl, rfl, g.int f⟩
  · split at hz
    · rename_i hl
      cases hz
      rw [vr_s h1] at rx; rw [vr_s h2] at ry
      exact op_add_str pins s σ H _ _ v u Q I rx ry ⟨_, _, rfl, rfl, by rw [← lim_eq]; exact hl, g.str f⟩
    · cases hz
  · exact op_cat pins s σ H _ _ v u Q I rx ry (cat_ok f h1 h2 rfl rfl hz g)
  · exact op_cat pins s σ H _ _ v u Q I rx ry (cat_ok f h1 h2 rfl rfl hz g)
  · exact op_cat pins s σ H _ _ v u Q I rx ry (cat_ok f h1 h2 rfl rfl hz g)
  · exact op_cat pins s σ H _ _ v u Q I rx ry (cat_ok f h1 h2 rfl rfl hz g)
  · split at hz
    · rename_i hc
      obtain ⟨f1, f2, f3⟩ := and3 hc
      cases hz
      unfold VR at h1 h2
      obtain ⟨p, xs, rfl, q1, r1⟩ := h1
      obtain ⟨p', ys, rfl, q2, r2⟩ := h2
      have z1 := VRL.fz _ xs _ f1 r1
      have z2 := VRL.fz _ ys _ f2 r2
      subst z1 z2
      have l1 := VRL.length _ _ _ r1
      have l2 := VRL.length _ _ _ r2
      have rr := VRL.app r1 r2
      have fr : fzL (_ ++ _) = true := fz_app f1 f2
      refine op_catF pins s σ H _ _ v u Q I rx ry ⟨p, p', xs, ys, rfl, rfl, q1.sq, q2.sq, by rw [l1, l2, ← lim_eq]; exact f3, fun e => ?_, fun e1 e2 => ?_, fun e1 e2 => g.tup f rr⟩
      · refine g.old f (by unfold D.fz; exact fr) (P := []) ?_
        unfold VR
        subst e
        exact ⟨p', ys, rfl, q2, rr⟩
      · refine g.old f (by unfold D.fz; exact fr) (P := []) ?_
        unfold VR
        subst e2
        exact ⟨p, xs, rfl, q1, by simpa using rr⟩
    · cases hz
  · cases hz
theorem op_bin {o : Operator} : OpR X (binaryOp o) (rBin X.K o) := by
  by_cases ho : o = .Add
  · subst ho; exact op_add_all
  intro pins s σ H x y v u Q I rx ry h
  obtain ⟨F, d1, d2, P1, P2, z, f, h1, h2, hz, g⟩ := h
  unfold binD at hz
  split at hz
  · exact absurd rfl ho
  · cases hz
    rw [vr_i h1] at rx; rw [vr_i h2] at ry
    exact op_sub pins s σ H _ _ v u Q I rx ry ⟨_, _, rfl, rfl, g.int f⟩
  · split at hz
    · rename_i hc
      cases hz
      rw [vr_i h1] at rx; rw [vr_i h2] at ry
      exact op_mulW pins s σ H _ _ v u Q I rx ry ⟨_, _, rfl, rfl, hc, g.int f⟩
    · cases hz
  · split at hz
    · rename_i hc
      cases hz
      rw [vr_i h1] at rx; rw [vr_i h2] at ry
      exact op_fdivW pins s σ H _ _ v u Q I rx ry ⟨_, _, rfl, rfl, hc, g.int f⟩
    · cases hz
  · split at hz
    · rename_i hc
      cases hz
      rw [vr_i h1] at rx; rw [vr_i h2] at ry
      exact op_mod pins s σ H _ _ v u Q I rx ry ⟨_, _, rfl, rfl, hc, g.int f⟩
    · cases hz
  · split at hz
    · rename_i hc
      cases hz
      rw [vr_i h1] at rx; rw [vr_i h2] at ry
      exact op_pow pins s σ H _ _ v u Q I rx ry ⟨_, _, rfl, rfl, hc, g.int f⟩
    · cases hz
  · cases hz
    rw [vr_i h1] at rx; rw [vr_i h2] at ry
    exact op_and pins s σ H _ _ v u Q I rx ry ⟨_, _, rfl, rfl, g.int f⟩
  · split at hz
    · rename_i hc
      cases hz
      rw [vr_i h1] at rx; rw [vr_i h2] at ry
      exact op_shr pins s σ H _ _ v u Q I rx ry ⟨_, _, rfl, rfl, hc, g.int f⟩
    · cases hz
  · cases hz

/-! ### comparisons -/
mutual
theorem VR.dp {K : PySem.W.Frag} {F : Addr → Prop} {H : Hp} : ∀ (d : D) (v : V) (P : List Addr), VR K F H d v P → Dp K H v d.py
  | .non, v, P, h => by rw [vr_n h]; exact .non
  | .bl b, v, P, h => by rw [vr_b h]; exact .bl b
  | .int i, v, P, h => by rw [vr_i h]; exact .int i
  | .str x, v, P, h => by rw [vr_s h]; exact .str x
  | .tup l, v, P, h => by
    unfold VR at h
    obtain ⟨a, xs, rfl, h1, h2⟩ := h
    exact .tup h1.sq (VRL.dp l xs P h2)
  | .lst l, v, P, h => by
    unfold VR at h
    obtain ⟨a, xs, rfl, h1, h2, h3, _⟩ := h
    exact .lst (SqL.of h2) (VRL.dp l xs [] h3)
  | .ro l, v, P, h => by
    unfold VR at h
    obtain ⟨a, xs, rfl, h1, h3, _⟩ := h
    exact .lst h1.sq (VRL.dp l xs [] h3)
  | .own l, v, P, h => by
    unfold VR at h
    obtain ⟨a, xs, P', rfl, h1, h3, _⟩ := h
    exact .lst (SqL.of h1) (VRL.dp l xs P' h3)
theorem VRL.dp {K : PySem.W.Frag} {F : Addr → Prop} {H : Hp} : ∀ (l : List D) (xs : List V) (P : List Addr), VRL K F H l xs P → DpAll K H xs (pyL l)
  | [], xs, P, h => by unfold VRL at h; rw [h.1]; exact .nil
  | d :: l, xs, P, h => by
    unfold VRL at h
    obtain ⟨x, xs', P1, P2, rfl, h1, h2, _⟩ := h
    exact .cons (VR.dp d x P1 h1) (VRL.dp l xs' P2 h2)
end
def rCmp (K : PySem.W.Frag) (o : CmpOp) : L2.R2 := fun x y H Q => ∃ F d1 d2 P1 P2 b, VR K F H d1 x P1 ∧ VR K F H d2 y P2 ∧ cmpD o d1 d2 = some b ∧ Q (.bl b) H
theorem eqD_ok {x y : D} {b : Bool} (h : eqD x y = some b) : SeqAt.shaped x.py = true ∧ SeqAt.shaped y.py = true ∧ PyData.eqv x.py y.py = b := by
  unfold eqD at h
  split at h
  · rename_i hc
    simp only [Bool.and_eq_true] at hc
    cases h
    exact ⟨hc.1, hc.2, rfl⟩
  · cases h
theorem decN {x : V} {K : PySem.W.Frag} {F : Addr → Prop} {H : Hp} {d : D} {P : List Addr} (h : VR K F H d x P) : decide (x = .non) = d.isNon := by
  cases d with
  | non => rw [vr_n h]; rfl
  | bl b => rw [vr_b h]; rfl
  | int b => rw [vr_i h]; rfl
  | str b => rw [vr_s h]; rfl
  | tup l => unfold VR at h; obtain ⟨a, xs, rfl, _⟩ := h; rfl
  | lst l => unfold VR at h; obtain ⟨a, xs, rfl, _⟩ := h; rfl
  | ro l => unfold VR at h; obtain ⟨a, xs, rfl, _⟩ := h; rfl
  | own l => unfold VR at h; obtain ⟨a, xs, P', rfl, _⟩ := h; rfl
theorem flat_V {K : PySem.W.Frag} {F : Addr → Prop} {H : Hp} {d : D} {x : V} {P : List Addr} (h : VR K F H d x P) (e : d.flat = true) : flatV x = true := by
  cases d with
  | non => rw [vr_n h]; rfl
  | bl b => rw [vr_b h]; rfl
  | int b => rw [vr_i h]; rfl
  | str b => rw [vr_s h]; rfl
  | _ => cases e
theorem eqF_V {K : PySem.W.Frag} {F : Addr → Prop} {H : Hp} {d d2 : D} {x y : V} {P P2 : List Addr} (h : VR K F H d x P) (e : d.flat = true) (h2 : VR K F H d2 y P2) (e2 : d2.flat = true) : eqV x y = eqF d d2 := by
  cases d <;> first | (cases e; done) | skip
  all_goals cases d2 <;> first | (cases e2; done) | skip
  all_goals first | rw [vr_n h] | rw [vr_b h] | rw [vr_i h] | rw [vr_s h]
  all_goals first | rw [vr_n h2] | rw [vr_b h2] | rw [vr_i h2] | rw [vr_s h2]
  all_goals rfl
theorem in_flat {K : PySem.W.Frag} {F : Addr → Prop} {H : Hp} {d : D} {x : V} {P : List Addr} (h : VR K F H d x P) (e : d.flat = true) : ∀ {l : List D} {xs : List V} {P2 : List Addr}, VRL K F H l xs P2 → l.all D.flat = true → xs.all flatV = true ∧ inV x xs = l.any fun y => eqF y d
  | [], xs, P2, h2, _ => by unfold VRL at h2; rw [h2.1]; exact ⟨rfl, rfl⟩
  | d2 :: l, xs, P2, h2, e2 => by
    unfold VRL at h2
    obtain ⟨y, xs', Q1, Q2, rfl, q1, q2, _⟩ := h2
    rw [List.all_cons, Bool.and_eq_true] at e2
    obtain ⟨r1, r2⟩ := in_flat h e q2 e2.2
    refine ⟨by rw [List.all_cons, flat_V q1 e2.1, r1]; rfl, ?_⟩
    show ((y :: xs').any fun y => eqV y x) = _
    rw [List.any_cons, List.any_cons, eqF_V q1 e2.1 h e]
    exact congrArg (fun z => eqF d2 d || z) r2
theorem inF_ok {K : PySem.W.Frag} {F : Addr → Prop} {H : Hp} {d : D} {x : V} {P P2 : List Addr} {l : List D} {xs : List V} {b : Bool} (h : VR K F H d x P) (h2 : VRL K F H l xs P2) (e : inF d l = some b) : flatV x = true ∧ xs.all flatV = true ∧ inV x xs = b := by
  unfold inF at e
  split at e
  · rename_i hc
    rw [Bool.and_eq_true] at hc
    cases e
    obtain ⟨r1, r2⟩ := in_flat h hc.1 h2 hc.2
    exact ⟨flat_V h hc.1, r1, r2⟩
  · cases e
theorem inN_ok {K : PySem.W.Frag} {F : Addr → Prop} {H : Hp} {d : D} {x : V} {P P2 : List Addr} {l : List D} {xs : List V} {b : Bool} (h : VR K F H d x P) (h2 : VRL K F H l xs P2) (e : inN d l = some b) :
    (flatV x = true ∧ xs.all flatV = true ∧ inV x xs = b) ∨ (SeqAt.shaped d.py = true ∧ SeqAt.shaped (.list (pyL l)) = true ∧ ((pyL l).any fun z => PyData.eqv z d.py) = b) := by
  unfold inN at e
  split at e
  · rename_i hc
    rw [Bool.and_eq_true] at hc
    cases e
    obtain ⟨r1, r2⟩ := in_flat h hc.1 h2 hc.2
    exact .inl ⟨flat_V h hc.1, r1, r2⟩
  · split at e
    · rename_i hc
      rw [Bool.and_eq_true] at hc
      cases e
      exact .inr ⟨hc.1, hc.2, rfl⟩
    · cases e
theorem op_in_all (hu : X.A.units + 65 < cLine) {neg : Bool} : OpR X (compareOp (if neg then .NotIn else .In)) (fun x y H Q => ∃ F d1 d2 P1 P2 b, VR X.K F H d1 x P1 ∧ VR X.K F H d2 y P2 ∧ inD d1 d2 = some b ∧ Q (.bl (if neg then !b else b)) H) := by
  intro pins s σ H x y v u Q I rx ry h
  obtain ⟨F, d1, d2, P1, P2, b, h1, h2, hz, q⟩ := h
  have lists : ∀ (p : Addr) (xs : List V) (l : List D) (P' : List Addr), y = .ref p → SqL X.K H p xs → VRL X.K F H l xs P' → inN d1 l = some b → wpAny (model X.prog X.w) X.A (compareOp (if neg then .NotIn else .In) v u) (EP X pins σ Q) X.xe s := by
    intro p xs l P' ey hs hl e
    rcases inN_ok h1 hl e with ⟨a1, a2, a3⟩ | ⟨a1, a2, a3⟩
    · cases neg with
      | false => exact op_in_seq pins s σ H x y v u Q I rx ry ⟨p, xs, ey, .inl hs, a1, a2, by simpa [a3] using q⟩
      | true => exact op_notIn_seq pins s σ H x y v u Q I rx ry ⟨p, xs, ey, .inl hs, a1, a2, by simpa [a3] using q⟩
    · subst ey
      cases neg with
      | false => exact op_inD hu pins s σ H x _ v u Q I rx ry ⟨d1.py, pyL l, VR.dp d1 x P1 h1, .lst hs (VRL.dp l xs P' hl), a1, a2, by rw [a3]; exact q⟩
      | true => exact op_notInD hu pins s σ H x _ v u Q I rx ry ⟨d1.py, pyL l, VR.dp d1 x P1 h1, .lst hs (VRL.dp l xs P' hl), a1, a2, by rw [a3]; exact q⟩
  unfold inD at hz
  split at hz
  · unfold VR at h2
    obtain ⟨p, xs, rfl, q1, q2⟩ := h2
    obtain ⟨a1, a2, a3⟩ := inF_ok h1 q2 hz
    cases neg with
    | false => exact op_in_seq pins s σ H x _ v u Q I rx ry ⟨p, xs, rfl, .inr q1.sq, a1, a2, by simpa [a3] using q⟩
    | true => exact op_notIn_seq pins s σ H x _ v u Q I rx ry ⟨p, xs, rfl, .inr q1.sq, a1, a2, by simpa [a3] using q⟩
  · unfold VR at h2; obtain ⟨p, xs, e, q0, q1, q2, _⟩ := h2; exact lists p xs _ _ e (SqL.of q1) q2 hz
  · unfold VR at h2; obtain ⟨p, xs, e, q1, q2, _⟩ := h2; exact lists p xs _ _ e q1.sq q2 hz
  · unfold VR at h2; obtain ⟨p, xs, P', e, q1, q2, _⟩ := h2; exact lists p xs _ _ e (SqL.of q1) q2 hz
  · cases hz
theorem op_cmp (hu : X.A.units + 65 < cLine) {o : CmpOp} : OpR X (compareOp o) (rCmp X.K o) := by
  intro pins s σ H x y v u Q I rx ry h
  obtain ⟨F, d1, d2, P1, P2, b, h1, h2, hz, q⟩ := h
  have ord : ∀ (g : Int → Int → Bool) (op : OpR X (compareOp o) (rI0 fun i j => .bl (g i j))), ordD g d1 d2 = some b → wpAny (model X.prog X.w) X.A (compareOp o v u) (EP X pins σ Q) X.xe s := by
    intro g op e
    unfold ordD at e
    split at e
    · cases e
      rw [vr_i h1] at rx; rw [vr_i h2] at ry
      exact op pins s σ H _ _ v u Q I rx ry ⟨_, _, rfl, rfl, q⟩
    · cases e
  cases o with
  | Eq =>
    obtain ⟨a1, a2, a3⟩ := eqD_ok (show eqD d1 d2 = some b from hz)
    exact op_eqD (by omega) pins s σ H x y v u Q I rx ry ⟨d1.py, d2.py, VR.dp d1 x P1 h1, VR.dp d2 y P2 h2, a1, a2, by rw [a3]; exact q⟩
  | NotEq =>
    have hz : (eqD d1 d2).map not = some b := hz
    cases he : eqD d1 d2 with
    | none => rw [he] at hz; cases hz
    | some c =>
      rw [he] at hz
      cases hz
      obtain ⟨a1, a2, a3⟩ := eqD_ok he
      exact op_neD (by omega) pins s σ H x y v u Q I rx ry ⟨d1.py, d2.py, VR.dp d1 x P1 h1, VR.dp d2 y P2 h2, a1, a2, by rw [a3]; exact q⟩
  | Lt => exact ord _ op_lt hz
  | LtE => exact ord _ op_le hz
  | Gt => exact ord _ op_gt hz
  | GtE => exact ord _ op_ge hz
  | Is =>
    have hz : isD d1.isNon d2 = some b := hz
    cases d2 with
    | non =>
      cases hz
      rw [vr_n h2] at ry
      exact op_isN pins s σ H _ _ v u Q I rx ry ⟨rfl, by rw [decN h1]; exact q⟩
    | _ => cases hz
  | IsNot =>
    have hz : isD (!d1.isNon) d2 = some b := hz
    cases d2 with
    | non =>
      cases hz
      rw [vr_n h2] at ry
      exact op_notN pins s σ H _ _ v u Q I rx ry ⟨rfl, by rw [decN h1]; exact q⟩
    | _ => cases hz
  | In => exact op_in_all hu (neg := false) pins s σ H x y v u Q I rx ry ⟨F, d1, d2, P1, P2, b, h1, h2, hz, q⟩
  | NotIn =>
    have hz : (inD d1 d2).map not = some b := hz
    cases he : inD d1 d2 with
    | none => rw [he] at hz; cases hz
    | some c =>
      rw [he] at hz
      cases hz
      exact op_in_all hu (neg := true) pins s σ H x y v u Q I rx ry ⟨F, d1, d2, P1, P2, c, h1, h2, he, q⟩

/-! ### subscripts -/
def rIdx (K : PySem.W.Frag) : L2.R2 := fun x y H Q => ∃ F d1 d2 P1 P2 z, Fl F H ∧ VR K F H d1 x P1 ∧ VR K F H d2 y P2 ∧ idxD d1 d2 = some z ∧ Get K F H z Q
theorem vrl_at {K : PySem.W.Frag} {F : Addr → Prop} {H : Hp} {l : List D} {xs : List V} {P : List Addr} {i : Int} {d : D} (h : VRL K F H l xs P) (e : atI l i = some d) : ∃ x Px, atI xs i = some x ∧ VR K F H d x Px := by
  unfold atI at e ⊢
  rw [VRL.length l xs P h]
  obtain ⟨j, e1, e2⟩ := some_bind e
  obtain ⟨x, Px, q1, q2, _⟩ := VRL.get h e2
  exact ⟨x, Px, by rw [e1]; exact q1, q2⟩
theorem ix_ok {K : PySem.W.Frag} {F : Addr → Prop} {H : Hp} {l : List D} {xs : List V} {P : List Addr} {i : Int} {z : D} {Q : VK} (f : Fl F H) (h : VRL K F H l xs P) (e : ((atI l i).bind fun d => if d.fz then some d else none) = some z) (g : Get K F H z Q) :
    ∃ x, atI xs i = some x ∧ Q x H := by
  obtain ⟨d, e1, e2⟩ := some_bind e
  split at e2
  · rename_i hf
    cases e2
    obtain ⟨x, Px, q1, q2⟩ := vrl_at h e1
    exact ⟨x, q1, g.old f hf q2⟩
  · cases e2
theorem ix_all : IxR X (rIdx X.K) := by
  intro value slice pins s σ H x y v u Q I rx ry h pl
  obtain ⟨F, d1, d2, P1, P2, z, f, h1, h2, hz, g⟩ := h
  unfold idxD at hz
  split at hz
  · split at hz
    · rename_i hl
      obtain ⟨c, e1, e2⟩ : ∃ c, atI _ _ = some c ∧ D.str ⟨#[c]⟩ = z := by
        simpa using hz
      subst e2
      rw [vr_s h1] at rx; rw [vr_i h2] at ry
      exact ix_str value slice pins s σ H _ _ v u Q I rx ry ⟨_, _, c, rfl, rfl, by rw [← lim_eq]; exact hl, e1, g.str f⟩ pl
    · cases hz
  · rw [vr_i h2] at ry
    unfold VR at h1
    obtain ⟨p, xs, rfl, q1, q2⟩ := h1
    obtain ⟨w, e1, e2⟩ := ix_ok f q2 hz g
    exact ix_tup value slice pins s σ H _ _ v u Q I rx ry ⟨p, xs, _, w, rfl, rfl, q1.sq, e1, e2⟩ pl
  · rw [vr_i h2] at ry
    unfold VR at h1
    obtain ⟨p, xs, rfl, q0, q1, q2, _⟩ := h1
    obtain ⟨w, e1, e2⟩ := ix_ok f q2 hz g
    exact ix_list value slice pins s σ H _ _ v u Q I rx ry ⟨p, xs, _, w, rfl, rfl, SqL.of q1, e1, e2⟩ pl
  · rw [vr_i h2] at ry
    unfold VR at h1
    obtain ⟨p, xs, rfl, q1, q2, _⟩ := h1
    obtain ⟨w, e1, e2⟩ := ix_ok f q2 hz g
    exact ix_list value slice pins s σ H _ _ v u Q I rx ry ⟨p, xs, _, w, rfl, rfl, q1.sq, e1, e2⟩ pl
  · rw [vr_i h2] at ry
    unfold VR at h1
    obtain ⟨p, xs, P', rfl, q1, q2, _⟩ := h1
    obtain ⟨w, e1, e2⟩ := ix_ok f q2 hz g
    exact ix_list value slice pins s σ H _ _ v u Q I rx ry ⟨p, xs, _, w, rfl, rfl, SqL.of q1, e1, e2⟩ pl
  · cases hz

/-! ### one operand -/
def rUn (K : PySem.W.Frag) (op : D → Option D) : V → Hp → VK → Prop := fun x H Q => ∃ F d P z, Fl F H ∧ VR K F H d x P ∧ op d = some z ∧ Get K F H z Q
theorem un_negD : UnR X (unaryOp .USub) (rUn X.K negD) := by
  intro pins s σ H x v Q I rx h
  obtain ⟨F, d, P, z, f, h1, hz, g⟩ := h
  cases d <;> first | (cases hz; done) | skip
  cases hz
  rw [vr_i h1] at rx
  exact un_neg pins s σ H _ _ Q I rx ⟨_, rfl, g.int f⟩
theorem truD_ok {K : PySem.W.Frag} {F : Addr → Prop} {H : Hp} {d : D} {x : V} {P : List Addr} {b : Bool} (h : VR K F H d x P) (e : truD d = some b) : TruV K x H b := by
  have em : ∀ {l : List D} {xs : List V} {P : List Addr}, VRL K F H l xs P → (!xs.isEmpty) = !l.isEmpty := fun {l xs P} q => by
    have := VRL.length l xs P q
    cases l <;> cases xs <;> simp_all
  cases d with
  | non => cases e; rw [vr_n h]; rfl
  | bl b => cases e; rw [vr_b h]; rfl
  | int i => cases e; rw [vr_i h]; rfl
  | str z =>
    have e : (if z.length ≤ lim then some ((z.length : Int) != 0) else none) = some b := e
    split at e
    · rename_i hl
      cases e
      rw [vr_s h]
      exact ⟨by rw [← lim_eq]; exact hl, rfl⟩
    · cases e
  | tup l => cases e; unfold VR at h; obtain ⟨p, xs, rfl, q1, q2⟩ := h; exact .inr (.inl ⟨xs, q1.sq, (em q2).symm⟩)
  | lst l => cases e; unfold VR at h; obtain ⟨p, xs, rfl, q0, q1, q2, _⟩ := h; exact .inl ⟨xs, SqL.of q1, (em q2).symm⟩
  | ro l => cases e; unfold VR at h; obtain ⟨p, xs, rfl, q1, q2, _⟩ := h; exact .inl ⟨xs, q1.sq, (em q2).symm⟩
  | own l => cases e; unfold VR at h; obtain ⟨p, xs, P', rfl, q1, q2, _⟩ := h; exact .inl ⟨xs, SqL.of q1, (em q2).symm⟩

/-! ### built-ins -/
def rB (K : PySem.W.Frag) (op : List D → Option D) : List V → Hp → VK → Prop := fun vs H Q => ∃ F ds P z, Fl F H ∧ VRL K F H ds vs P ∧ op ds = some z ∧ Get K F H z Q
theorem vrl1 {K : PySem.W.Frag} {F : Addr → Prop} {H : Hp} {d : D} {vs : List V} {P : List Addr} (h : VRL K F H [d] vs P) : ∃ v Q, vs = [v] ∧ VR K F H d v Q := by
  unfold VRL at h
  obtain ⟨x, xs', P1, P2, e, h1, h2, _⟩ := h
  unfold VRL at h2
  rw [h2.1] at e
  exact ⟨x, P1, e, h1⟩
theorem vrl2 {K : PySem.W.Frag} {F : Addr → Prop} {H : Hp} {d d2 : D} {vs : List V} {P : List Addr} (h : VRL K F H [d, d2] vs P) : ∃ v w Q Q2, vs = [v, w] ∧ VR K F H d v Q ∧ VR K F H d2 w Q2 := by
  unfold VRL at h
  obtain ⟨x, xs', P1, P2, e, h1, h2, _⟩ := h
  obtain ⟨w, Q, e2, h3⟩ := vrl1 h2
  exact ⟨x, w, P1, Q, by rw [e, e2], h1, h3⟩
theorem VRL.drop {K : PySem.W.Frag} {F : Addr → Prop} {H : Hp} : ∀ (n : Nat) {l : List D} {xs : List V}, VRL K F H l xs [] → VRL K F H (l.drop n) (xs.drop n) []
  | 0, l, xs, h => h
  | n + 1, [], xs, h => by unfold VRL at h; obtain ⟨rfl, _⟩ := h; unfold VRL; exact ⟨rfl, rfl⟩
  | n + 1, d :: l, xs, h => by
    unfold VRL at h
    obtain ⟨x, xs', P1, P2, rfl, h1, h2, e⟩ := h
    obtain ⟨_, rfl⟩ := List.append_eq_nil_iff.mp e.symm
    exact VRL.drop n h2
theorem VRL.take {K : PySem.W.Frag} {F : Addr → Prop} {H : Hp} : ∀ (n : Nat) {l : List D} {xs : List V}, VRL K F H l xs [] → VRL K F H (l.take n) (xs.take n) []
  | 0, l, xs, h => by simp only [List.take_zero]; unfold VRL; exact ⟨rfl, rfl⟩
  | n + 1, [], xs, h => by unfold VRL at h; obtain ⟨rfl, _⟩ := h; unfold VRL; exact ⟨rfl, rfl⟩
  | n + 1, d :: l, xs, h => by
    unfold VRL at h
    obtain ⟨x, xs', P1, P2, rfl, h1, h2, e⟩ := h
    obtain ⟨rfl, rfl⟩ := List.append_eq_nil_iff.mp e.symm
    simp only [List.take_succ_cons]
    unfold VRL
    exact ⟨x, xs'.take n, [], [], rfl, h1, VRL.take n h2, rfl⟩
theorem VRL.cut {K : PySem.W.Frag} {F : Addr → Prop} {H : Hp} {l : List D} {xs : List V} (lo hi : Option Int) (h : VRL K F H l xs []) : VRL K F H (cutD l lo hi) (cutV xs lo hi) [] := by
  unfold cutD cutV
  rw [VRL.length _ _ _ h]
  exact VRL.take _ (VRL.drop _ h)
def rSlD (K : PySem.W.Frag) : V → Option Int → Option Int → Hp → VK → Prop := fun x lo hi H Q => ∃ F d P z, Fl F H ∧ VR K F H d x P ∧ slD d lo hi = some z ∧ Get K F H z Q
theorem sl_all : SlR X (rSlD X.K) := by
  intro pins s σ H x v vl vu lo hi sl Q I rx hs pl pu h
  obtain ⟨F, d, P, z, f, hv, hz, g⟩ := h
  have lists : ∀ (l : List D) (a : Addr) (xs : List V) (P' : List Addr), x = .ref a → SqL X.K H a xs → VRL X.K F H l xs P' → fzL l = true → z = .own (cutD l lo hi) → ∃ T id, typeLookup (.type T) "__getitem__" = pure (some (.builtin id)) ∧ s.TypeIs v T ∧ wpAny (model X.prog X.w) X.A (getItem v (.ref sl)) (EP X pins σ Q) X.xe s := by
    intro l a xs P' e1 e2 e3 e4 e5
    subst e1 e5
    have := VRL.fz _ _ _ e4 e3
    subst this
    exact sl_list pins s σ H _ v vl vu lo hi sl Q I rx hs pl pu ⟨a, xs, rfl, e2, fun p hp => g.own f (VRL.cut lo hi e3) hp⟩
  cases d <;> first | (cases hz; done) | skip
  · rename_i l
    unfold slD at hz
    simp only at hz
    split at hz
    · rename_i hf
      cases hz
      unfold VR at hv
      obtain ⟨a, xs, rfl, h1, h2⟩ := hv
      have := VRL.fz _ _ _ hf h2
      subst this
      refine sl_tupF pins s σ H _ v vl vu lo hi sl Q I rx hs pl pu ⟨a, xs, rfl, h1.sq, fun hw => ?_, fun _ => g.tup f (VRL.cut lo hi h2)⟩
      have hl := VRL.length _ _ _ h2
      have e : cutD l lo hi = l := by
        unfold cutD
        rw [← hl, hw.1, hw.2, hl]
        simp
      rw [e] at g
      refine g.old f (by simp only [D.fz, hf]) (P := []) ?_
      unfold VR
      exact ⟨a, xs, rfl, h1, h2⟩
    · cases hz
  · rename_i l
    unfold slD at hz
    simp only at hz
    split at hz
    · rename_i hf
      cases hz
      unfold VR at hv
      obtain ⟨a, xs, rfl, _, h1, h2, _⟩ := hv
      exact lists l a xs _ rfl (.inl (.inl h1)) h2 hf rfl
    · cases hz
  · rename_i l
    unfold slD at hz
    simp only at hz
    split at hz
    · rename_i hf
      cases hz
      unfold VR at hv
      obtain ⟨a, xs, rfl, h1, h2, _⟩ := hv
      exact lists l a xs _ rfl h1.sq h2 hf rfl
    · cases hz
  · rename_i l
    unfold slD at hz
    simp only at hz
    split at hz
    · rename_i hf
      cases hz
      unfold VR at hv
      obtain ⟨a, xs, P', rfl, h1, h2, _⟩ := hv
      exact lists l a xs _ rfl (.inl (.inl h1)) h2 hf rfl
    · cases hz
theorem call_lenD : CallR X (.builtin "len") (rB X.K lenD) := by
  intro pins s σ H vs us Q I r h
  obtain ⟨F, ds, P, z, f, hv, hz, g⟩ := h
  unfold lenD at hz
  split at hz
  · obtain ⟨v, P', rfl, h1⟩ := vrl1 hv
    split at hz
    · rename_i hl
      cases hz
      rw [vr_s h1] at r
      exact call_len_str pins s σ H _ us Q I r ⟨_, rfl, by rw [← lim_eq]; exact hl, g.int f⟩
    · cases hz
  · rename_i d _
    obtain ⟨v, P', rfl, h1⟩ := vrl1 hv
    obtain ⟨l, e1, e2⟩ : ∃ l, d.items = some l ∧ D.int l.length = z := by simpa using hz
    subst e2
    obtain ⟨a, xs, P2, rfl, q1, q2⟩ := h1.seq e1
    refine call_len_seq pins s σ H _ us Q I r ⟨a, xs, rfl, q1, ?_⟩
    rw [VRL.length _ _ _ q2]
    exact g.int f
  · cases hz
theorem call_listD : CallR X (.type "list") (rB X.K listD) := by
  intro pins s σ H vs us Q I r h
  obtain ⟨F, ds, P, z, f, hv, hz, g⟩ := h
  unfold listD at hz
  split at hz
  · obtain ⟨v, P', rfl, h1⟩ := vrl1 hv
    obtain ⟨l, e1, e2⟩ := some_bind hz
    split at e2
    · rename_i hf
      cases e2
      obtain ⟨a, xs, P2, rfl, q1, q2⟩ := h1.seq e1
      have e3 := VRL.fz _ _ _ hf q2
      subst e3
      exact call_list_of pins s σ H _ us Q I r ⟨a, xs, rfl, q1, fun p hp => g.own f q2 hp⟩
    · cases e2
  · cases hz
theorem call_tupD : CallR X (.type "tuple") (rB X.K tupleD) := by
  intro pins s σ H vs us Q I r h
  obtain ⟨F, ds, P, z, f, hv, hz, g⟩ := h
  unfold tupleD at hz
  split at hz
  · obtain ⟨v, P', rfl, h1⟩ := vrl1 hv
    obtain ⟨l, e1, e2⟩ := some_bind hz
    split at e2
    · rename_i hf
      cases e2
      obtain ⟨a, xs, P2, rfl, q1, q2⟩ := h1.seqF e1
      have e3 := VRL.fz _ _ _ hf q2
      subst e3
      refine call_tupleF pins s σ H _ us Q I r ⟨a, xs, rfl, ?_⟩
      rcases q1 with q1 | q1
      · exact .inl ⟨q1, g.tup f q2⟩
      · refine .inr ⟨q1.sq, g.old f (by unfold D.fz; exact hf) (P := []) ?_⟩
        unfold VR
        exact ⟨a, xs, rfl, q1, q2⟩
    · cases e2
  · cases hz
theorem call_absD : CallR X (.builtin "abs") (rB X.K absD) := by
  intro pins s σ H vs us Q I r h
  obtain ⟨F, ds, P, z, f, hv, hz, g⟩ := h
  unfold absD at hz
  split at hz
  · obtain ⟨v, P', rfl, h1⟩ := vrl1 hv
    cases hz
    rw [vr_i h1] at r
    exact call_abs pins s σ H _ us Q I r ⟨_, rfl, g.int f⟩
  · cases hz
theorem call_intD : CallR X (.type "int") (rB X.K intD) := by
  intro pins s σ H vs us Q I r h
  obtain ⟨F, ds, P, z, f, hv, hz, g⟩ := h
  unfold intD at hz
  split at hz
  · obtain ⟨v, P', rfl, h1⟩ := vrl1 hv
    cases hz
    rw [vr_i h1] at r
    exact call_int1 pins s σ H _ us Q I r (.inl ⟨_, rfl, g.int f⟩)
  · obtain ⟨v, P', rfl, h1⟩ := vrl1 hv
    cases hz
    rw [vr_b h1] at r
    exact call_int1 pins s σ H _ us Q I r (.inr ⟨_, rfl, g.int f⟩)
  · cases hz
theorem lsts_ok {F : Addr → Prop} {d : D} {l : List D} {v : V} {P : List Addr} {K : PySem.W.Frag} {H : Hp} (e : d.lsts = some l) (h : VR K F H d v P) : ∃ a xs P', v = .ref a ∧ SqL K H a xs ∧ VRL K F H l xs P' := by
  cases d <;> first | (cases e; done) | skip
  · cases e
    unfold VR at h
    obtain ⟨a, xs, rfl, _, h1, h2, _⟩ := h
    exact ⟨a, xs, [], rfl, .inl (.inl h1), h2⟩
  · cases e
    unfold VR at h
    obtain ⟨a, xs, rfl, h1, h2, _⟩ := h
    exact ⟨a, xs, [], rfl, h1.sq, h2⟩
  · cases e
    unfold VR at h
    obtain ⟨a, xs, P', rfl, h1, h2, _⟩ := h
    exact ⟨a, xs, P', rfl, .inl (.inl h1), h2⟩
theorem allInt_ok {K : PySem.W.Frag} {F : Addr → Prop} {H : Hp} : ∀ {l : List D} {ns : List Int} {xs : List V} {P : List Addr}, allInt l = some ns → VRL K F H l xs P → xs = ns.map V.int
  | [], ns, xs, P, e, h => by cases e; unfold VRL at h; exact h.1
  | d :: l, ns, xs, P, e, h => by
    cases d <;> first | (cases e; done) | skip
    rename_i i
    cases hh : allInt l with
    | none => rw [show allInt (.int i :: l) = (allInt l).map (i :: ·) from rfl, hh] at e; cases e
    | some ms =>
      rw [show allInt (.int i :: l) = (allInt l).map (i :: ·) from rfl, hh] at e
      cases e
      unfold VRL at h
      obtain ⟨x, xs', P1, P2, rfl, h1, h2, _⟩ := h
      rw [vr_i h1, allInt_ok hh h2]
      rfl
theorem allBl_ok {K : PySem.W.Frag} {F : Addr → Prop} {H : Hp} : ∀ {l : List D} {ns : List Bool} {xs : List V} {P : List Addr}, allBl l = some ns → VRL K F H l xs P → xs = ns.map V.bl
  | [], ns, xs, P, e, h => by cases e; unfold VRL at h; exact h.1
  | d :: l, ns, xs, P, e, h => by
    cases d <;> first | (cases e; done) | skip
    rename_i i
    cases hh : allBl l with
    | none => rw [show allBl (.bl i :: l) = (allBl l).map (i :: ·) from rfl, hh] at e; cases e
    | some ms =>
      rw [show allBl (.bl i :: l) = (allBl l).map (i :: ·) from rfl, hh] at e
      cases e
      unfold VRL at h
      obtain ⟨x, xs', P1, P2, rfl, h1, h2, _⟩ := h
      rw [vr_b h1, allBl_ok hh h2]
      rfl
theorem map_ok {α β : Type} {o : Option α} {f : α → β} {b : β} (h : o.map f = some b) : ∃ a, o = some a ∧ f a = b := by
  cases o with
  | none => cases h
  | some a => exact ⟨a, rfl, by injection h⟩
theorem leastI_ok : ∀ {ns : List Int} {m : Int}, leastI ns = some m → m ∈ ns ∧ ∀ y ∈ ns, m ≤ y
  | [], m, e => by cases e
  | [a], m, e => by
    cases e
    exact ⟨List.mem_cons_self, fun y hy => Int.le_of_eq (by simpa [eq_comm] using hy)⟩
  | a :: b :: l, m, e => by
    obtain ⟨q, e1, e2⟩ := map_ok (show (leastI (b :: l)).map (fun m => if m < a then m else a) = some m from e)
    obtain ⟨h1, h2⟩ := leastI_ok e1
    subst e2
    split
    · exact ⟨List.mem_cons_of_mem _ h1, fun y hy => by
        rcases List.mem_cons.mp hy with z | z
        · omega
        · exact h2 y z⟩
    · exact ⟨List.mem_cons_self, fun y hy => by
        rcases List.mem_cons.mp hy with z | z
        · omega
        · have := h2 y z
          omega⟩
theorem mostI_ok : ∀ {ns : List Int} {m : Int}, mostI ns = some m → m ∈ ns ∧ ∀ y ∈ ns, y ≤ m
  | [], m, e => by cases e
  | [a], m, e => by
    cases e
    exact ⟨List.mem_cons_self, fun y hy => Int.le_of_eq (by simpa [eq_comm] using hy)⟩
  | a :: b :: l, m, e => by
    obtain ⟨q, e1, e2⟩ := map_ok (show (mostI (b :: l)).map (fun m => if a < m then m else a) = some m from e)
    obtain ⟨h1, h2⟩ := mostI_ok e1
    subst e2
    split
    · exact ⟨List.mem_cons_of_mem _ h1, fun y hy => by
        rcases List.mem_cons.mp hy with z | z
        · omega
        · exact h2 y z⟩
    · exact ⟨List.mem_cons_self, fun y hy => by
        rcases List.mem_cons.mp hy with z | z
        · omega
        · have := h2 y z
          omega⟩
theorem call_minD (hc : X.calm = true) : CallR X (.builtin "min") (rB X.K minD) := by
  intro pins s σ H vs us Q I r h
  obtain ⟨F, ds, P, z, f, hv, hz, g⟩ := h
  unfold minD at hz
  split at hz
  · obtain ⟨v, w, P1, P2, rfl, h1, h2⟩ := vrl2 hv
    cases hz
    rw [vr_i h1, vr_i h2] at r
    exact call_min2 hc pins s σ H _ us Q I r ⟨_, _, rfl, g.int f⟩
  · obtain ⟨v, P', rfl, h1⟩ := vrl1 hv
    obtain ⟨l, e1, e2⟩ := some_bind hz
    obtain ⟨ns, e3, e4⟩ := some_bind e2
    obtain ⟨m, e5, rfl⟩ := map_ok e4
    obtain ⟨a, xs, P3, rfl, q1, q2⟩ := lsts_ok e1 h1
    rw [allInt_ok e3 q2] at q1
    obtain ⟨m1, m2⟩ := leastI_ok e5
    refine cr_min hc pins s σ H _ us Q I r ⟨a, ns, rfl, q1, List.length_pos_of_mem m1, fun m' a1 a2 => ?_⟩
    have : m' = m := Int.le_antisymm (a2 m m1) (m2 m' a1)
    subst this
    exact g.int f
  · cases hz
theorem call_maxD (hc : X.calm = true) : CallR X (.builtin "max") (rB X.K maxD) := by
  intro pins s σ H vs us Q I r h
  obtain ⟨F, ds, P, z, f, hv, hz, g⟩ := h
  unfold maxD at hz
  split at hz
  · obtain ⟨v, w, P1, P2, rfl, h1, h2⟩ := vrl2 hv
    cases hz
    rw [vr_i h1, vr_i h2] at r
    exact call_max2 hc pins s σ H _ us Q I r ⟨_, _, rfl, g.int f⟩
  · obtain ⟨v, P', rfl, h1⟩ := vrl1 hv
    obtain ⟨l, e1, e2⟩ := some_bind hz
    obtain ⟨ns, e3, e4⟩ := some_bind e2
    obtain ⟨m, e5, rfl⟩ := map_ok e4
    obtain ⟨a, xs, P3, rfl, q1, q2⟩ := lsts_ok e1 h1
    rw [allInt_ok e3 q2] at q1
    obtain ⟨m1, m2⟩ := mostI_ok e5
    refine cr_max hc pins s σ H _ us Q I r ⟨a, ns, rfl, q1, List.length_pos_of_mem m1, fun m' a1 a2 => ?_⟩
    have : m' = m := Int.le_antisymm (m2 m' a1) (a2 m m1)
    subst this
    exact g.int f
  · cases hz
theorem call_sumD (hc : X.calm = true) : CallR X (.builtin "sum") (rB X.K sumD) := by
  intro pins s σ H vs us Q I r h
  obtain ⟨F, ds, P, z, f, hv, hz, g⟩ := h
  unfold sumD at hz
  split at hz
  · obtain ⟨v, P', rfl, h1⟩ := vrl1 hv
    obtain ⟨l, e1, e2⟩ := some_bind hz
    obtain ⟨ns, e3, rfl⟩ := map_ok e2
    obtain ⟨a, xs, P3, rfl, q1, q2⟩ := lsts_ok e1 h1
    rw [allInt_ok e3 q2] at q1
    exact cr_sum hc pins s σ H _ us Q I r ⟨a, ns, rfl, q1, g.int f⟩
  · cases hz
theorem call_anyD (hc : X.calm = true) : CallR X (.builtin "any") (rB X.K anyD) := by
  intro pins s σ H vs us Q I r h
  obtain ⟨F, ds, P, z, f, hv, hz, g⟩ := h
  unfold anyD at hz
  split at hz
  · obtain ⟨v, P', rfl, h1⟩ := vrl1 hv
    obtain ⟨l, e1, e2⟩ := some_bind hz
    obtain ⟨ns, e3, rfl⟩ := map_ok e2
    obtain ⟨a, xs, P3, rfl, q1, q2⟩ := lsts_ok e1 h1
    rw [allBl_ok e3 q2] at q1
    exact cr_any hc pins s σ H _ us Q I r ⟨a, ns, rfl, q1, g.bl f⟩
  · cases hz
theorem call_allD (hc : X.calm = true) : CallR X (.builtin "all") (rB X.K allD) := by
  intro pins s σ H vs us Q I r h
  obtain ⟨F, ds, P, z, f, hv, hz, g⟩ := h
  unfold allD at hz
  split at hz
  · obtain ⟨v, P', rfl, h1⟩ := vrl1 hv
    obtain ⟨l, e1, e2⟩ := some_bind hz
    obtain ⟨ns, e3, rfl⟩ := map_ok e2
    obtain ⟨a, xs, P3, rfl, q1, q2⟩ := lsts_ok e1 h1
    rw [allBl_ok e3 q2] at q1
    exact cr_all hc pins s σ H _ us Q I r ⟨a, ns, rfl, q1, g.bl f⟩
  · cases hz
theorem call_strD : CallR X (.type "str") (rB X.K strD) := by
  intro pins s σ H vs us Q I r h
  obtain ⟨F, ds, P, z, f, hv, hz, g⟩ := h
  unfold strD at hz
  split at hz
  · obtain ⟨v, P', rfl, h1⟩ := vrl1 hv
    split at hz
    · rename_i hl
      cases hz
      rw [vr_i h1] at r
      exact call_str_int pins s σ H _ us Q I r ⟨_, rfl, hl, g.str f⟩
    · cases hz
  · obtain ⟨v, P', rfl, h1⟩ := vrl1 hv
    cases hz
    rw [vr_s h1] at r
    exact SkE.call_str_str pins s σ H _ us Q I r ⟨_, rfl, g.str f⟩
  · cases hz
theorem tyD_ok {K : PySem.W.Frag} {F : Addr → Prop} {H : Hp} {d : D} {x : V} {P : List Addr} (h : VR K F H d x P) : TyX K H x (.type (tyD d)) := by
  cases d with
  | non => rw [vr_n h]; exact .base .non
  | bl b => rw [vr_b h]; exact .base (.bl b)
  | int b => rw [vr_i h]; exact .base (.int b)
  | str b => rw [vr_s h]; exact .base (.str b)
  | tup l =>
    unfold VR at h
    obtain ⟨a, xs, rfl, q, _⟩ := h
    obtain ⟨o, q, _⟩ := q
    exact .fTuple q
  | lst l => unfold VR at h; obtain ⟨a, xs, rfl, q0, q, _⟩ := h; exact .base (.lst q)
  | ro l =>
    unfold VR at h
    obtain ⟨a, xs, rfl, q, _⟩ := h
    rcases q with ⟨o, q⟩ | ⟨o, its, n, q1, q2, _⟩
    · exact .base (.frz q)
    · exact .kList q1 q2
  | own l => unfold VR at h; obtain ⟨a, xs, P', rfl, q, _⟩ := h; exact .base (.lst q)
end
end Co
namespace Co
open PySem PySem.Spec PyProof.Rows L2
theorem idxF_ok {K : PySem.W.Frag} {F : Addr → Prop} {H : Hp} {d : D} {x : V} {P : List Addr} (h : VR K F H d x P) (e : d.flat = true) : ∀ {l : List D} {xs : List V} {P2 : List Addr} {n : Nat}, VRL K F H l xs P2 → l.all D.flat = true → idxF d l = some n →
    ∃ z, xs[n]? = some z ∧ eqV z x = true ∧ ∀ (m : Nat) (z' : V), m < n → xs[m]? = some z' → eqV z' x = false
  | [], xs, P2, n, h2, _, h3 => by cases h3
  | d2 :: l, xs, P2, n, h2, e2, h3 => by
    unfold VRL at h2
    obtain ⟨y, xs', Q1, Q2, rfl, q1, q2, _⟩ := h2
    rw [List.all_cons, Bool.and_eq_true] at e2
    have q := eqF_V q1 e2.1 h e
    unfold idxF at h3
    split at h3
    · rename_i hc
      cases h3
      exact ⟨y, rfl, by rw [q]; exact hc, fun m z' hm => by omega⟩
    · rename_i hc
      cases h4 : idxF d l with
      | none => rw [h4] at h3; cases h3
      | some n' =>
        rw [h4] at h3
        cases h3
        obtain ⟨z, z1, z2, z3⟩ := idxF_ok h e q2 e2.2 h4
        refine ⟨z, by simpa using z1, z2, fun m z' hm hz => ?_⟩
        cases m with
        | zero =>
          simp at hz
          subst hz
          rw [q]
          simpa using hc
        | succ m => exact z3 m z' (by have : m + 1 < n' + 1 := hm; omega) (by simpa using hz)
end Co

set_option maxRecDepth 100000
set_option maxHeartbeats 1000000
/-! Core5: expressions -/
namespace Co
open PySem PySem.Spec PyProof.Rows L2

def isLC : Expr → Bool
  | .ListComp .. => true
  | _ => false
def isTupE : Expr → Bool
  | .Tuple .. => true
  | _ => false
/-- an expression without the odd forms -/
structure Plain (e : Expr) : Prop where
  st : ∀ es env, starEach (e :: es) env = (false, eval e env) :: starEach es env
  ix : PlainIx e
  bm : ∀ op, behindInMarks op e = false
  fs : ∀ env x, foldedSetIterable e env x = pure x
  sw : isLC e = false → ∀ t l env, swapsWith e t l env = pure false
  ns : isTupE e = false → ∀ tg env, swappedStores [tg] e env = pure none

section
variable {X : Cx} {Φ : Nat → List Sl → Option (D × List Sl)} {wf : Nat}
structure SE (X : Cx) (Φ : Nat → List Sl → Option (D × List Sl)) (wf : Nat) (e : Expr) (c : C) : Prop where
  pe : PE X e (tE X.K Φ wf c)
  pl : Plain e
structure SA (X : Cx) (Φ : Nat → List Sl → Option (D × List Sl)) (wf : Nat) (es : List Expr) (c : C) : Prop where
  pa : PA X es (tA X.K Φ wf c)
  st : ∀ env, starEach es env = es.map fun e => (false, eval e env)
abbrev ST (X : Cx) (Φ : Nat → List Sl → Option (D × List Sl)) (wf : Nat) (e : Expr) (c : C) : Prop := PT X e (tT X.K Φ wf c)

/-- a value handed on -/
theorem close {K : PySem.W.Frag} {F F2 : Addr → Prop} {H H2 : Hp} {O O2 P0 : List Addr} {ρ ρ2 : Env} {σ : L2.St} {z : D} {Q : VK} (st : Stp F H O F2 H2 (O2 ++ P0)) (sr2 : SR K F2 H2 ρ2 σ O2) (wd2 : Wd F2 H2 (O2 ++ P0)) (kp : Kp ρ ρ2)
    (k : ∀ v F' H' O' P, Stp F H O F' H' (O' ++ P) → SR K F' H' ρ2 σ O' → RR K F' H' σ (.d z) v P → Wd F' H' (O' ++ P) → Kp ρ ρ2 → Q v H') : Get K F2 H2 z Q := fun v H' P s3 vr w3 => by
  obtain ⟨a, b, c⟩ := fin_new wd2.left sr2 s3 w3
  exact k v F2 H' O2 P ((st.sub fun x hx => List.mem_append_left _ hx).trans c) a vr b kp
theorem sub0 {F F2 : Addr → Prop} {H H2 : Hp} {O O2 P0 : List Addr} (st : Stp F H O F2 H2 (O2 ++ P0)) : Stp F H O F2 H2 O2 := st.sub fun x hx => List.mem_append_left _ hx
theorem nil_l {F F2 : Addr → Prop} {H H2 : Hp} {O O2 : List Addr} (st : Stp F H O F2 H2 O2) : Stp F H O F2 H2 (O2 ++ []) := by simpa using st
theorem nil_w {F : Addr → Prop} {H : Hp} {O : List Addr} (w : Wd F H O) : Wd F H (O ++ []) := by simpa using w

/-! ### names, constants -/
theorem se_var {x : Str} {i : Nat} {pos : Pos} (hN : X.N[i]? = some x) (hv : Vis X.env.scope x) (hd : (x == ("__debug__" : Str)) = false) (hc : (x == ("__classdict__" : Str)) = false) : PE X (.Name x pos) (tE X.K Φ wf (.var i)) := by
  refine PE.weak (pe_var hN hv hd hc) fun σ H Q h => ?_
  obtain ⟨F, ρ, O, r, ρ', sr, wd, e, k⟩ := h
  have go : ∀ (s : Sl) (d : D), ρ[i]? = some s → s.cont = some d → (r = .pl i ∨ (r = .d d ∧ d.fz = true)) → ρ' = ρ → tVar i σ H Q := by
    intro s d e1 e2 e3 e4
    subst e4
    obtain ⟨ov, P, O', q1, q2, _, _⟩ := SR.take sr e1
    have hv : ∃ v, ov = some v ∧ VR X.K F H d v P := by
      cases s with
      | no => cases e2
      | v d1 => cases e2; exact q2
      | bo d1 => cases e2; exact q2
      | lk d1 => cases e2; exact q2
    obtain ⟨v, rfl, hv⟩ := hv
    refine ⟨v, q1, k v F H O [] (nil_l Stp.refl) sr ?_ (nil_w wd) Kp.refl⟩
    rcases e3 with rfl | ⟨rfl, hf⟩
    · exact ⟨q1, rfl⟩
    · have := VR.fz d v P hf hv
      subst this
      exact hv
  simp only [evE] at e
  split at e
  · rename_i d e1
    cases e
    exact go _ d e1 rfl (by by_cases hf : d.fz = true <;> simp [hf]) rfl
  · rename_i d e1
    cases e
    exact go _ d e1 rfl (by by_cases hf : d.fz = true <;> simp [hf]) rfl
  · rename_i d e1
    cases e
    exact go _ d e1 rfl (.inl rfl) rfl
  · cases e
/-! a list frozen -/
mutual
theorem frz_ok {K : PySem.W.Frag} {F : Addr → Prop} {H : Hp} {F' : Addr → Prop} (hm : ∀ a, F a → F' a) : ∀ (d : D) (v : V) (P : List Addr), (∀ a ∈ P, F' a) → VR K F H d v P → VR K F' H d.frz v []
  | .non, v, P, _, h => by rw [vr_n h]; simp [D.frz, VR]
  | .bl b, v, P, _, h => by rw [vr_b h]; simp [D.frz, VR]
  | .int i, v, P, _, h => by rw [vr_i h]; simp [D.frz, VR]
  | .str x, v, P, _, h => by rw [vr_s h]; simp [D.frz, VR]
  | .tup l, v, P, hp, h => by
    unfold VR at h
    obtain ⟨a, xs, rfl, h1, h2⟩ := h
    unfold D.frz VR
    exact ⟨a, xs, rfl, h1, frzL_ok hm l xs P hp h2⟩
  | .lst l, v, P, hp, h => by
    unfold VR at h
    obtain ⟨a, xs, rfl, h1, h2, h3, h4⟩ := h
    unfold D.frz VR
    exact ⟨a, xs, rfl, hm a h1, h2, monoL hm l xs [] h3, rfl⟩
  | .ro l, v, P, hp, h => by
    unfold VR at h
    obtain ⟨a, xs, rfl, h1, h3, h4⟩ := h
    unfold D.frz VR
    exact ⟨a, xs, rfl, h1, monoL hm l xs [] h3, rfl⟩
  | .own l, v, P, hp, h => by
    unfold VR at h
    obtain ⟨a, xs, P', rfl, h1, h2, h3⟩ := h
    subst h3
    unfold D.frz VR
    exact ⟨a, xs, rfl, hp a List.mem_cons_self, h1, frzL_ok hm l xs P' (fun b hb => hp b (List.mem_cons_of_mem _ hb)) h2, rfl⟩
theorem frzL_ok {K : PySem.W.Frag} {F : Addr → Prop} {H : Hp} {F' : Addr → Prop} (hm : ∀ a, F a → F' a) : ∀ (l : List D) (xs : List V) (P : List Addr), (∀ a ∈ P, F' a) → VRL K F H l xs P → VRL K F' H (frzL l) xs []
  | [], xs, P, _, h => by
    unfold VRL at h
    unfold frzL VRL
    exact ⟨h.1, rfl⟩
  | d :: l, xs, P, hp, h => by
    unfold VRL at h
    obtain ⟨x, xs', P1, P2, rfl, h1, h2, rfl⟩ := h
    unfold frzL VRL
    exact ⟨x, xs', [], [], rfl, frz_ok hm d x P1 (fun a ha => hp a (List.mem_append_left _ ha)) h1, frzL_ok hm l xs' P2 (fun a ha => hp a (List.mem_append_right _ ha)) h2, rfl⟩
theorem mono_ok {K : PySem.W.Frag} {F : Addr → Prop} {H : Hp} {F' : Addr → Prop} (hm : ∀ a, F a → F' a) : ∀ (d : D) (v : V) (P : List Addr), VR K F H d v P → VR K F' H d v P
  | .non, v, P, h => by unfold VR at h ⊢; exact h
  | .bl b, v, P, h => by unfold VR at h ⊢; exact h
  | .int i, v, P, h => by unfold VR at h ⊢; exact h
  | .str x, v, P, h => by unfold VR at h ⊢; exact h
  | .tup l, v, P, h => by
    unfold VR at h ⊢
    obtain ⟨a, xs, e, h1, h2⟩ := h
    exact ⟨a, xs, e, h1, monoL hm l xs P h2⟩
  | .lst l, v, P, h => by
    unfold VR at h ⊢
    obtain ⟨a, xs, e, h1, h2, h3, h4⟩ := h
    exact ⟨a, xs, e, hm a h1, h2, monoL hm l xs [] h3, h4⟩
  | .ro l, v, P, h => by
    unfold VR at h ⊢
    obtain ⟨a, xs, e, h1, h3, h4⟩ := h
    exact ⟨a, xs, e, h1, monoL hm l xs [] h3, h4⟩
  | .own l, v, P, h => by
    unfold VR at h ⊢
    obtain ⟨a, xs, P', e, h1, h2, h3⟩ := h
    exact ⟨a, xs, P', e, h1, monoL hm l xs P' h2, h3⟩
theorem monoL {K : PySem.W.Frag} {F : Addr → Prop} {H : Hp} {F' : Addr → Prop} (hm : ∀ a, F a → F' a) : ∀ (l : List D) (xs : List V) (P : List Addr), VRL K F H l xs P → VRL K F' H l xs P
  | [], xs, P, h => by unfold VRL at h ⊢; exact h
  | d :: l, xs, P, h => by
    unfold VRL at h ⊢
    obtain ⟨x, xs', P1, P2, e, h1, h2, h3⟩ := h
    exact ⟨x, xs', P1, P2, e, mono_ok hm d x P1 h1, monoL hm l xs' P2 h2, h3⟩
end
/-- a slot exchanged: what stood there is handed on or forgotten -/
theorem slot_swap {K : PySem.W.Frag} {F : Addr → Prop} {H : Hp} {O : List Addr} {ρ : Env} {σ : L2.St} {i : Nat} {s s' : Sl} (G : List Addr → Addr → Prop) (sr : SR K F H ρ σ O) (wd : Wd F H O) (e : ρ[i]? = some s) (hm : ∀ P a, F a → G P a) (hG : ∀ P a, G P a → F a ∨ a ∈ P)
    (k : ∀ ov P, σ[i]? = some ov → S1 K F H s ov P → S1 K (G P) H s' ov []) :
    ∃ ov P O', Stp F H O (G P) H O' ∧ SR K (G P) H (ρ.set i s') σ O' ∧ Wd (G P) H O' ∧ σ[i]? = some ov ∧ S1 K F H s ov P ∧ O.Perm (O' ++ P) := by
  obtain ⟨ov, P, O', q1, q2, q3, q4⟩ := SR.take sr e
  have w' := wd.perm q4
  have k2 := k ov P q1 q2
  have st : Stp F H P (G P) H [] := ⟨fun _ _ h _ => h, hm P, fun _ z => (nomatch z), fun a z => (hG P a z).imp id .inl⟩
  have sr2 : SR K (G P) H (ρ.set i .no) σ O' := SR.stp w'.right st w'.apart' q3
  obtain ⟨O2, r1, r2⟩ := SR.put sr2 (get_set_same e) k2
  rw [set_set, set_same q1] at r1
  have r3 : O2.Perm O' := by simpa using r2
  refine ⟨ov, P, O2, ⟨fun _ _ h _ => h, hm P, fun a ha => .inl (q4.symm.subset (List.mem_append_left _ (r3.subset ha))), fun a z => (hG P a z).imp id fun y => .inl (q4.symm.subset (List.mem_append_right _ y))⟩, r1, ?_, q1, q2, q4.trans (r3.symm.append_right P)⟩
  refine ⟨r3.nodup_iff.mpr w'.left.nd, fun a ha z => ?_, fun a ha => w'.ls a (List.mem_append_left _ (r3.subset ha)), fun a z => ?_⟩
  · rcases hG P a z with y | y
    · exact w'.nf a (List.mem_append_left _ (r3.subset ha)) y
    · exact w'.apart' a (r3.subset ha) y
  · rcases hG P a z with y | y
    · exact w'.ft a y
    · exact w'.ls a (List.mem_append_right _ y)
theorem se_fz {x : Str} {i : Nat} {pos : Pos} (hN : X.N[i]? = some x) (hv : Vis X.env.scope x) (hd : (x == ("__debug__" : Str)) = false) (hc : (x == ("__classdict__" : Str)) = false) : PE X (.Name x pos) (tE X.K Φ wf (.fz i)) := by
  refine PE.weak (pe_var hN hv hd hc) fun σ H Q h => ?_
  obtain ⟨F, ρ, O, r, ρ', sr, wd, e, k⟩ := h
  have go : ∀ (d : D) (s s' : Sl), ρ[i]? = some s → r = .d d.frz → ρ' = ρ.set i s' → ((s = .v d ∧ s' = .v d.frz) ∨ (s = .bo d ∧ s' = .bo d.frz)) → tVar i σ H Q := by
    intro d s s' e1 e2 e3 e4
    subst e2 e3
    have hs : ∀ {F : Addr → Prop} {ov : Option V} {P : List Addr}, S1 X.K F H s ov P ↔ ∃ v, ov = some v ∧ VR X.K F H d v P := by
      intro F ov P
      rcases e4 with ⟨rfl, _⟩ | ⟨rfl, _⟩ <;> exact Iff.rfl
    have hs' : ∀ {F : Addr → Prop} {ov : Option V} {P : List Addr}, S1 X.K F H s' ov P ↔ ∃ v, ov = some v ∧ VR X.K F H d.frz v P := by
      intro F ov P
      rcases e4 with ⟨_, rfl⟩ | ⟨_, rfl⟩ <;> exact Iff.rfl
    obtain ⟨ov, P, O', a, b, c, q1, q2, _⟩ := slot_swap (s' := s') (fun P a => F a ∨ a ∈ P) sr wd e1 (fun P a h => .inl h) (fun P a h => h) fun ov P q1 q2 => by
      obtain ⟨v, rfl, hv⟩ := hs.mp q2
      exact hs'.mpr ⟨v, rfl, frz_ok (fun a h => .inl h) d v P (fun a ha => .inr ha) hv⟩
    obtain ⟨v, rfl, hv⟩ := hs.mp q2
    refine ⟨v, q1, k v _ H O' [] (nil_l a) b (frz_ok (fun a h => .inl h) d v P (fun a ha => .inr ha) hv) (nil_w c) (Kp.set e1 ?_ ?_)⟩
    · intro d' h'; rcases e4 with ⟨rfl, rfl⟩ | ⟨rfl, rfl⟩
      · cases h'
      · exact ⟨_, rfl⟩
    · intro d' h'; rcases e4 with ⟨rfl, rfl⟩ | ⟨rfl, rfl⟩ <;> cases h'
  simp only [evE] at e
  split at e
  · rename_i d e1
    cases e
    exact go d _ _ e1 rfl rfl (.inl ⟨rfl, rfl⟩)
  · rename_i d e1
    cases e
    exact go d _ _ e1 rfl rfl (.inr ⟨rfl, rfl⟩)
  · cases e
theorem se_mv {x : Str} {i : Nat} {pos : Pos} (hN : X.N[i]? = some x) (hv : Vis X.env.scope x) (hd : (x == ("__debug__" : Str)) = false) (hc : (x == ("__classdict__" : Str)) = false) : PE X (.Name x pos) (tE X.K Φ wf (.mv i)) := by
  refine PE.weak (pe_var hN hv hd hc) fun σ H Q h => ?_
  obtain ⟨F, ρ, O, r, ρ', sr, wd, e, k⟩ := h
  simp only [evE] at e
  split at e
  · rename_i d e1
    cases e
    obtain ⟨ov, P, O', q1, ⟨v, rfl, q2⟩, q3, q4⟩ := SR.take sr e1
    exact ⟨v, q1, k v F H O' P ⟨fun _ _ h _ => h, fun _ h => h, fun a ha => .inl (q4.symm.subset ha), fun _ h => .inl h⟩ q3 q2 (wd.perm q4) (Kp.set e1 (fun _ h => by cases h) (fun _ h => by cases h))⟩
  · cases e
theorem plain_Name {x : Str} {pos : Pos} : Plain (.Name x pos) := ⟨fun _ _ => rfl, fun _ _ => rfl, fun _ => rfl, fun _ _ => rfl, fun _ _ _ _ => rfl, fun _ tg _ => by cases tg <;> rfl⟩
theorem plain_Const {x j pos} : Plain (.Constant x j pos) := ⟨fun _ _ => rfl, fun _ _ => rfl, fun _ => rfl, fun _ _ => rfl, fun _ _ _ _ => rfl, fun _ tg _ => by cases tg <;> rfl⟩
theorem const_ok {c : C} {z : D} {e : Expr} {v : V} (hp : PE X e (tC v)) (he : ∀ ρ, evE Φ wf c ρ = some (.d z, ρ)) (hv : ∀ F H, VR X.K F H z v []) : PE X e (tE X.K Φ wf c) := by
  refine PE.weak hp fun σ H Q h => ?_
  obtain ⟨F, ρ, O, r, ρ', sr, wd, e, k⟩ := h
  rw [he] at e
  cases e
  exact k v F H O [] (nil_l Stp.refl) sr (hv F H) (nil_w wd) Kp.refl
theorem se_int {i : Int} {j pos} : SE X Φ wf (.Constant (.int i) j pos) (.int i) := ⟨const_ok (z := .int i) pe_int (fun _ => by simp only [evE]) (fun _ _ => by unfold VR; exact ⟨rfl, rfl⟩), plain_Const⟩
theorem se_bl {i : Bool} {j pos} : SE X Φ wf (.Constant (.bool i) j pos) (.bl i) := ⟨const_ok (z := .bl i) pe_bl (fun _ => by simp only [evE]) (fun _ _ => by unfold VR; exact ⟨rfl, rfl⟩), plain_Const⟩
theorem se_non {j pos} : SE X Φ wf (.Constant .none j pos) .non := ⟨const_ok (z := .non) pe_non (fun _ => by simp only [evE]) (fun _ _ => by unfold VR; exact ⟨rfl, rfl⟩), plain_Const⟩
theorem se_str {i : Str} {j pos} : SE X Φ wf (.Constant (.str i) j pos) (.str i) := ⟨const_ok (z := .str i) pe_str (fun _ => by simp only [evE]) (fun _ _ => by unfold VR; exact ⟨rfl, rfl⟩), plain_Const⟩

theorem bl_cases {α : Type} {ra : R} {f : Bool → Option α} {z : α} (h : (match ra with | .d (.bl b) => f b | _ => none) = some z) : ∃ b, ra = .d (.bl b) ∧ f b = some z := by
  cases ra with
  | pl i => cases h
  | d d => cases d <;> first | (cases h; done) | exact ⟨_, rfl, h⟩
theorem bl_cases2 {α : Type} {ra : R} {x y : Option α} {z : α} (h : (match ra with | .d (.bl true) => x | .d (.bl false) => y | _ => none) = some z) : (ra = .d (.bl true) ∧ x = some z) ∨ (ra = .d (.bl false) ∧ y = some z) := by
  cases ra with
  | pl i => cases h
  | d d =>
    cases d <;> first | (cases h; done) | skip
    rename_i b
    cases b
    · exact .inr ⟨rfl, h⟩
    · exact .inl ⟨rfl, h⟩
/-! ### operators -/
theorem plain_BinOp {a o b pos} : Plain (.BinOp a o b pos) := ⟨fun _ _ => rfl, fun _ _ => rfl, fun _ => rfl, fun _ _ => rfl, fun _ _ _ _ => rfl, fun _ tg _ => by cases tg <;> rfl⟩
theorem plain_UnaryOp {a o pos} : Plain (.UnaryOp o a pos) := ⟨fun _ _ => rfl, fun _ _ => rfl, fun _ => rfl, fun _ _ => rfl, fun _ _ _ _ => rfl, fun _ tg _ => by cases tg <;> rfl⟩
theorem plain_Compare {a o b pos} : Plain (.Compare a o b pos) := ⟨fun _ _ => rfl, fun _ _ => rfl, fun _ => rfl, fun _ _ => rfl, fun _ _ _ _ => rfl, fun _ tg _ => by cases tg <;> rfl⟩
theorem plain_BoolOp {o b pos} : Plain (.BoolOp o b pos) := ⟨fun _ _ => rfl, fun _ _ => rfl, fun _ => rfl, fun _ _ => rfl, fun _ _ _ _ => rfl, fun _ tg _ => by cases tg <;> rfl⟩
theorem plain_IfExp {a o b pos} : Plain (.IfExp a o b pos) := ⟨fun _ _ => rfl, fun _ _ => rfl, fun _ => rfl, fun _ _ => rfl, fun _ _ _ _ => rfl, fun _ tg _ => by cases tg <;> rfl⟩
theorem plain_Call {a o b pos} : Plain (.Call a o b pos) := ⟨fun _ _ => rfl, fun _ _ => rfl, fun _ => rfl, fun _ _ => rfl, fun _ _ _ _ => rfl, fun _ tg _ => by cases tg <;> rfl⟩
theorem plain_Subscript {a o pos} : Plain (.Subscript a o pos) := ⟨fun _ _ => rfl, fun _ _ => rfl, fun _ => rfl, fun _ _ => rfl, fun _ _ _ _ => rfl, fun _ tg _ => by cases tg <;> rfl⟩
theorem plain_Tuple {a o pos} : Plain (.Tuple a o pos) := ⟨fun _ _ => rfl, fun _ _ => rfl, fun _ => rfl, fun _ _ => rfl, fun _ _ _ _ => rfl, fun h => by cases h⟩
theorem plain_List {a pos} : Plain (.List a pos) := ⟨fun _ _ => rfl, fun _ _ => rfl, fun _ => rfl, fun _ _ => rfl, fun _ _ _ _ => rfl, fun _ tg _ => by cases tg <;> rfl⟩
theorem plain_LC {a b c pos} : Plain (.ListComp a b c pos) := ⟨fun _ _ => rfl, fun _ _ => rfl, fun _ => rfl, fun _ _ => rfl, fun h => by (cases h), fun _ tg _ => by cases tg <;> rfl⟩
variable {a b c : Expr} {ca cb cc : C} {pos : Pos}
theorem se_bin {o : Operator} (ha : SE X Φ wf a ca) (hb : SE X Φ wf b cb) : SE X Φ wf (.BinOp a o b pos) (.bin o ca cb) := by
  refine ⟨PE.weak (pe_op op_bin ha.pe hb.pe) fun σ H Q h => ?_, plain_BinOp⟩
  obtain ⟨F, ρ, O, r, ρ', sr, wd, e, k⟩ := h
  simp only [evE] at e
  obtain ⟨⟨ra, ρ1⟩, e1, e⟩ := some_bind e
  obtain ⟨⟨rb, ρ2⟩, e2, e⟩ := some_bind e
  obtain ⟨x, e3, e⟩ := some_bind e
  obtain ⟨y, e4, e⟩ := some_bind e
  obtain ⟨z, e5, e⟩ := some_bind e
  cases e
  exact two sr wd e1 e2 fun vx vy F2 H2 O2 Pa Pb st sr2 h1 h2 wd2 kp => by
    obtain ⟨P1, q1⟩ := rd_ok sr2 h1 e3
    obtain ⟨P2, q2⟩ := rd_ok sr2 h2 e4
    exact ⟨F2, x, y, P1, P2, z, wd2.ft, q1, q2, e5, close st sr2 wd2 kp k⟩
theorem se_neg (ha : SE X Φ wf a ca) : SE X Φ wf (.UnaryOp .USub a pos) (.neg ca) := by
  refine ⟨PE.weak (pe_un un_negD ha.pe) fun σ H Q h => ?_, plain_UnaryOp⟩
  obtain ⟨F, ρ, O, r, ρ', sr, wd, e, k⟩ := h
  simp only [evE] at e
  obtain ⟨⟨ra, ρ1⟩, e1, e⟩ := some_bind e
  obtain ⟨x, e3, e⟩ := some_bind e
  obtain ⟨z, e5, e⟩ := some_bind e
  cases e
  exact ⟨F, ρ, O, ra, ρ1, sr, wd, e1, fun vx F2 H2 O2 P st sr2 h1 wd2 kp => by
    obtain ⟨P1, q1⟩ := rd_ok sr2 h1 e3
    exact ⟨F2, x, P1, z, wd2.ft, q1, e5, close st sr2 wd2 kp k⟩⟩
theorem se_not (ha : SE X Φ wf a ca) : SE X Φ wf (.UnaryOp .Not a pos) (.not ca) := by
  refine ⟨PE.weak (pe_not ha.pe) fun σ H Q h => ?_, plain_UnaryOp⟩
  obtain ⟨F, ρ, O, r, ρ', sr, wd, e, k⟩ := h
  simp only [evE] at e
  obtain ⟨⟨ra, ρ1⟩, e1, e⟩ := some_bind e
  obtain ⟨b, rfl, e⟩ := bl_cases e
  cases e
  exact ⟨F, ρ, O, _, _, sr, wd, e1, fun vx F2 H2 O2 P st sr2 h1 wd2 kp => ⟨_, vr_b (show VR X.K F2 H2 (.bl _) vx P from h1), (close st sr2 wd2 kp k).bl wd2.ft⟩⟩
theorem se_cmp {o : CmpOp} (hu : X.A.units + 65 < cLine) (ha : SE X Φ wf a ca) (hb : SE X Φ wf b cb) : SE X Φ wf (.Compare a [o] [b] pos) (.cmp o ca cb) := by
  refine ⟨PE.weak (pe_cmpR (op_cmp hu) ha.pe hb.pe (hb.pl.bm o)) fun σ H Q h => ?_, plain_Compare⟩
  obtain ⟨F, ρ, O, r, ρ', sr, wd, e, k⟩ := h
  simp only [evE] at e
  obtain ⟨⟨ra, ρ1⟩, e1, e⟩ := some_bind e
  obtain ⟨⟨rb, ρ2⟩, e2, e⟩ := some_bind e
  obtain ⟨x, e3, e⟩ := some_bind e
  obtain ⟨y, e4, e⟩ := some_bind e
  obtain ⟨z, e5, e⟩ := some_bind e
  cases e
  exact two sr wd e1 e2 fun vx vy F2 H2 O2 Pa Pb st sr2 h1 h2 wd2 kp => by
    obtain ⟨P1, q1⟩ := rd_ok sr2 h1 e3
    obtain ⟨P2, q2⟩ := rd_ok sr2 h2 e4
    exact ⟨F2, x, y, P1, P2, z, q1, q2, e5, (close st sr2 wd2 kp k).bl wd2.ft⟩
theorem st_cmp {o : CmpOp} (hu : X.A.units + 65 < cLine) (ha : SE X Φ wf a ca) (hb : SE X Φ wf b cb) : ST X Φ wf (.Compare a [o] [b] pos) (.cmp o ca cb) := by
  refine PT.weak (pt_cmpR (op_cmp hu) ha.pe hb.pe (hb.pl.bm o)) fun σ H Q h => ?_
  obtain ⟨F, ρ, O, r, ρ', sr, wd, e, k⟩ := h
  simp only [evT] at e
  obtain ⟨⟨ra, ρ1⟩, e1, e⟩ := some_bind e
  obtain ⟨⟨rb, ρ2⟩, e2, e⟩ := some_bind e
  obtain ⟨x, e3, e⟩ := some_bind e
  obtain ⟨y, e4, e⟩ := some_bind e
  obtain ⟨z, e5, e⟩ := some_bind e
  cases e
  exact two sr wd e1 e2 fun vx vy F2 H2 O2 Pa Pb st sr2 h1 h2 wd2 kp => by
    obtain ⟨P1, q1⟩ := rd_ok sr2 h1 e3
    obtain ⟨P2, q2⟩ := rd_ok sr2 h2 e4
    exact ⟨F2, x, y, P1, P2, _, q1, q2, e5, _, rfl, k F2 H2 O2 (sub0 st) sr2 wd2.left kp⟩
/-- a chain of two comparisons -/
theorem chain_red {K : PySem.W.Frag} {o o2 : CmpOp} {F : Addr → Prop} {H : Hp} {O : List Addr} {ρ : Env} {σ : L2.St} {z : Bool} {ρ' : Env} {Rz : Bool → Hp → Prop} {Q : VK}
    (sr : SR K F H ρ σ O) (wd : Wd F H O) (hE : ∀ b H', Rz b H' → Q (.bl b) H')
    (e : ((evE Φ wf ca ρ).bind fun (ra, ρ1) => (evE Φ wf cb ρ1).bind fun (rb, ρ2) =>
      (rd ρ2 ra).bind fun x => (rd ρ2 rb).bind fun y => (cmpD o x y).bind fun z =>
        if z then (evE Φ wf cc ρ2).bind fun (rc, ρ3) => (rd ρ3 rb).bind fun y' => (rd ρ3 rc).bind fun w => (cmpD o2 y' w).bind fun z2 => some (z2, ρ3)
        else some (false, ρ2)) = some (z, ρ'))
    (k : ∀ F' H' O', Stp F H O F' H' O' → SR K F' H' ρ' σ O' → Wd F' H' O' → Kp ρ ρ' → Rz z H') : tChain (rCmp K o) (rCmp K o2) (tE K Φ wf ca) (tE K Φ wf cb) (tE K Φ wf cc) σ H Q := by
  obtain ⟨⟨ra, ρ1⟩, e1, e⟩ := some_bind e
  obtain ⟨⟨rb, ρ2⟩, e2, e⟩ := some_bind e
  obtain ⟨x, e3, e⟩ := some_bind e
  obtain ⟨y, e4, e⟩ := some_bind e
  obtain ⟨z1, e5, e⟩ := some_bind e
  refine two sr wd e1 e2 fun vx vy F2 H2 O2 Pa Pb st sr2 h1 h2 wd2 kp => ?_
  obtain ⟨P1, q1⟩ := rd_ok sr2 h1 e3
  obtain ⟨P2, q2⟩ := rd_ok sr2 h2 e4
  refine ⟨F2, x, y, P1, P2, z1, q1, q2, e5, z1, rfl, ?_⟩
  cases z1 with
  | false =>
    have e : some (false, ρ2) = some (z, ρ') := e
    cases e
    exact hE _ _ (k F2 H2 O2 (sub0 st) sr2 wd2.left kp)
  | true =>
    obtain ⟨⟨rc, ρ3⟩, e6, e⟩ := some_bind (show (evE Φ wf cc ρ2).bind _ = some (z, ρ') from e)
    obtain ⟨y', e7, e⟩ := some_bind e
    obtain ⟨w, e8, e⟩ := some_bind e
    obtain ⟨z2, e9, e⟩ := some_bind e
    cases e
    have wb : Wd F2 H2 (O2 ++ Pb) := wd2.sub ((List.sublist_append_right Pa Pb).append_left O2)
    exact ⟨F2, ρ2, O2, rc, _, sr2, wd2.left, e6, fun vc F3 H3 O3 Pc st3 sr3 h3 wd3 kp3 => by
      obtain ⟨P3, q3⟩ := rd_ok sr3 (RR.stp wb.left st3 wb.apart h2) e7
      obtain ⟨P4, q4⟩ := rd_ok sr3 h3 e8
      exact ⟨F3, y', w, P3, P4, _, q3, q4, e9, hE _ _ (k F3 H3 O3 ((sub0 st).trans (sub0 st3)) sr3 wd3.left (kp.trans kp3))⟩⟩
theorem se_chn {o o2 : CmpOp} (hu : X.A.units + 65 < cLine) (ha : SE X Φ wf a ca) (hb : SE X Φ wf b cb) (hc : SE X Φ wf c cc) : SE X Φ wf (.Compare a [o, o2] [b, c] pos) (.chn o o2 ca cb cc) := by
  refine ⟨PE.weak (pe_chain (op_cmp hu) (op_cmp hu) ha.pe hb.pe hc.pe (hc.pl.bm o2)) fun σ H Q h => ?_, plain_Compare⟩
  obtain ⟨F, ρ, O, r, ρ', sr, wd, e, k⟩ := h
  simp only [evE] at e
  obtain ⟨⟨z, ρ4⟩, e1, e2⟩ := some_bind e
  cases e2
  exact chain_red (Rz := fun b H' => Q (.bl b) H') sr wd (fun _ _ q => q) e1 fun F' H' O' st sr' wd' kp => (close (nil_l st) sr' (nil_w wd') kp k).bl wd'.ft
theorem st_chn {o o2 : CmpOp} (hu : X.A.units + 65 < cLine) (ha : SE X Φ wf a ca) (hb : SE X Φ wf b cb) (hc : SE X Φ wf c cc) : ST X Φ wf (.Compare a [o, o2] [b, c] pos) (.chn o o2 ca cb cc) := by
  refine PT.weak (pt_chain (op_cmp hu) (op_cmp hu) ha.pe hb.pe hc.pe (hc.pl.bm o2)) fun σ H Q h => ?_
  obtain ⟨F, ρ, O, z, ρ', sr, wd, e, k⟩ := h
  simp only [evT] at e
  exact chain_red (Rz := fun b H' => Q b H') sr wd (fun b _ q => ⟨b, rfl, q⟩) e k
theorem se_and1 {rest : List Expr} {op : BoolOp} (ha : SE X Φ wf a ca) : SE X Φ wf (.BoolOp op [a] pos) ca := ⟨pe_one ha.pe, plain_BoolOp⟩
theorem se_and {rest : List Expr} (ha : SE X Φ wf a ca) (hb : SE X Φ wf (.BoolOp .And (b :: rest) pos) cb) : SE X Φ wf (.BoolOp .And (a :: b :: rest) pos) (.and ca cb) := by
  refine ⟨PE.weak (pe_and ha.pe hb.pe) fun σ H Q h => ?_, plain_BoolOp⟩
  obtain ⟨F, ρ, O, r, ρ', sr, wd, e, k⟩ := h
  simp only [evE] at e
  obtain ⟨⟨ra, ρ1⟩, e1, e⟩ := some_bind e
  refine ⟨F, ρ, O, ra, ρ1, sr, wd, e1, fun vx F2 H2 O2 P st sr2 h1 wd2 kp => ?_⟩
  rcases bl_cases2 e with ⟨rfl, e⟩ | ⟨rfl, e⟩
  · have h1 : VR X.K F2 H2 (.bl true) vx P := h1
    refine ⟨true, vr_b h1, F2, ρ1, O2, r, ρ', sr2, wd2.left, e, fun v F3 H3 O3 P3 st3 sr3 r3 wd3 kp3 => k v F3 H3 O3 P3 ((sub0 st).trans st3) sr3 r3 wd3 (kp.trans kp3)⟩
  · cases e
    exact ⟨false, vr_b (show VR X.K F2 H2 (.bl false) vx P from h1), (close st sr2 wd2 kp k).bl wd2.ft⟩
theorem se_or {rest : List Expr} (ha : SE X Φ wf a ca) (hb : SE X Φ wf (.BoolOp .Or (b :: rest) pos) cb) : SE X Φ wf (.BoolOp .Or (a :: b :: rest) pos) (.or ca cb) := by
  refine ⟨PE.weak (pe_or ha.pe hb.pe) fun σ H Q h => ?_, plain_BoolOp⟩
  obtain ⟨F, ρ, O, r, ρ', sr, wd, e, k⟩ := h
  simp only [evE] at e
  obtain ⟨⟨ra, ρ1⟩, e1, e⟩ := some_bind e
  refine ⟨F, ρ, O, ra, ρ1, sr, wd, e1, fun vx F2 H2 O2 P st sr2 h1 wd2 kp => ?_⟩
  rcases bl_cases2 e with ⟨rfl, e⟩ | ⟨rfl, e⟩
  · cases e
    exact ⟨true, vr_b (show VR X.K F2 H2 (.bl true) vx P from h1), (close st sr2 wd2 kp k).bl wd2.ft⟩
  · have h1 : VR X.K F2 H2 (.bl false) vx P := h1
    refine ⟨false, vr_b h1, F2, ρ1, O2, r, ρ', sr2, wd2.left, e, fun v F3 H3 O3 P3 st3 sr3 r3 wd3 kp3 => k v F3 H3 O3 P3 ((sub0 st).trans st3) sr3 r3 wd3 (kp.trans kp3)⟩
theorem se_ite {t : Expr} {ct : C} (hc : ST X Φ wf t ct) (ha : SE X Φ wf a ca) (hb : SE X Φ wf b cb) : SE X Φ wf (.IfExp t a b pos) (.ite ct ca cb) := by
  refine ⟨PE.weak (pe_ifExp hc ha.pe hb.pe) fun σ H Q h => ?_, plain_IfExp⟩
  obtain ⟨F, ρ, O, r, ρ', sr, wd, e, k⟩ := h
  simp only [evE] at e
  obtain ⟨⟨t, ρ1⟩, e1, e⟩ := some_bind e
  refine ⟨F, ρ, O, t, ρ1, sr, wd, e1, fun F2 H2 O2 st sr2 wd2 kp => ?_⟩
  have k2 : ∀ v F' H' O' P, Stp F2 H2 O2 F' H' (O' ++ P) → SR X.K F' H' ρ' σ O' → RR X.K F' H' σ r v P → Wd F' H' (O' ++ P) → Kp ρ1 ρ' → Q v H' := fun v F3 H3 O3 P3 st3 sr3 r3 wd3 kp3 => k v F3 H3 O3 P3 (st.trans st3) sr3 r3 wd3 (kp.trans kp3)
  cases t with
  | true => exact ⟨F2, ρ1, O2, r, ρ', sr2, wd2, e, k2⟩
  | false => exact ⟨F2, ρ1, O2, r, ρ', sr2, wd2, e, k2⟩

/-! ### tests -/
theorem st_not (ha : ST X Φ wf a ca) : ST X Φ wf (.UnaryOp .Not a pos) (.not ca) := by
  refine PT.weak (pt_not ha) fun σ H Q h => ?_
  obtain ⟨F, ρ, O, z, ρ', sr, wd, e, k⟩ := h
  simp only [evT] at e
  obtain ⟨⟨t, ρ1⟩, e1, e⟩ := some_bind e
  cases e
  exact ⟨F, ρ, O, t, _, sr, wd, e1, k⟩
def SW (X : Cx) (Φ : Nat → List Sl → Option (D × List Sl)) (wf : Nat) (e : Expr) (c : C) : Prop := PW X e (tT X.K Φ wf c)
theorem sw_and1 (ha : ST X Φ wf a ca) : SW X Φ wf (.BoolOp .And [a] pos) ca := pw_and1 ha
theorem sw_or1 (ha : ST X Φ wf a ca) : SW X Φ wf (.BoolOp .Or [a] pos) ca := pw_or1 ha
theorem sw_and {rest : List Expr} (ha : ST X Φ wf a ca) (hb : SW X Φ wf (.BoolOp .And (b :: rest) pos) cb) : SW X Φ wf (.BoolOp .And (a :: b :: rest) pos) (.and ca cb) := by
  refine PW.weak (pw_and ha hb) fun σ H Q h => ?_
  obtain ⟨F, ρ, O, z, ρ', sr, wd, e, k⟩ := h
  simp only [evT] at e
  obtain ⟨⟨t, ρ1⟩, e1, e⟩ := some_bind e
  refine ⟨F, ρ, O, t, ρ1, sr, wd, e1, fun F2 H2 O2 st sr2 wd2 kp => ?_⟩
  cases t with
  | true => exact ⟨F2, ρ1, O2, z, ρ', sr2, wd2, e, fun F3 H3 O3 st3 sr3 wd3 kp3 => k F3 H3 O3 (st.trans st3) sr3 wd3 (kp.trans kp3)⟩
  | false =>
    have e : some (false, ρ1) = some (z, ρ') := e
    cases e
    exact k F2 H2 O2 st sr2 wd2 kp
theorem sw_or {rest : List Expr} (ha : ST X Φ wf a ca) (hb : SW X Φ wf (.BoolOp .Or (b :: rest) pos) cb) : SW X Φ wf (.BoolOp .Or (a :: b :: rest) pos) (.or ca cb) := by
  refine PW.weak (pw_or ha hb) fun σ H Q h => ?_
  obtain ⟨F, ρ, O, z, ρ', sr, wd, e, k⟩ := h
  simp only [evT] at e
  obtain ⟨⟨t, ρ1⟩, e1, e⟩ := some_bind e
  refine ⟨F, ρ, O, t, ρ1, sr, wd, e1, fun F2 H2 O2 st sr2 wd2 kp => ?_⟩
  cases t with
  | false => exact ⟨F2, ρ1, O2, z, ρ', sr2, wd2, e, fun F3 H3 O3 st3 sr3 wd3 kp3 => k F3 H3 O3 (st.trans st3) sr3 wd3 (kp.trans kp3)⟩
  | true =>
    have e : some (true, ρ1) = some (z, ρ') := e
    cases e
    exact k F2 H2 O2 st sr2 wd2 kp
/-- an expression whose test is its value's truth -/
theorem st_tst (ha : SE X Φ wf a ca) (he : ∀ whole, isTrue a X.env whole = (do let v ← whole; standAt a.pos; holding [v] (truthy v))) : ST X Φ wf a (.tst ca) := by
  refine PT.weak (pt_truth ha.pe he) fun σ H Q h => ?_
  obtain ⟨F, ρ, O, z, ρ', sr, wd, e, k⟩ := h
  simp only [evT] at e
  obtain ⟨⟨ra, ρ1⟩, e1, e⟩ := some_bind e
  obtain ⟨x, e2, e⟩ := some_bind e
  obtain ⟨b, e3, e⟩ := some_bind e
  cases e
  exact ⟨F, ρ, O, ra, _, sr, wd, e1, fun vx F2 H2 O2 P st sr2 h1 wd2 kp => by
    obtain ⟨P1, q1⟩ := rd_ok sr2 h1 e2
    exact ⟨_, truD_ok q1 e3, k F2 H2 O2 (sub0 st) sr2 wd2.left kp⟩⟩

/-! ### lists of expressions -/
theorem sa_nil : SA X Φ wf [] .nil := by
  refine ⟨PA.weak pa_nil fun σ H Q h => ?_, fun _ => rfl⟩
  obtain ⟨F, ρ, O, rs, ρ', sr, wd, e, k⟩ := h
  simp only [evA] at e
  cases e
  exact k [] F H O [] (nil_l Stp.refl) sr ⟨rfl, rfl⟩ (nil_w wd) Kp.refl
theorem sa_cons {es : List Expr} {cs : C} (ha : SE X Φ wf a ca) (hs : SA X Φ wf es cs) : SA X Φ wf (a :: es) (.cons ca cs) := by
  refine ⟨PA.weak (pa_cons ha.pe hs.pa (ha.pl.st es X.env)) fun σ H Q h => ?_, fun env => by rw [ha.pl.st es env, hs.st env]; rfl⟩
  obtain ⟨F, ρ, O, rs, ρ', sr, wd, e, k⟩ := h
  simp only [evA] at e
  obtain ⟨⟨ra, ρ1⟩, e1, e⟩ := some_bind e
  obtain ⟨⟨rt, ρ2⟩, e2, e⟩ := some_bind e
  cases e
  exact ⟨F, ρ, O, ra, ρ1, sr, wd, e1, fun vx F1 H1 O1 P1 st1 sr1 h1 wd1 kp1 => ⟨F1, ρ1, O1, rt, _, sr1, wd1.left, e2, fun vs F2 H2 O2 P2 st2 sr2 h2 wd2 kp2 =>
    k (vx :: vs) F2 H2 O2 (P1 ++ P2) (st1.two st2) sr2 ⟨vx, vs, P1, P2, rfl, RR.stp wd1.left st2 wd1.apart h1, h2, rfl⟩ (wd1.two st2 wd2) (kp1.trans kp2)⟩⟩
theorem se_tup {es : List Expr} {cs : C} {x1} (hs : SA X Φ wf es cs) : SE X Φ wf (.Tuple es x1 pos) (.tup cs) := by
  refine ⟨PE.weak (pe_tupF hs.pa) fun σ H Q h => ?_, plain_Tuple⟩
  obtain ⟨F, ρ, O, r, ρ', sr, wd, e, k⟩ := h
  simp only [evE] at e
  obtain ⟨⟨rs, ρ1⟩, e1, e⟩ := some_bind e
  obtain ⟨ds, e2, e⟩ := some_bind e
  split at e
  · rename_i hl
    cases e
    refine ⟨F, ρ, O, rs, _, sr, wd, e1, fun vs F2 H2 O2 P st sr2 h1 wd2 kp => ?_⟩
    have hv := vals_ok h1 e2
    refine ⟨by rw [VRL.length _ _ _ hv, ← lim_eq]; exact hl, fun p o hd hp => ?_⟩
    obtain ⟨n1, n2, n3⟩ := new_tup wd2.right hv hd hp
    have s0 : Stp F2 H2 [] F2 (upd H2 p (.frz o (.tup vs))) [] := ⟨fun a u e _ => by rw [upd_ne (ne_of_none e hp)]; exact e, fun _ h => h, fun a ha => (nomatch ha), fun _ h => .inl h⟩
    have n0 : Wd F2 (upd H2 p (.frz o (.tup vs))) [] := wd_nil n3.ft
    obtain ⟨b1, b2, b3⟩ := fin_new wd2.left sr2 s0 n0
    have b4 : Wd F2 (upd H2 p (.frz o (.tup vs))) (O2 ++ P) := (Wd.join (O := []) (P := O2 ++ P) wd2 s0 n0)
    exact k _ F2 _ O2 P (st.trans (⟨fun a u e _ => s0.fr a u e (by simp), fun _ h => h, fun a ha => .inl ha, fun _ h => .inl h⟩ : Stp F2 H2 (O2 ++ P) F2 _ (O2 ++ P))) b1 n2 b4 kp
  · cases e
theorem se_lst {es : List Expr} {cs : C} (hs : SA X Φ wf es cs) : SE X Φ wf (.List es pos) (.lst cs) := by
  refine ⟨PE.weak (pe_lst hs.pa) fun σ H Q h => ?_, plain_List⟩
  obtain ⟨F, ρ, O, r, ρ', sr, wd, e, k⟩ := h
  simp only [evE] at e
  obtain ⟨⟨rs, ρ1⟩, e1, e⟩ := some_bind e
  obtain ⟨ds, e2, e⟩ := some_bind e
  split at e
  · rename_i hl
    cases e
    refine ⟨F, ρ, O, rs, _, sr, wd, e1, fun vs F2 H2 O2 P st sr2 h1 wd2 kp => ?_⟩
    have hv := vals_ok h1 e2
    refine ⟨by rw [VRL.length _ _ _ hv, ← lim_eq]; exact hl, fun p hp => ?_⟩
    obtain ⟨n1, n2, n3⟩ := new_lst wd2.right hv hp
    have s0 : Stp F2 H2 [] F2 (upd H2 p (.lst vs)) [p] := stp_new hp
    have n0 : Wd F2 (upd H2 p (.lst vs)) [p] := n3.sub (by simp)
    have b1 : SR X.K F2 (upd H2 p (.lst vs)) _ σ O2 := SR.stp (O := []) (O' := [p]) (wd_nil wd2.ft) s0 (fun _ _ z => (nomatch z)) sr2
    have b4 : Wd F2 (upd H2 p (.lst vs)) ([p] ++ (O2 ++ P)) := (Wd.join (O := []) (P := O2 ++ P) wd2 s0 n0)
    have pe : ([p] ++ (O2 ++ P)).Perm (O2 ++ (p :: P)) := by
      show (p :: (O2 ++ P)).Perm _
      exact List.perm_middle.symm
    have s1 : Stp F2 H2 (O2 ++ P) F2 (upd H2 p (.lst vs)) (O2 ++ (p :: P)) := (s0.more (P := O2 ++ P)).sub fun x hx => pe.symm.subset hx
    exact k _ F2 _ O2 (p :: P) (st.trans s1) b1 n2 (b4.perm pe) kp
  · cases e
theorem se_idx (ha : SE X Φ wf a ca) (hb : SE X Φ wf b cb) : SE X Φ wf (.Subscript a b pos) (.idx ca cb) := by
  refine ⟨PE.weak (pe_ix ix_all ha.pe hb.pe hb.pl.ix) fun σ H Q h => ?_, plain_Subscript⟩
  obtain ⟨F, ρ, O, r, ρ', sr, wd, e, k⟩ := h
  simp only [evE] at e
  obtain ⟨⟨ra, ρ1⟩, e1, e⟩ := some_bind e
  obtain ⟨⟨rb, ρ2⟩, e2, e⟩ := some_bind e
  obtain ⟨x, e3, e⟩ := some_bind e
  obtain ⟨y, e4, e⟩ := some_bind e
  obtain ⟨z, e5, e⟩ := some_bind e
  cases e
  exact two sr wd e1 e2 fun vx vy F2 H2 O2 Pa Pb st sr2 h1 h2 wd2 kp => by
    obtain ⟨P1, q1⟩ := rd_ok sr2 h1 e3
    obtain ⟨P2, q2⟩ := rd_ok sr2 h2 e4
    exact ⟨F2, x, y, P1, P2, z, wd2.ft, q1, q2, e5, close st sr2 wd2 kp k⟩
theorem so_none : PO X none (tO X.K Φ wf .nil) := ⟨fun pins s σ H Q I h => po_none.run pins s σ H Q I (by
  obtain ⟨F, ρ, O, o, ρ', sr, wd, e, k⟩ := h
  simp only [evO] at e
  cases e
  exact k F H O Stp.refl sr wd Kp.refl)⟩
theorem so_some (ha : SE X Φ wf a ca) : PO X (some a) (tO X.K Φ wf (.one ca)) := ⟨fun pins s σ H Q I h => (po_some ha.pe).run pins s σ H Q I (by
  obtain ⟨F, ρ, O, o, ρ', sr, wd, e, k⟩ := h
  simp only [evO] at e
  obtain ⟨⟨r, ρ1⟩, e1, e⟩ := some_bind e
  refine ⟨F, ρ, O, r, ρ1, sr, wd, e1, fun v F2 H2 O2 P st sr2 rr wd2 kp => ?_⟩
  cases r with
  | pl i => cases e
  | d d =>
    cases d <;> first | (cases e; done) | skip
    cases e
    rename_i i
    have rr : VR X.K F2 H2 (.int i) v P := rr
    exact ⟨_, vr_i rr, k F2 H2 O2 (sub0 st) sr2 wd2.left kp⟩)⟩
theorem se_slc {lo hi : Option Expr} {clo chi : C} {p2 : Pos} (ha : SE X Φ wf a ca) (hl : PO X lo (tO X.K Φ wf clo)) (hh : PO X hi (tO X.K Φ wf chi)) : SE X Φ wf (.Subscript a (.Slice lo hi none p2) pos) (.slc ca clo chi) := by
  refine ⟨PE.weak (pe_slice sl_all ha.pe hl hh) fun σ H Q h => ?_, plain_Subscript⟩
  obtain ⟨F, ρ, O, r, ρ', sr, wd, e, k⟩ := h
  simp only [evE] at e
  obtain ⟨⟨ra, ρ1⟩, e1, e⟩ := some_bind e
  obtain ⟨⟨l, ρ2⟩, e2, e⟩ := some_bind e
  obtain ⟨⟨u, ρ3⟩, e3, e⟩ := some_bind e
  obtain ⟨x, e4, e⟩ := some_bind e
  obtain ⟨z, e5, e⟩ := some_bind e
  cases e
  refine ⟨F, ρ, O, ra, ρ1, sr, wd, e1, fun vx F1 H1 O1 P1 st1 sr1 rr1 wd1 kp1 => ⟨F1, ρ1, O1, l, ρ2, sr1, wd1.left, e2, fun F2 H2 O2 st2 sr2 wd2 kp2 => ⟨F2, ρ2, O2, u, _, sr2, wd2, e3, fun F3 H3 O3 st3 sr3 wd3 kp3 => ?_⟩⟩⟩
  have st12 : Stp F H O F2 H2 (O2 ++ P1) := st1.trans st2.more
  have wd12 : Wd F2 H2 (O2 ++ P1) := wd1.join st2 wd2
  have st13 : Stp F H O F3 H3 (O3 ++ P1) := st12.trans st3.more
  have wd13 : Wd F3 H3 (O3 ++ P1) := wd12.join st3 wd3
  have rr3 := RR.stp wd2 st3 wd12.apart (RR.stp wd1.left st2 wd1.apart rr1)
  obtain ⟨P', q⟩ := rd_ok sr3 rr3 e4
  have st13' : Stp F H O F3 H3 (O3 ++ (P1 ++ [])) := by rw [List.append_nil]; exact st13
  have wd13' : Wd F3 H3 (O3 ++ (P1 ++ [])) := by rw [List.append_nil]; exact wd13
  exact ⟨F3, x, P', z, wd3.ft, q, e5, close st13' sr3 wd13' (kp1.trans (kp2.trans kp3)) k⟩
/-- a built-in called -/
theorem se_blt {f : Expr} {es : List Expr} {kw} {n : Blt} {cs : C} (hp : ∀ t, PA X es t → PE X (.Call f es kw pos) (tCB (rB X.K (bltD n)) t)) (hs : SA X Φ wf es cs) : SE X Φ wf (.Call f es kw pos) (.blt n cs) := by
  refine ⟨PE.weak (hp _ hs.pa) fun σ H Q h => ?_, plain_Call⟩
  obtain ⟨F, ρ, O, r, ρ', sr, wd, e, k⟩ := h
  simp only [evE] at e
  obtain ⟨⟨rs, ρ1⟩, e1, e⟩ := some_bind e
  obtain ⟨ds, e2, e⟩ := some_bind e
  obtain ⟨z, e3, e⟩ := some_bind e
  cases e
  exact ⟨F, ρ, O, rs, _, sr, wd, e1, fun vs F2 H2 O2 P st sr2 h1 wd2 kp => by
    obtain ⟨P1, q1⟩ := rds_ok sr2 h1 e2
    exact ⟨F2, ds, P1, z, wd2.ft, q1, e3, close st sr2 wd2 kp k⟩⟩
/-- isinstance(e, T) -/
theorem se_isi {t : String} {p p2 : Pos} {x : Str} (hg : Gl X "isinstance") (hm : X.mg "isinstance" = none) (hg2 : Gl X x) (hm2 : X.mg x = none) (hv2 : bootBuiltins x = some (.type t)) (hn : x ≠ "__name__") (hd : (x == ("__debug__" : Str)) = false)
    (ha : SE X Φ wf a ca) : SE X Φ wf (.Call (.Name "isinstance" p) [a, .Name x p2] [] pos) (.isi ca t) := by
  have pn : PE X (.Name x p2) (tC (.ty t)) := pe_bltn hg2 hm2 hv2 rfl hn hd
  refine ⟨PE.weak (pe_callB call_isi hg hm (by decide +kernel) (pa_cons ha.pe (pa_cons pn pa_nil) (ha.pl.st _ _)) (he := ha.pl.st _ _)) fun σ H Q h => ?_, plain_Call⟩
  obtain ⟨F, ρ, O, r, ρ', sr, wd, e, k⟩ := h
  simp only [evE] at e
  obtain ⟨⟨ra, ρ1⟩, e1, e⟩ := some_bind e
  obtain ⟨d, e2, e⟩ := some_bind e
  obtain ⟨b, e3, e⟩ := some_bind e
  cases e
  exact ⟨F, ρ, O, ra, _, sr, wd, e1, fun vx F2 H2 O2 P st sr2 h1 wd2 kp => by
    obtain ⟨P1, q1⟩ := rd_ok sr2 h1 e2
    exact ⟨vx, .ty t, .type (tyD d), .type t, b, rfl, .ty t, tyD_ok q1, kit_ty e3, (close st sr2 wd2 kp k).bl wd2.ft⟩⟩
theorem rng_new {F2 : Addr → Prop} {H2 : Hp} {O2 P O : List Addr} {F : Addr → Prop} {H : Hp} {σ : L2.St} {ρ ρ1 : Env} {Q : VK} {lo hi : Int} (sr2 : SR X.K F2 H2 ρ1 σ O2) (st : Stp F H O F2 H2 (O2 ++ P)) (wd2 : Wd F2 H2 (O2 ++ P)) (kp : Kp ρ ρ1)
    (k : ∀ v F' H' O' P, Stp F H O F' H' (O' ++ P) → SR X.K F' H' ρ1 σ O' → RR X.K F' H' σ (.d (.own (rngD lo hi))) v P → Wd F' H' (O' ++ P) → Kp ρ ρ1 → Q v H') : ∀ q, H2 q = none → Q (.ref q) (upd H2 q (.lst (rgV lo hi))) := fun p hp => by
  have hv : VRL X.K F2 H2 (rngD lo hi) (rgV lo hi) [] := by
    unfold rngD rgV
    generalize List.range (hi - lo).toNat = ks
    induction ks with
    | nil => unfold VRL; exact ⟨rfl, rfl⟩
    | cons a ks ih =>
      rw [List.map_cons, List.map_cons]
      unfold VRL
      exact ⟨_, _, [], [], rfl, by unfold VR; exact ⟨rfl, rfl⟩, ih, rfl⟩
  have st' := sub0 st
  have wd' := nil_w wd2.left
  obtain ⟨n1, n2, n3⟩ := new_lst wd'.right hv hp
  have s0 : Stp F2 H2 [] F2 (upd H2 p (.lst (rgV lo hi))) [p] := stp_new hp
  have n0 : Wd F2 (upd H2 p (.lst (rgV lo hi))) [p] := n3.sub (by simp)
  have b1 : SR X.K F2 (upd H2 p (.lst (rgV lo hi))) _ σ O2 := SR.stp (O := []) (O' := [p]) (wd_nil wd'.ft) s0 (fun _ _ z => (nomatch z)) sr2
  have b4 : Wd F2 (upd H2 p (.lst (rgV lo hi))) ([p] ++ (O2 ++ [])) := (Wd.join (O := []) (P := O2 ++ []) wd' s0 n0)
  have pe : ([p] ++ (O2 ++ [])).Perm (O2 ++ [p]) := by
    rw [List.append_nil]
    show (p :: O2).Perm _
    exact (List.perm_append_singleton p O2).symm
  have s1 : Stp F2 H2 (O2 ++ []) F2 (upd H2 p (.lst (rgV lo hi))) (O2 ++ [p]) := (s0.more (P := O2 ++ [])).sub fun x hx => pe.symm.subset hx
  rw [List.append_nil] at s1
  exact k _ F2 _ O2 [p] (st'.trans s1) b1 n2 (b4.perm pe) kp
theorem se_lrng1 {p1 p2 q2 : Pos} (hc : X.calm = true) (hg : Gl X "list") (hm : X.mg "list" = none) (hg2 : Gl X "range") (hm2 : X.mg "range" = none) (ha : SE X Φ wf a ca) : SE X Φ wf (.Call (.Name "list" p1) [.Call (.Name "range" p2) [a] [] q2] [] pos) (.lrng1 ca) := by
  refine ⟨PE.weak (pe_listRg hc hg hm (prg_1 hg2 hm2 ha.pe (ha.pl.st _ _)) rfl) fun σ H Q h => ?_, plain_Call⟩
  obtain ⟨F, ρ, O, r, ρ', sr, wd, e, k⟩ := h
  simp only [evE] at e
  obtain ⟨⟨ra, ρ1⟩, e1, e⟩ := some_bind e
  obtain ⟨ds, e2, e⟩ := some_bind e
  obtain ⟨l, e3, e⟩ := some_bind e
  split at e
  · rename_i hl
    cases e
    refine ⟨F, ρ, O, ra, _, sr, wd, e1, fun va F2 H2 O2 P st sr2 h1 wd2 kp => ?_⟩
    cases ra with
    | pl i => cases e2
    | d d =>
      cases e2
      obtain ⟨n, rfl⟩ : ∃ n, d = .int n := by
        cases d <;> first | (cases e3; done) | exact ⟨_, rfl⟩
      unfold rngOf at e3
      simp only at e3
      split at e3
      · rename_i hb
        cases e3
        have h1 : VR X.K F2 H2 (.int n) va P := h1
        refine ⟨n, vr_i h1, ⟨by omega, by omega, by omega, by omega, ?_⟩, rng_new sr2 st wd2 kp k⟩
        have : (rngD 0 n).length = (n - 0).toNat := by unfold rngD; simp
        rw [this] at hl
        exact hl
      · cases e3
  · cases e
theorem se_lrng2 {p1 p2 q2 : Pos} (hc : X.calm = true) (hg : Gl X "list") (hm : X.mg "list" = none) (hg2 : Gl X "range") (hm2 : X.mg "range" = none) (ha : SE X Φ wf a ca) (hb : SE X Φ wf b cb) : SE X Φ wf (.Call (.Name "list" p1) [.Call (.Name "range" p2) [a, b] [] q2] [] pos) (.lrng2 ca cb) := by
  have hs : SA X Φ wf [b] (.cons cb .nil) := sa_cons hb sa_nil
  refine ⟨PE.weak (pe_listRg hc hg hm (prg_2 hg2 hm2 ha.pe hb.pe (ha.pl.st _ _) (hb.pl.st _ _) (by rw [hs.st]; rfl)) rfl) fun σ H Q h => ?_, plain_Call⟩
  obtain ⟨F, ρ, O, r, ρ', sr, wd, e, k⟩ := h
  simp only [evE] at e
  obtain ⟨⟨ra, ρ1⟩, e1, e⟩ := some_bind e
  obtain ⟨⟨rb, ρ2⟩, e1b, e⟩ := some_bind e
  obtain ⟨ds, e2, e⟩ := some_bind e
  obtain ⟨l, e3, e⟩ := some_bind e
  split at e
  · rename_i hl
    cases e
    refine ⟨F, ρ, O, ra, _, sr, wd, e1, fun va F1 H1 O1 P1 st1 sr1 h1 wd1 kp1 => ⟨F1, ρ1, O1, rb, _, sr1, wd1.left, e1b, fun vb F2 H2 O2 P2 st2 sr2 h2 wd2 kp2 => ?_⟩⟩
    cases ra with
    | pl i => cases e2
    | d d =>
    cases rb with
    | pl i => cases e2
    | d d2 =>
      cases e2
      obtain ⟨n, m, rfl, rfl⟩ : ∃ n m, d = .int n ∧ d2 = .int m := by
        cases d <;> cases d2 <;> first | (cases e3; done) | exact ⟨_, _, rfl, rfl⟩
      unfold rngOf at e3
      simp only at e3
      split at e3
      · rename_i hb
        cases e3
        have h1 : VR X.K F1 H1 (.int n) va P1 := h1
        have h2 : VR X.K F2 H2 (.int m) vb P2 := h2
        refine ⟨n, m, vr_i h1, vr_i h2, ⟨by omega, by omega, by omega, by omega, ?_⟩, rng_new sr2 (st1.two st2) (wd1.two st2 wd2) (kp1.trans kp2) k⟩
        have : (rngD n m).length = (m - n).toNat := by unfold rngD; simp
        rw [this] at hl
        exact hl
      · cases e3
  · cases e
theorem se_ixm {p2 : Pos} (hl : (p2.endLine == pos.line) = true) (hb0 : attributeBase a "index" X.env (eval a X.env) = eval a X.env) (hfew : ((backTo pos (starEach [b] X.env)).all (fun x => !x.1) && (backToKw pos (keywordEach [] X.env)).all (fun x => x.1.isSome)
      && decide (([b] : List Expr).length + ([] : List Keyword).length + (if ([] : List Keyword).isEmpty then 0 else 1) < 30)) = true) (ha : SE X Φ wf a ca) (hb : SE X Φ wf b cb) : SE X Φ wf (.Call (.Attribute a "index" p2) [b] [] pos) (.ixm ca cb) := by
  refine ⟨PE.weak (PE.or (pe_bm PySem.F.plainAttrs_list PySem.F.slot_list_index PySem.F.type_list_index mt_index ha.pe (pa_cons hb.pe pa_nil (hb.pl.st _ _)) hb0 hfew hl (hb.pl.st _ _) rfl)
    (pe_bmF PySem.F.slot_tuple_index PySem.F.type_tuple_index PySem.F.plainAttrs_tuple mt_tupF ha.pe (pa_cons hb.pe pa_nil (hb.pl.st _ _)) hb0 hfew hl (hb.pl.st _ _) rfl)) fun σ H Q h => ?_, plain_Call⟩
  obtain ⟨F, ρ, O, r, ρ', sr, wd, e, k⟩ := h
  simp only [evE] at e
  obtain ⟨⟨ra, ρ1⟩, e1, e⟩ := some_bind e
  obtain ⟨l0, e0, e⟩ := some_bind e
  obtain ⟨⟨rb, ρ2⟩, e2, e⟩ := some_bind e
  obtain ⟨l, e3, e⟩ := some_bind e
  obtain ⟨y, e4, e⟩ := some_bind e
  obtain ⟨z, e5, e⟩ := some_bind e
  cases e
  by_cases ht : ∃ l, ra = .d (.tup l)
  · obtain ⟨lt, rfl⟩ := ht
    have e0' : lt = l0 := Option.some.inj e0
    have e3' : lt = l := Option.some.inj e3
    subst e0' e3'
    refine .inr ⟨F, ρ, O, _, ρ1, sr, wd, e1, fun vx F1 H1 O1 P1 st1 sr1 r1 wd1 kp1 => ?_⟩
    have r1 : VR X.K F1 H1 (.tup lt) vx P1 := r1
    unfold VR at r1
    obtain ⟨p0, xs, rfl, tf, vl0⟩ := r1
    refine ⟨⟨p0, xs, rfl, tf⟩, F1, ρ1, O1, rb, _, sr1, wd1.left, e2, fun vy F2 H2 O2 P2 st2 sr2 r2 wd2 kp2 => ?_⟩
    have vl := VRL.stp wd1.left st2 lt xs P1 wd1.apart vl0
    obtain ⟨P5, q2⟩ := rd_ok sr2 r2 e4
    unfold indexD at e5
    split at e5
    · rename_i hc
      rw [Bool.and_eq_true] at hc
      cases e7 : idxF y lt with
      | none => rw [e7] at e5; cases e5
      | some n =>
        rw [e7] at e5
        cases e5
        obtain ⟨z, z1, z2, z3⟩ := idxF_ok q2 hc.1 vl hc.2 e7
        obtain ⟨f1, _⟩ := in_flat q2 hc.1 vl hc.2
        exact ⟨p0, xs, vy, n, z, rfl, rfl, (TuF.stp wd1.left st2 tf).sq, flat_V q2 hc.1, f1, z1, z2, z3, (close (st1.two st2) sr2 (wd1.two st2 wd2) (kp1.trans kp2) k).int (wd1.two st2 wd2).ft⟩
    · cases e5
  · have ix : ∀ ρ, ixA ρ ra = (rd ρ ra).bind D.lsts := by
      intro ρ
      cases ra with
      | pl i => rfl
      | d d => cases d <;> first | rfl | exact absurd ⟨_, rfl⟩ ht
    rw [ix] at e0 e3
    obtain ⟨x0, e00, e01⟩ := some_bind e0
    obtain ⟨x, e3, e6⟩ := some_bind e3
    refine .inl ⟨F, ρ, O, ra, ρ1, sr, wd, e1, fun vx F1 H1 O1 P1 st1 sr1 r1 wd1 kp1 => ?_⟩
    obtain ⟨P3, q0⟩ := rd_ok sr1 r1 e00
    obtain ⟨p0, xs0, _, rfl, sq0, _⟩ := lsts_ok e01 q0
    refine ⟨.inl ⟨rfl, _, sq0⟩, F1, ρ1, O1, rb, _, sr1, wd1.left, e2, fun vy F2 H2 O2 P2 st2 sr2 r2 wd2 kp2 => ?_⟩
    have r1' := RR.stp wd1.left st2 wd1.apart r1
    obtain ⟨P4, q1⟩ := rd_ok sr2 r1' e3
    obtain ⟨P5, q2⟩ := rd_ok sr2 r2 e4
    unfold indexD at e5
    split at e5
    · rename_i hc
      rw [Bool.and_eq_true] at hc
      cases e7 : idxF y l with
      | none => rw [e7] at e5; cases e5
      | some n =>
        rw [e7] at e5
        cases e5
        obtain ⟨p, xs, P6, hp, sq, vl⟩ := lsts_ok e6 q1
        cases hp
        obtain ⟨z, z1, z2, z3⟩ := idxF_ok q2 hc.1 vl hc.2 e7
        obtain ⟨f1, _⟩ := in_flat q2 hc.1 vl hc.2
        exact ⟨p0, xs, vy, n, z, rfl, rfl, sq, flat_V q2 hc.1, f1, z1, z2, z3, (close (st1.two st2) sr2 (wd1.two st2 wd2) (kp1.trans kp2) k).int (wd1.two st2 wd2).ft⟩
    · cases e5
end
end Co

set_option maxRecDepth 100000
set_option maxHeartbeats 1000000
/-! Core6: changed lists, targets, calls -/
namespace Co
open PySem PySem.Spec PyProof.Rows L2

section
variable {K : PySem.W.Frag} {F : Addr → Prop} {H : Hp} {O P : List Addr} {ρ : Env} {σ : L2.St}
theorem own_slot {i : Nat} {l : List D} (e : ownAt ρ i = some l) : ρ[i]? = some (.v (.own l)) ∨ ρ[i]? = some (.bo (.own l)) := by
  unfold ownAt at e
  split at e
  · rename_i h; cases e; exact .inl h
  · rename_i h; cases e; exact .inr h
  · cases e
/-- a slot's list changed in place -/
def Mutd (K : PySem.W.Frag) (F : Addr → Prop) (H : Hp) (O P : List Addr) (ρ : Env) (σ : L2.St) (i : Nat) (l : List D) : Prop :=
    ∃ p xs P', σ[i]? = some (some (.ref p)) ∧ H p = some (.lst xs) ∧ VRL K F H l xs P' ∧ ∀ l2 xs2 P2 ρ', VRL K F H l2 xs2 P2 → (∀ R : List Addr, (R ++ (P' ++ P)).Nodup → (R ++ P2).Nodup) → (∀ a ∈ P2, a ∈ P' ++ P) → setL ρ i l2 = some ρ' →
      ∃ O2, Stp F H (O ++ P) F (upd H p (.lst xs2)) O2 ∧ SR K F (upd H p (.lst xs2)) ρ' σ O2 ∧ Wd F (upd H p (.lst xs2)) O2 ∧ Kp ρ ρ'
theorem mut_key {i : Nat} {l : List D} (sr : SR K F H ρ σ O) (wd : Wd F H (O ++ P)) (fl : D → Sl) (hS : ∀ {F : Addr → Prop} {H : Hp} {d : D} {ov : Option V} {P : List Addr}, S1 K F H (fl d) ov P ↔ ∃ v, ov = some v ∧ VR K F H d v P) (e1 : ρ[i]? = some (fl (.own l))) (hset : ∀ l2 ρ', setL ρ i l2 = some ρ' → ρ' = ρ.set i (fl (.own l2)))
      (hb : ∀ d d1, fl d = .bo d1 → ∀ d2, ∃ d3, fl d2 = .bo d3) (hl : ∀ d d1, fl d ≠ .lk d1) : Mutd K F H O P ρ σ i l := by
    obtain ⟨ov, Pi, O', q1, q2, q3, q4⟩ := SR.take sr e1
    obtain ⟨v, rfl, hv⟩ := hS.mp q2
    unfold VR at hv
    obtain ⟨p, xs, P', rfl, h1, h2, h3⟩ := hv
    subst h3
    refine ⟨p, xs, P', q1, h1, h2, fun l2 xs2 P2 ρ' hv2 hnd hsub hs => ?_⟩
    have er := hset l2 ρ' hs
    subst er
    have w0 : Wd F H ((O' ++ (p :: P')) ++ P) := wd.perm (q4.append_right P)
    have pm : ((O' ++ (p :: P')) ++ P).Perm (O' ++ ([p] ++ (P' ++ P))) := by
      rw [List.append_assoc]
      rfl
    have w1 : Wd F H (O' ++ ([p] ++ (P' ++ P))) := w0.perm pm
    have wp : Wd F H [p] := w1.right.left
    have hp0 : p ∉ O' := fun z => w1.apart' p z (by simp)
    have hpP : p ∉ P' ++ P := fun z => w1.right.apart' p (by simp) z
    have st : Stp F H [p] F (upd H p (.lst xs2)) [p] := by
      refine ⟨fun a o ha hn => ?_, fun _ h => h, fun a ha => .inl ha, fun _ h => .inl h⟩
      rw [upd_ne (by simpa using hn)]
      exact ha
    have nd : (O' ++ ([p] ++ P2)).Nodup := by
      have := hnd (O' ++ [p]) (by rw [List.append_assoc]; exact w1.nd)
      rw [List.append_assoc] at this
      exact this
    have sr2 : SR K F (upd H p (.lst xs2)) (ρ.set i .no) σ O' := SR.stp wp st (fun a ha => by simp; rintro rfl; exact hp0 ha) q3
    have hp2 : p ∉ P2 := fun z => hpP (hsub p z)
    have hv3 : VRL K F (upd H p (.lst xs2)) l2 xs2 P2 := VRL.stp wp st l2 xs2 P2 (fun a ha => by simp; rintro rfl; exact hp2 ha) hv2
    have s1 : S1 K F (upd H p (.lst xs2)) (fl (.own l2)) (some (.ref p)) (p :: P2) := hS.mpr ⟨.ref p, rfl, by unfold VR; exact ⟨p, xs2, P2, rfl, upd_same, hv3, rfl⟩⟩
    obtain ⟨O2, r1, r2⟩ := SR.put sr2 (get_set_same e1) s1
    rw [set_set, set_same q1] at r1
    have inO : ∀ a ∈ O2, a ∈ O' ++ ([p] ++ (P' ++ P)) := fun a ha => by
      have := r2.subset ha
      simp only [List.mem_append, List.mem_cons, List.not_mem_nil, or_false] at this ⊢
      rcases this with z | z | z
      · exact .inl z
      · exact .inr (.inl z)
      · exact .inr (.inr (List.mem_append.mp (hsub a z)))
    refine ⟨O2, ⟨fun a o ha hn => ?_, fun _ h => h, fun a ha => .inl ?_, fun _ h => .inl h⟩, r1, ⟨r2.nodup_iff.mpr nd, fun a ha => w1.nf a (inO a ha), fun a ha => ?_, fun a ha => ?_⟩, Kp.set e1 (fun d hd => hb _ d hd _) (fun d hd => absurd hd (hl _ d))⟩
    · rw [upd_ne]
      · exact ha
      · rintro rfl
        exact hn ((q4.append_right P).symm.subset (by simp))
    · exact (q4.append_right P).symm.subset (pm.symm.subset (inO a ha))
    · by_cases hap : a = p
      · subst hap; exact ⟨xs2, upd_same⟩
      · rw [upd_ne hap]; exact w1.ls a (inO a ha)
    · by_cases hap : a = p
      · subst hap; exact ⟨xs2, upd_same⟩
      · rw [upd_ne hap]; exact wd.ft a ha
theorem mutate {i : Nat} {l : List D} (sr : SR K F H ρ σ O) (wd : Wd F H (O ++ P)) (e : ownAt ρ i = some l) : Mutd K F H O P ρ σ i l := by
  rcases own_slot e with e1 | e1
  · refine mut_key sr wd Sl.v Iff.rfl e1 (fun l2 ρ' h => ?_) (fun d d1 h => by cases h) (fun d d1 h => by cases h)
    unfold setL at h
    rw [e1] at h
    cases h
    rfl
  · refine mut_key sr wd Sl.bo Iff.rfl e1 (fun l2 ρ' h => ?_) (fun d d1 h d2 => ⟨_, rfl⟩) (fun d d1 h => by cases h)
    unfold setL at h
    rw [e1] at h
    cases h
    rfl
end

section
variable {X : Cx} {Φ : Nat → List Sl → Option (D × List Sl)} {wf : Nat} {a b c : Expr} {ca cb cc : C} {pos : Pos}
/-! ### targets -/
theorem vrl_snoc {K : PySem.W.Frag} {F : Addr → Prop} {H : Hp} {l : List D} {xs : List V} {P Q : List Addr} {d : D} {v : V} (h : VRL K F H l xs P) (hv : VR K F H d v Q) : VRL K F H (l ++ [d]) (xs ++ [v]) (P ++ Q) := VRL.app h (VRL.one hv)
theorem name_red {K : PySem.W.Frag} {i : Nat} {v : V} {σ : L2.St} {H : Hp} {Q : L2.St → Hp → Prop} (h : tG K Φ wf (.tnm i) v σ H Q) : gName i v σ H Q := by
  obtain ⟨F, ρ, O, P, d, ρ', sr, hv, wd, e, k⟩ := h
  simp only [evG] at e
  have go : ∀ s, ρ[i]? = some s → ρ' = ρ.set i (.v d) → (∀ d, s ≠ .bo d) → (∀ d, s ≠ .lk d) → gName i v σ H Q := by
    intro s e1 e2 hb hl
    subst e2
    obtain ⟨ov, Pi, O', q1, q2, q3, q4⟩ := SR.take sr e1
    obtain ⟨O2, r1, r2⟩ := SR.put (s := .v d) (ov := some v) q3 (get_set_same e1) ⟨v, rfl, hv⟩
    rw [set_set] at r1
    have inn : ∀ a ∈ O2, a ∈ O ++ P := fun a ha => by
      rcases List.mem_append.mp (r2.subset ha) with z | z
      · exact List.mem_append_left _ (q4.symm.subset (List.mem_append_left _ z))
      · exact List.mem_append_right _ z
    have w1 : Wd F H ((O' ++ Pi) ++ P) := wd.perm (q4.append_right P)
    have w2 : Wd F H (O' ++ P) := w1.sub ((List.sublist_append_left O' Pi).append_right P)
    refine k _ F H O2 ⟨fun _ _ h _ => h, fun _ h => h, fun a ha => .inl (inn a ha), fun _ h => .inl h⟩ r1 (w2.perm r2.symm) (Kp.set e1 (fun d hd => absurd hd (hb d)) (fun d hd => absurd hd (hl d))) (fun j hj => ?_) ⟨List.length_set .., fun j hj => ?_⟩
    · rw [List.getElem?_set_ne]
      rintro rfl
      rcases hj with ⟨d', z⟩ | ⟨d', z⟩
      · rw [e1] at z; exact hb d' (Option.some.inj z)
      · rw [e1] at z; exact hl d' (Option.some.inj z)
    · rw [List.getElem?_set_ne]
      rintro rfl
      exact hj (by simp [tgts])
  unfold store at e
  split at e
  · rename_i e1; cases e; exact go _ e1 rfl (fun _ h => by cases h) (fun _ h => by cases h)
  · rename_i e1; cases e; exact go _ e1 rfl (fun _ h => by cases h) (fun _ h => by cases h)
  · cases e
theorem sg_name {x : Str} {i : Nat} (hN : X.N.Nodup) (hi : X.N[i]? = some x) (hx : Loc X.env.scope x) (hf : X.fn x = true ∨ X.env.scope.names.lookup x = some .local) : PG X (.Name x pos) (tG X.K Φ wf (.tnm i)) := by
  exact PG.weak (pg_name hN hi hx hf) fun v σ H Q h => name_red h
theorem sgs_nil : PGs X [] (tGs X.K Φ wf .nil) := by
  refine PGs.weak pgs_nil fun vs σ H Q h => ?_
  obtain ⟨F, ρ, O, P, ds, ρ', sr, hv, wd, e, k⟩ := h
  simp only [evGs] at e
  split at e
  · cases e
    unfold VRL at hv
    obtain ⟨rfl, rfl⟩ := hv
    exact ⟨rfl, k σ F H O (by simpa using Stp.refl) sr (by simpa using wd) Kp.refl Ks.refl Ag.refl⟩
  · cases e
theorem sgs_cons {es : List Expr} {ts : C} (ha : PG X a (tG X.K Φ wf ca)) (hs : PGs X es (tGs X.K Φ wf ts)) (he : (assignEach (a :: es) X.env).map (·.2) = assign a X.env :: (assignEach es X.env).map (·.2)) : PGs X (a :: es) (tGs X.K Φ wf (.cons ca ts)) := by
  refine PGs.weak (pgs_cons ha hs he) fun vs σ H Q h => ?_
  obtain ⟨F, ρ, O, P, ds, ρ', sr, hv, wd, e, k⟩ := h
  simp only [evGs] at e
  split at e
  · rename_i d l'
    obtain ⟨ρ1, e1, e2⟩ := some_bind e
    unfold VRL at hv
    obtain ⟨x, xs', P1, P2, rfl, h1, h2, rfl⟩ := hv
    have w0 : Wd F H ((O ++ P1) ++ P2) := by rw [List.append_assoc]; exact wd
    refine ⟨x, xs', rfl, F, ρ, O, P1, d, ρ1, sr, h1, w0.left, e1, fun σ1 F1 H1 O1 st1 sr1 wd1 kp1 ks1 ag1 => ?_⟩
    have w1 : Wd F1 H1 (O1 ++ P2) := w0.join st1 wd1
    refine ⟨F1, ρ1, O1, P2, l', ρ', sr1, VRL.stp w0.left st1 l' xs' P2 w0.apart h2, w1, e2, fun σ2 F2 H2 O2 st2 sr2 wd2 kp2 ks2 ag2 => ?_⟩
    refine k σ2 F2 H2 O2 ?_ sr2 wd2 (kp1.trans kp2) (ks1.trans kp1 ks2) ⟨ag2.len.trans ag1.len, fun j hj => ?_⟩
    rotate_left
    · have hj' : j ∉ tgts ca ∧ j ∉ tgts ts := by simpa [tgts] using hj
      exact (ag2.at_ j hj'.2).trans (ag1.at_ j hj'.1)
    have s1 := st1.more (P := P2)
    rw [List.append_assoc] at s1
    exact s1.trans st2
  · cases e
theorem sg_tup {es : List Expr} {ts : C} {kk : Nat} (hc : X.calm = true) (hs : PGs X es (tGs X.K Φ wf ts)) (hn : (assignEach es X.env).length = es.length) (hst : (assignEach es X.env).findIdx? (·.1) = none) (hl : ∀ ds ρ ρ', evGs Φ wf ts ds ρ = some ρ' → ds.length = es.length) :
    PG X (.Tuple es kk pos) (tG X.K Φ wf (.ttup ts)) := by
  refine PG.weak (pg_tup hc hs hn hst) fun v σ H Q h => ?_
  obtain ⟨F, ρ, O, P, d, ρ', sr, hv, wd, e, k⟩ := h
  simp only [evG] at e
  split at e
  · rename_i l
    unfold VR at hv
    obtain ⟨p, xs, rfl, h1, h2⟩ := hv
    exact ⟨p, xs, rfl, h1.sq, by rw [VRL.length _ _ _ h2]; exact hl _ _ _ e, F, ρ, O, P, l, ρ', sr, h2, wd, e, k⟩
  · cases e
theorem sg_sub {x : Str} {i : Nat} {p2 : Pos} (hN : X.N[i]? = some x) (hv : Vis X.env.scope x) (hd : (x == ("__debug__" : Str)) = false) (hcd : (x == ("__classdict__" : Str)) = false) (hk : SE X Φ wf b cb)
    (has : ∀ v, assign (.Subscript (.Name x p2) b pos) X.env v = (do
      let ov ← holding [v] (eval (.Name x p2) X.env)
      let iv ← holding [v, ov] (eval b X.env)
      standAt pos
      holding [v, ov, iv] (setItem ov iv v)
      release [v, ov, iv] [])) : PG X (.Subscript (.Name x p2) b pos) (tG X.K Φ wf (.tsub i cb)) := by
  refine PG.weak (pg_sub (pe_var hN hv hd hcd) hk.pe set_list has) fun v σ H Q h => ?_
  obtain ⟨F, ρ, O, P, d, ρ', sr, hv, wd, e, k⟩ := h
  simp only [evG] at e
  obtain ⟨l0, e0, e⟩ := some_bind e
  obtain ⟨⟨rk, ρ1⟩, e1, e⟩ := some_bind e
  obtain ⟨j, rfl, e⟩ : ∃ j, rk = .d (.int j) ∧ ((ownAt ρ1 i).bind fun l => (ixN l.length j).bind fun n => setL ρ1 i (l.set n d)) = some ρ' := by
    cases rk with
    | pl i => cases e
    | d d => cases d <;> first | (cases e; done) | exact ⟨_, rfl, e⟩
  obtain ⟨l, e2, e⟩ := some_bind e
  obtain ⟨n, e3, e⟩ := some_bind e
  -- the slot's value
  have hn : n < l.length := (ixN_seq e3).2.1
  obtain ⟨p, _, _, hp, _⟩ := mutate sr wd e0
  refine ⟨.ref p, hp, F, ρ, O, _, ρ1, sr, wd.left, e1, fun vk F1 H1 O1 P1 st1 sr1 r1 wd1 kp1 => ?_⟩
  have ek : vk = .int j := vr_i (show VR X.K F1 H1 (.int j) vk P1 from r1)
  subst ek
  have hv1 : VR X.K F1 H1 d v P := VR.stp wd.left st1 d v P wd.apart hv
  have w1 : Wd F1 H1 (O1 ++ P) := wd.join (sub0 st1) wd1.left
  obtain ⟨p', xs, P', q1, q2, q3, q4⟩ := mutate sr1 w1 e2
  rw [hp] at q1
  cases q1
  obtain ⟨P2, r2, r0, r3⟩ := VRL.set q3 hv1 hn
  obtain ⟨O2, s1, s2, s3, s4⟩ := q4 _ _ P2 ρ' r2 r3 r0 e
  refine ⟨p, xs, j, n, rfl, rfl, q2, by rw [VRL.length _ _ _ q3]; exact e3, ?_⟩
  have st2 := (sub0 st1).more (P := P)
  exact k σ F1 _ O2 (st2.trans s1) s2 s3 (kp1.trans s4) Ks.refl Ag.refl
/-! ### methods that change a list -/
theorem plainB {es : List Expr} {env : PySem.Env} {p : Pos} (h : starEach es env = es.map fun e => (false, eval e env)) : (backTo p (starEach es env)).any (·.1) = false := by
  rw [h]
  unfold backTo
  simp
theorem fewB {e : Expr} {es : List Expr} {env : PySem.Env} {p : Pos} (h : starEach (e :: es) env = (e :: es).map fun e => (false, eval e env)) (hl : es.length < 20) :
    ((backTo p (starEach (e :: es) env)).all (fun x => !x.1) && (backToKw p (keywordEach [] env)).all (fun x => x.1.isSome)
      && decide ((e :: es).length + ([] : List Keyword).length + (if ([] : List Keyword).isEmpty then 0 else 1) < 30)) = true := by
  rw [h]
  have h1 : (backTo p ((e :: es).map fun e => (false, eval e env))).all (fun x => !x.1) = true := by
    unfold backTo
    simp
  have h2 : (backToKw p (keywordEach [] env)).all (fun x => x.1.isSome) = true := rfl
  rw [h1, h2]
  simp
  omega
theorem mut_step {K : PySem.W.Frag} {n : Mut} {i : Nat} {cs : C} {r : V → List V → Hp → VK → Prop} {σ : L2.St} {H : Hp} {Q : VK} (h : tE K Φ wf (.mut n i cs) σ H Q)
    (step : ∀ F H ρ O P rs vs ds l d l' p xs P', SR K F H ρ σ O → RRL K F H σ rs vs P → mutArgs n ρ rs = some ds → mutD n l ds = some (d, l') → Fl F H → H p = some (.lst xs) → VRL K F H l xs P' →
      ∃ xs2 P2 z, VRL K F H l' xs2 P2 ∧ (∀ R : List Addr, (R ++ (P' ++ P)).Nodup → (R ++ P2).Nodup) ∧ (∀ a ∈ P2, a ∈ P' ++ P) ∧ VR K F H d z [] ∧ ∀ Q, Q z (upd H p (.lst xs2)) → r (.ref p) vs H Q) :
    tBM K "list" r (tVar i) (tA K Φ wf cs) σ H Q := by
  obtain ⟨F, ρ, O, r0, ρ', sr, wd, e, k⟩ := h
  simp only [evE] at e
  obtain ⟨l0, e0, e⟩ := some_bind e
  obtain ⟨⟨rs, ρ1⟩, e1, e⟩ := some_bind e
  obtain ⟨ds, e2, e⟩ := some_bind e
  obtain ⟨l, e3, e⟩ := some_bind e
  obtain ⟨⟨d, l'⟩, e4, e⟩ := some_bind e
  obtain ⟨ρ2, e5, e⟩ := some_bind e
  cases e
  obtain ⟨p, xs0, _, hp, hp2, _⟩ := mutate sr (nil_w wd) e0
  refine ⟨.ref p, hp, .inl ⟨rfl, _, .inl (.inl hp2)⟩, F, ρ, O, rs, ρ1, sr, wd, e1, fun vs F1 H1 O1 P1 st1 sr1 rr wd1 kp1 => ?_⟩
  obtain ⟨p', xs, P', q1, q2, q3, q4⟩ := mutate sr1 wd1 e3
  rw [hp] at q1
  cases q1
  obtain ⟨xs2, P2, z, z1, z2, z3, z4, z5⟩ := step F1 H1 ρ1 O1 P1 rs vs ds l d l' p xs P' sr1 rr e2 e4 wd1.ft q2 q3
  obtain ⟨O2, s1, s2, s3, s4⟩ := q4 _ _ P2 _ z1 z2 z3 e5
  exact z5 Q (k z F1 _ O2 [] (nil_l (st1.trans s1)) s2 (VR.stp wd1 s1 d z [] (fun a ha => (nomatch ha)) z4) (nil_w s3) (kp1.trans s4))
theorem vrl1e {K : PySem.W.Frag} {F : Addr → Prop} {H : Hp} {d : D} {vs : List V} {P : List Addr} (h : VRL K F H [d] vs P) : ∃ v, vs = [v] ∧ VR K F H d v P := by
  unfold VRL at h
  obtain ⟨x, xs', P1, P2, e, h1, h2, h3⟩ := h
  unfold VRL at h2
  rw [h2.2, List.append_nil] at h3
  rw [h2.1] at e
  exact ⟨x, e, h3 ▸ h1⟩
theorem nonV {K : PySem.W.Frag} {F : Addr → Prop} {H : Hp} : VR K F H .non .non [] := by unfold VR; exact ⟨rfl, rfl⟩
theorem se_append {x : Str} {i : Nat} {p1 p2 : Pos} {es : List Expr} {cs : C} (hN : X.N[i]? = some x) (hv : Vis X.env.scope x) (hd : (x == ("__debug__" : Str)) = false) (hcd : (x == ("__classdict__" : Str)) = false) (hl : (p2.endLine == pos.line) = true) (hes : es.length < 20)
    (hs : SA X Φ wf (a :: es) cs) (hs1 : ∀ env, starEach es env = es.map fun e => (false, eval e env)) : SE X Φ wf (.Call (.Attribute (.Name x p1) "append" p2) (a :: es) [] pos) (.mut .append i cs) := by
  refine ⟨PE.weak (pe_bm PySem.F.plainAttrs_list PySem.F.slot_list_append PySem.F.type_list_append mt_append (pe_var hN hv hd hcd) hs.pa rfl (fewB (hs.st X.env) hes) hl (by rw [hs.st, hs1]; rfl) (plainB (hs1 X.env))) fun σ H Q h => ?_, plain_Call⟩
  refine mut_step h fun F H ρ O P rs vs ds l d l' p xs P' sr rr e1 e2 f q2 q3 => ?_
  have hv := vals_ok rr (show vals rs = some ds from e1)
  have e2 : appD l ds = some (d, l') := e2
  unfold appD at e2
  split at e2
  · split at e2
    · rename_i hlen
      cases e2
      obtain ⟨v, rfl, h1⟩ := vrl1e hv
      refine ⟨xs ++ [v], P' ++ P, .non, vrl_snoc q3 h1, fun R hR => hR, fun a ha => ha, nonV, fun Q q => ⟨p, xs, v, rfl, rfl, q2, ?_, q⟩⟩
      rw [VRL.length _ _ _ q3, ← lim_eq]
      exact hlen
    · cases e2
  · cases e2
theorem se_extend {x : Str} {i : Nat} {p1 p2 : Pos} {es : List Expr} {cs : C} (hN : X.N[i]? = some x) (hv : Vis X.env.scope x) (hd : (x == ("__debug__" : Str)) = false) (hcd : (x == ("__classdict__" : Str)) = false) (hl : (p2.endLine == pos.line) = true) (hes : es.length < 20)
    (hs : SA X Φ wf (a :: es) cs) (hs1 : ∀ env, starEach es env = es.map fun e => (false, eval e env)) : SE X Φ wf (.Call (.Attribute (.Name x p1) "extend" p2) (a :: es) [] pos) (.mut .extend i cs) := by
  refine ⟨PE.weak (pe_bm PySem.F.plainAttrs_list PySem.F.slot_list_extend PySem.F.type_list_extend mt_extend (pe_var hN hv hd hcd) hs.pa rfl (fewB (hs.st X.env) hes) hl (by rw [hs.st, hs1]; rfl) (plainB (hs1 X.env))) fun σ H Q h => ?_, plain_Call⟩
  refine mut_step h fun F H ρ O P rs vs ds l d l' p xs P' sr rr e1 e2 f q2 q3 => ?_
  obtain ⟨P0, hv⟩ := rds_ok sr rr (show rds ρ rs = some ds from e1)
  have e2 : extD l ds = some (d, l') := e2
  unfold extD at e2
  split at e2
  · obtain ⟨r, e3, e4⟩ := some_bind e2
    split at e4
    · rename_i hc
      rw [Bool.and_eq_true, decide_eq_true_eq] at hc
      cases e4
      obtain ⟨v, Q1, rfl, h1⟩ := vrl1 hv
      obtain ⟨b, zs, Q2, rfl, r1, r2⟩ := h1.lstAt e3
      have e5 := VRL.fz _ _ _ hc.1 r2
      subst e5
      refine ⟨xs ++ zs, P' ++ [], .non, VRL.app q3 r2, fun R hR => ?_, fun a ha => ?_, nonV, fun Q q => ⟨p, b, xs, zs, rfl, rfl, q2, r1, ?_, q⟩⟩
      · rw [List.append_nil]
        exact (List.Sublist.append_left (List.sublist_append_left P' P) R).nodup hR
      · rw [List.append_nil] at ha
        exact List.mem_append_left _ ha
      · rw [VRL.length _ _ _ q3, VRL.length _ _ _ r2, ← lim_eq]
        exact hc.2
    · cases e4
  · cases e2
theorem VRL.erase {K : PySem.W.Frag} {F : Addr → Prop} {H : Hp} : ∀ {l : List D} {xs : List V} {P : List Addr}, VRL K F H l xs P → ∀ n, ∃ P2, VRL K F H (l.eraseIdx n) (xs.eraseIdx n) P2 ∧ P2.Sublist P
  | [], xs, P, h, n => by
    unfold VRL at h
    obtain ⟨rfl, rfl⟩ := h
    exact ⟨[], by simp only [List.eraseIdx_nil]; unfold VRL; exact ⟨rfl, rfl⟩, List.Sublist.refl _⟩
  | d :: l, xs, P, h, n => by
    unfold VRL at h
    obtain ⟨x, xs', P1, P2, rfl, h1, h2, rfl⟩ := h
    cases n with
    | zero => exact ⟨P2, h2, List.sublist_append_right P1 P2⟩
    | succ n =>
      obtain ⟨P3, q1, q2⟩ := VRL.erase h2 n
      refine ⟨P1 ++ P3, ?_, q2.append_left P1⟩
      simp only [List.eraseIdx_cons_succ]
      unfold VRL
      exact ⟨x, _, P1, P3, rfl, h1, q1, rfl⟩
theorem se_pop {x : Str} {i : Nat} {p1 p2 : Pos} {es : List Expr} {cs : C} (hN : X.N[i]? = some x) (hv : Vis X.env.scope x) (hd : (x == ("__debug__" : Str)) = false) (hcd : (x == ("__classdict__" : Str)) = false) (hl : (p2.endLine == pos.line) = true) (hes : es.length < 20)
    (hs : SA X Φ wf (a :: es) cs) (hs1 : ∀ env, starEach es env = es.map fun e => (false, eval e env)) : SE X Φ wf (.Call (.Attribute (.Name x p1) "pop" p2) (a :: es) [] pos) (.mut .pop i cs) := by
  refine ⟨PE.weak (pe_bm PySem.F.plainAttrs_list PySem.F.slot_list_pop PySem.F.type_list_pop mt_popAt (pe_var hN hv hd hcd) hs.pa rfl (fewB (hs.st X.env) hes) hl (by rw [hs.st, hs1]; rfl) (plainB (hs1 X.env))) fun σ H Q h => ?_, plain_Call⟩
  refine mut_step h fun F H ρ O P rs vs ds l d l' p xs P' sr rr e1 e2 f q2 q3 => ?_
  have hv := vals_ok rr (show vals rs = some ds from e1)
  have e2 : popD l ds = some (d, l') := e2
  obtain ⟨i, rfl⟩ : ∃ i, ds = [.int i] := by
    unfold popD at e2
    split at e2
    · exact ⟨_, rfl⟩
    · cases e2
  unfold popD at e2
  simp only at e2
  · split at e2
    · rename_i hb
      obtain ⟨n, e3, e2⟩ := some_bind e2
      obtain ⟨d1, e4, e2⟩ := some_bind e2
      split at e2
      · rename_i hf
        cases e2
        obtain ⟨v, rfl, h1⟩ := vrl1e hv
        have hi : v = .int i := vr_i h1
        subst hi
        obtain ⟨z, Px, z1, z2, z3⟩ := VRL.get q3 e4
        have := VR.fz _ _ _ hf z2
        subst this
        obtain ⟨P2, y1, y2⟩ := VRL.erase q3 n
        refine ⟨xs.eraseIdx n, P2, z, y1, fun R hR => (List.Sublist.append_left (y2.trans (List.sublist_append_left P' P)) R).nodup hR, fun a ha => List.mem_append_left _ (y2.subset ha), z2, fun Q q => ⟨p, xs, i, n, z, rfl, rfl, q2, hb.1, hb.2, ?_, z1, q⟩⟩
        rw [VRL.length _ _ _ q3] 
        exact (ixN_seq e3).1
      · cases e2
    · cases e2
end
end Co

set_option maxRecDepth 100000
set_option maxHeartbeats 1000000
/-! Core7: calls -/
namespace Co
open PySem PySem.Spec PyProof.Rows L2

/-- the arguments' slots and what the callee leaves -/
inductive Ko : List Sl → List Sl → Prop where
  | nil : Ko [] []
  | v {d : D} {as os : List Sl} : Ko as os → Ko (.v d :: as) (.no :: os)
  | no {as os : List Sl} : Ko as os → Ko (.no :: as) (.no :: os)
  | bo {d d' : D} {as os : List Sl} : Ko as os → Ko (.bo d :: as) (.bo d' :: os)
  | lk {d : D} {as os : List Sl} : Ko as os → Ko (.lk d :: as) (.lk d :: os)
def clear (ρ : Env) : List Nat → Env
  | [] => ρ
  | i :: is => clear (ρ.set i .no) is

section
variable {K : PySem.W.Frag} {F : Addr → Prop} {H : Hp} {σ : L2.St}
theorem argOf_set {ρ : Env} {i : Nat} {s : Sl} {r : R} (h : ∀ j, r = .pl j → j ≠ i) : argOf (ρ.set i s) r = argOf ρ r := by
  cases r with
  | d d => rfl
  | pl j =>
    have : j ≠ i := h j rfl
    show lentS _ = lentS _
    rw [List.getElem?_set_ne (Ne.symm this)]
theorem argsOf_set {ρ : Env} {i : Nat} {s : Sl} : ∀ {rs : List R}, i ∉ places rs → argsOf (ρ.set i s) rs = argsOf ρ rs
  | [], _ => rfl
  | .d d :: rs, h => by
    show ((argOf (ρ.set i s) (.d d)).bind fun s' => (argsOf (ρ.set i s) rs).map (s' :: ·)) = _
    rw [argsOf_set (rs := rs) h]
    rfl
  | .pl j :: rs, h => by
    have h' : i ≠ j ∧ i ∉ places rs := by simpa [places] using h
    show ((argOf (ρ.set i s) (.pl j)).bind fun s' => (argsOf (ρ.set i s) rs).map (s' :: ·)) = _
    rw [argsOf_set (rs := rs) h'.2, argOf_set (fun k hk => by cases hk; exact Ne.symm h'.1)]
    rfl
theorem clear_set {ρ : Env} {i : Nat} {s : Sl} : ∀ {is : List Nat}, i ∉ is → ∀ {ρ : Env}, clear (ρ.set i s) is = (clear ρ is).set i s
  | [], _, _ => rfl
  | j :: is, h, ρ => by
    have h' : i ≠ j ∧ i ∉ is := by simpa using h
    show clear ((ρ.set i s).set j .no) is = (clear (ρ.set j .no) is).set i s
    rw [List.set_comm _ _ h'.1]
    exact clear_set (ρ := ρ) h'.2
theorem clear_get {i : Nat} : ∀ {is : List Nat}, i ∉ is → ∀ {ρ : Env}, (clear ρ is)[i]? = ρ[i]?
  | [], _, _ => rfl
  | j :: is, h, ρ => by
    have h' : i ≠ j ∧ i ∉ is := by simpa using h
    show (clear (ρ.set j .no) is)[i]? = _
    rw [clear_get h'.2, List.getElem?_set_ne (Ne.symm h'.1)]
/-- the arguments' slots, taken out of the caller's -/
theorem lend : ∀ {rs : List R} {ρ : Env} {vs : List V} {P : List Addr} {as : List Sl} {O : List Addr}, SR K F H ρ σ O → RRL K F H σ rs vs P → argsOf ρ rs = some as → (places rs).Nodup →
    ∃ Or Oa, SR K F H (clear ρ (places rs)) σ Or ∧ SR K F H as (vs.map some) Oa ∧ (O ++ P).Perm (Or ++ Oa)
  | [], ρ, vs, P, as, O, sr, rr, e, nd => by
    obtain ⟨rfl, rfl⟩ := rr
    cases e
    exact ⟨O, [], sr, ⟨rfl, rfl⟩, .refl _⟩
  | .d d :: rs, ρ, vs, P, as, O, sr, rr, e, nd => by
    obtain ⟨x, xs', P1, P2, rfl, h1, h2, rfl⟩ := rr
    obtain ⟨as', e1, rfl⟩ : ∃ as', argsOf ρ rs = some as' ∧ Sl.v d :: as' = as := by
      have e : ((some (Sl.v d)).bind fun s => (argsOf ρ rs).map (s :: ·)) = some as := e
      simpa using e
    obtain ⟨Or, Oa, q1, q2, q3⟩ := lend sr h2 e1 nd
    refine ⟨Or, P1 ++ Oa, q1, ⟨some x, xs'.map some, P1, Oa, rfl, ⟨x, rfl, h1⟩, q2, rfl⟩, ?_⟩
    have a1 : (O ++ (P1 ++ P2)).Perm (P1 ++ (O ++ P2)) := by
      rw [← List.append_assoc, ← List.append_assoc]
      exact List.perm_append_comm.append_right P2
    have a2 : (P1 ++ (Or ++ Oa)).Perm (Or ++ (P1 ++ Oa)) := by
      rw [← List.append_assoc, ← List.append_assoc]
      exact List.perm_append_comm.append_right Oa
    exact a1.trans ((q3.append_left P1).trans a2)
  | .pl i :: rs, ρ, vs, P, as, O, sr, rr, e, nd => by
    obtain ⟨x, xs', P1, P2, rfl, ⟨h1, e9⟩, h2, e8⟩ := rr
    subst e9
    have e8 : P = P2 := e8
    subst e8
    have nd' : i ∉ places rs ∧ (places rs).Nodup := by simpa [places] using nd
    have e : ((argOf ρ (.pl i)).bind fun s => (argsOf ρ rs).map (s :: ·)) = some as := e
    obtain ⟨s', e0, e⟩ := some_bind e
    obtain ⟨as', e1, rfl⟩ : ∃ as', argsOf ρ rs = some as' ∧ s' :: as' = as := by simpa using e
    obtain ⟨s, es, hs⟩ : ∃ s, ρ[i]? = some s ∧ ∀ {P : List Addr} {ov : Option V}, S1 K F H s ov P → S1 K F H s' ov P := by
      have e0 : lentS ρ[i]? = some s' := e0
      unfold lentS at e0
      split at e0
      · rename_i h; cases e0; exact ⟨_, h, fun q => q⟩
      · rename_i h; cases e0; exact ⟨_, h, fun q => q⟩
      · rename_i h; cases e0; exact ⟨_, h, fun q => q⟩
      · cases e0
    obtain ⟨ov, Pi, O', t1, t2, t3, t4⟩ := SR.take sr es
    rw [h1] at t1
    cases t1
    obtain ⟨Or, Oa, q1, q2, q3⟩ := lend (ρ := ρ.set i .no) t3 h2 (by rw [argsOf_set nd'.1]; exact e1) nd'.2
    refine ⟨Or, Pi ++ Oa, q1, ⟨some x, xs'.map some, Pi, Oa, rfl, hs t2, q2, rfl⟩, ?_⟩
    have a1 : (O ++ P).Perm (Pi ++ (O' ++ P)) := by
      have : (O ++ P).Perm ((O' ++ Pi) ++ P) := t4.append_right P
      refine this.trans ?_
      rw [← List.append_assoc]
      exact List.perm_append_comm.append_right P
    have a2 : (Pi ++ (Or ++ Oa)).Perm (Or ++ (Pi ++ Oa)) := by
      rw [← List.append_assoc, ← List.append_assoc]
      exact List.perm_append_comm.append_right Oa
    exact a1.trans ((q3.append_left Pi).trans a2)
/-- .. and put back -/
theorem giveback : ∀ {rs : List R} {ρ : Env} {vs : List V} {as os : List Sl} {Or Oo : List Addr} {F0 : Addr → Prop} {H0 : Hp} {P : List Addr}, SR K F H (clear ρ (places rs)) σ Or → SR K F H os (vs.map some) Oo → argsOf ρ rs = some as → Ko as os → RRL K F0 H0 σ rs vs P → (places rs).Nodup →
    ∃ O2, SR K F H (back ρ rs os) σ O2 ∧ O2.Perm (Or ++ Oo) ∧ Kp ρ (back ρ rs os)
  | [], ρ, vs, as, os, Or, Oo, F0, H0, P, sr, so, e, ko, rr, nd => by
    obtain ⟨rfl, _⟩ := rr
    cases e
    cases ko
    obtain ⟨_, rfl⟩ := so
    exact ⟨Or, sr, by simp, Kp.refl⟩
  | .d d :: rs, ρ, vs, as, os, Or, Oo, F0, H0, P, sr, so, e, ko, rr, nd => by
    obtain ⟨x, xs', P1, P2, rfl, _, h2, _⟩ := rr
    obtain ⟨as', e1, rfl⟩ : ∃ as', argsOf ρ rs = some as' ∧ Sl.v d :: as' = as := by
      have e : ((some (Sl.v d)).bind fun s => (argsOf ρ rs).map (s :: ·)) = some as := e
      simpa using e
    cases ko with
    | v ko =>
      obtain ⟨ov, σ', O1, O2, he, z1, z2, z3⟩ := so
      have : O1 = [] := z1
      subst this z3
      cases he
      obtain ⟨O3, q1, q2, q3⟩ := giveback (rs := rs) sr z2 e1 ko h2 nd
      exact ⟨O3, q1, q2, q3⟩
  | .pl i :: rs, ρ, vs, as, os, Or, Oo, F0, H0, P, sr, so, e, ko, rr, nd => by
    obtain ⟨x, xs', P1, P2, rfl, ⟨h1, _⟩, h2, _⟩ := rr
    have nd' : i ∉ places rs ∧ (places rs).Nodup := by simpa [places] using nd
    have e : ((argOf ρ (.pl i)).bind fun s => (argsOf ρ rs).map (s :: ·)) = some as := e
    obtain ⟨s', e0, e⟩ := some_bind e
    obtain ⟨as', e1, rfl⟩ : ∃ as', argsOf ρ rs = some as' ∧ s' :: as' = as := by simpa using e
    -- the slot as it is to be
    have main : ∀ (s n : Sl) (os' : List Sl), ρ[i]? = some s → os = n :: os' → Ko as' os' → (∀ {P : List Addr} {ov : Option V}, S1 K F H n ov P → S1 K F H (backOne s n) ov P) → (∀ d, s = .bo d → ∃ d', backOne s n = .bo d') → (∀ d, s = .lk d → backOne s n = .lk d) →
        ∃ O2, SR K F H (back ρ (.pl i :: rs) os) σ O2 ∧ O2.Perm (Or ++ Oo) ∧ Kp ρ (back ρ (.pl i :: rs) os) := by
      intro s n os' es eo ko' hS hb hl
      subst eo
      obtain ⟨ov, σ', O1, O2, he, z1, z2, z3⟩ := so
      subst z3
      cases he
      have eb : back ρ (.pl i :: rs) (n :: os') = back (ρ.set i (backOne s n)) rs os' := by
        show back (match ρ[i]? with | some o => ρ.set i (backOne o n) | none => ρ) rs os' = _
        rw [es]
      rw [eb]
      have sr1 : SR K F H ((clear ρ (places rs)).set i .no) σ Or := by
        have : SR K F H (clear (ρ.set i .no) (places rs)) σ Or := sr
        rw [clear_set (ρ := ρ) nd'.1] at this
        exact this
      have ec : ((clear ρ (places rs)).set i .no)[i]? = some .no := get_set_same (y := s) (by rw [clear_get nd'.1]; exact es)
      obtain ⟨O3, y1, y2⟩ := SR.put sr1 ec (hS z1)
      rw [set_set, set_same h1, ← clear_set (ρ := ρ) nd'.1] at y1
      obtain ⟨O4, q1, q2, q3⟩ := giveback (ρ := ρ.set i (backOne s n)) y1 z2 (by rw [argsOf_set nd'.1]; exact e1) ko' h2 nd'.2
      refine ⟨O4, q1, q2.trans ?_, (Kp.set es hb hl).trans q3⟩
      rw [← List.append_assoc]
      exact y2.append_right O2
    have e0 : lentS ρ[i]? = some s' := e0
    unfold lentS at e0
    split at e0
    · rename_i d es
      cases e0
      cases ko with
      | bo ko => exact main _ _ _ es rfl ko (fun q => q) (fun d h => by cases h) (fun d h => by cases h)
    · rename_i d es
      cases e0
      cases ko with
      | bo ko => exact main _ _ _ es rfl ko (fun q => q) (fun d h => ⟨_, rfl⟩) (fun d h => by cases h)
    · rename_i d es
      cases e0
      cases ko with
      | lk ko => exact main _ _ _ es rfl ko (fun q => q) (fun d h => by cases h) (fun d h => h)
    · cases e0
end

/-- a def's promise: what the evaluator says of it -/
def spF (K : PySem.W.Frag) (g : List Sl → Option (D × List Sl)) : Sp := fun vs H Q _ => ∃ F as O d os, SR K F H as (vs.map some) O ∧ Wd F H O ∧ g as = some (d, os) ∧
  ∀ v F' H' O' P, Stp F H O F' H' (O' ++ P) → SR K F' H' os (vs.map some) O' → VR K F' H' d v P → Wd F' H' (O' ++ P) → Ko as os → Q v H'

section
variable {X : Cx} {Φ : Nat → List Sl → Option (D × List Sl)} {wf : Nat} {a b c : Expr} {ca cb cc : C} {pos : Pos}
/-- a def at its place -/
structure DefAt (X : Cx) (g : List Sl → Option (D × List Sl)) (k : Nat) (x : Str) : Prop where
  ex : ∃ f fd ps, X.mg x = some (.ref f) ∧ FnOk X.prog X.w X.K X.mg X.base CX0 k f fd ps (spF X.K g) ∧ PySem.W.keepIn X.K (.ref f) = true ∧ Binds X.K fd ps []
theorem call_red {K : PySem.W.Frag} {f : Nat} {cs : C} {σ : L2.St} {H : Hp} {Q : VK} (h : tE K Φ wf (.call f cs) σ H Q) : tCall (spF K (Φ f)) [] E0 (tA K Φ wf cs) σ H Q := by
  obtain ⟨F, ρ, O, r, ρ', sr, wd, e, k⟩ := h
  simp only [evE] at e
  obtain ⟨⟨rs, ρ1⟩, e1, e⟩ := some_bind e
  split at e
  · rename_i nd
    obtain ⟨as, e2, e⟩ := some_bind e
    obtain ⟨⟨d, os⟩, e3, e⟩ := some_bind e
    cases e
    refine ⟨F, ρ, O, rs, ρ1, sr, wd, e1, fun vs F1 H1 O1 P1 st1 sr1 rr wd1 kp1 => ?_⟩
    obtain ⟨Or, Oa, q1, q2, q3⟩ := lend sr1 rr e2 nd
    have w1 : Wd F1 H1 (Or ++ Oa) := wd1.perm q3
    refine ⟨F1, as, Oa, d, os, by rw [List.append_nil]; exact q2, w1.right, e3, fun v F2 H2 O2 P st2 so vr wd2 ko => ?_⟩
    rw [List.append_nil] at so
    have sr2 : SR K F2 H2 (clear ρ1 (places rs)) σ Or := SR.stp w1.right st2 w1.apart' q1
    obtain ⟨O3, r1, r2, r3⟩ := giveback sr2 so e2 ko rr nd
    have w2 : Wd F2 H2 ((O2 ++ P) ++ Or) := Wd.join (w1.perm List.perm_append_comm) st2 wd2
    have pm : ((O2 ++ P) ++ Or).Perm (O3 ++ P) := by
      refine List.perm_append_comm.trans ?_
      rw [← List.append_assoc]
      exact r2.symm.append_right P
    have s2 := st2.more (P := Or)
    have s3 : Stp F1 H1 (O1 ++ P1) F2 H2 (O3 ++ P) := (s2.sub fun x hx => pm.symm.subset hx).sup fun x hx => (q3.trans List.perm_append_comm).symm.subset hx
    exact k v F2 H2 O3 P (st1.trans s3) r1 vr (w2.perm pm) (kp1.trans r3)
  · cases e
theorem se_call {x : Str} {p : Pos} {f : Nat} {kk : Nat} {es : List Expr} {cs : C} (G : DefAt X (Φ f) kk x) (hr : Room kk X.A) (hg : Gl X x) (hd : (x == ("__debug__" : Str)) = false) (hs : SA X Φ wf (a :: es) cs) (hs1 : ∀ env, starEach es env = es.map fun e => (false, eval e env)) :
    SE X Φ wf (.Call (.Name x p) (a :: es) [] pos) (.call f cs) := by
  obtain ⟨fa, fd, ps, e1, e2, e3, e4⟩ := G.ex
  exact ⟨PE.weak (pe_call e2 hr hg e1 e3 e4 .nil pass0 hs.pa hd (by rw [hs.st, hs1]; rfl) (plainB (hs1 X.env))) fun σ H Q h => call_red h, plain_Call⟩
theorem se_call0 {x : Str} {p : Pos} {f : Nat} {kk : Nat} (G : DefAt X (Φ f) kk x) (hr : Room kk X.A) (hg : Gl X x) (hd : (x == ("__debug__" : Str)) = false) : SE X Φ wf (.Call (.Name x p) [] [] pos) (.call f .nil) := by
  obtain ⟨fa, fd, ps, e1, e2, e3, e4⟩ := G.ex
  refine ⟨PE.weak (pe_call0 e2 hr hg e1 e3 e4 .nil pass0 hd) fun σ H Q h => ?_, plain_Call⟩
  have q := call_red h
  obtain ⟨F, ρ, O, rs, ρ', sr, wd, e, k⟩ := q
  simp only [evA] at e
  cases e
  exact k [] F H O [] (nil_l Stp.refl) sr ⟨rfl, rfl⟩ (nil_w wd) Kp.refl
end
end Co

set_option maxRecDepth 100000
set_option maxHeartbeats 1000000
/-! Core8: what is walked, comprehensions -/
namespace Co
open PySem PySem.Spec PyProof.Rows L2

/-- an iterator gives the data ds, as long as the slots stand -/
def IterOk (K : PySem.W.Frag) (J : It) (F : Addr → Prop) (H : Hp) (O : List Addr) (ρ : Env) (σ : L2.St) (ds : List D) : Prop :=
  ∃ (G : Hp → Prop) (Y : Nat → Hp → V → Hp → Prop), Walk J ds.length G Y ∧
    ∀ F2 H2 O2 ρ2 σ2, Stp F H O F2 H2 O2 → Wd F2 H2 O2 → SR K F2 H2 ρ2 σ2 O2 → Kp ρ ρ2 → Ks ρ σ σ2 →
      G H2 ∧ ∀ i x H3, i < ds.length → Y i H2 x H3 → Stp F2 H2 [] F2 H3 [] ∧ ∃ d, ds[i]? = some d ∧ VR K F2 H3 d x []
section
variable (K : PySem.W.Frag) (Φ : Nat → List Sl → Option (D × List Sl)) (wf : Nat)
def tI (c : C) : TI := fun σ H R => ∃ F ρ O ds lk ρ1, SR K F H ρ σ O ∧ Wd F H O ∧ evI Φ wf c ρ = some (ds, lk, ρ1) ∧
  ∀ J F' H' O', Stp F H O F' H' O' → SR K F' H' (lock ρ1 lk) σ O' → Wd F' H' O' → Kp ρ ρ1 → (∀ i, lk = some i → ∃ l, ownAt ρ1 i = some l) → IterOk K J F' H' O' (lock ρ1 lk) σ ds → R J H'
end
section
variable {K : PySem.W.Frag} {F : Addr → Prop} {H : Hp} {O : List Addr} {ρ : Env} {σ : L2.St}
theorem lock_sr {lk : Option Nat} {i : Nat} (sr : SR K F H ρ σ O) : SR K F H (lock ρ lk) σ O ∨ True := .inr trivial
/-- a slot's flavour changed, its content as it is -/
theorem reslot : ∀ {ρ : Env} {σ : List (Option V)} {O : List Addr} {i : Nat} {s s' : Sl}, SR K F H ρ σ O → ρ[i]? = some s → (∀ {ov P}, S1 K F H s ov P → S1 K F H s' ov P) → SR K F H (ρ.set i s') σ O
  | [], _, _, _, _, _, _, e, _ => by simp at e
  | sl :: ρ, σ, O, 0, s, s', h, e, hs => by
    obtain ⟨ov, σ', O1, O2, e1, h1, h2, e2⟩ := h
    simp at e
    subst e
    exact ⟨ov, σ', O1, O2, e1, hs h1, h2, e2⟩
  | sl :: ρ, σ, O, i + 1, s, s', h, e, hs => by
    obtain ⟨ov, σ', O1, O2, e1, h1, h2, e2⟩ := h
    exact ⟨ov, σ', O1, O2, e1, h1, reslot (i := i) h2 (by simpa using e) hs, e2⟩
theorem lock_ok {i : Nat} {l : List D} (sr : SR K F H ρ σ O) (e : ownAt ρ i = some l) : SR K F H (lock ρ (some i)) σ O ∧ (lock ρ (some i))[i]? = some (.lk (.own l)) := by
  rcases own_slot e with e1 | e1
  · have : lock ρ (some i) = ρ.set i (.lk (.own l)) := by simp only [lock, e1]
    rw [this]
    exact ⟨reslot sr e1 (fun h => h), get_set_same e1⟩
  · have : lock ρ (some i) = ρ.set i (.lk (.own l)) := by simp only [lock, e1]
    rw [this]
    exact ⟨reslot sr e1 (fun h => h), get_set_same e1⟩
/-- a locked slot's list, at any later state -/
theorem locked {i : Nat} {l : List D} {F2 : Addr → Prop} {H2 : Hp} {O2 : List Addr} {ρ2 : Env} {σ2 : L2.St} {a : Addr} (sr2 : SR K F2 H2 ρ2 σ2 O2) (e : ρ2[i]? = some (.lk (.own l))) (hv : σ2[i]? = some (some (.ref a))) (hf : fzL l = true) :
    ∃ xs, SqL K H2 a xs ∧ VRL K F2 H2 l xs [] := by
  obtain ⟨ov, P, O', q1, q2, _, _⟩ := SR.take sr2 e
  rw [hv] at q1
  cases q1
  obtain ⟨v, e1, h⟩ := q2
  cases e1
  unfold VR at h
  obtain ⟨p, xs, P', e2, h1, h2, _⟩ := h
  cases e2
  have := VRL.fz l xs P' hf h2
  subst this
  exact ⟨xs, SqL.of h1, h2⟩
/-- .. the same of any list or tuple that stands -/
def Reads (K : PySem.W.Frag) (F : Addr → Prop) (H : Hp) (O : List Addr) (ρ : Env) (σ : L2.St) (l : List D) (A : Hp → List V → Prop) : Prop :=
  ∀ F2 H2 O2 ρ2 σ2, Stp F H O F2 H2 O2 → Wd F2 H2 O2 → SR K F2 H2 ρ2 σ2 O2 → Kp ρ ρ2 → Ks ρ σ σ2 → ∃ xs, A H2 xs ∧ VRL K F2 H2 l xs []
def isT : R → Bool
  | .d (.tup _) => true
  | _ => false
def SqX (K : PySem.W.Frag) (b : Bool) (H : Hp) (a : Addr) (xs : List V) : Prop := if b = true then SqT K H a xs else SqL K H a xs
theorem wd0 {F : Addr → Prop} {H : Hp} {O : List Addr} (w : Wd F H O) : Wd F H [] := wd_nil w.ft
def SrcPost (K : PySem.W.Frag) (F : Addr → Prop) (H : Hp) (O : List Addr) (ρ : Env) (σ : L2.St) (v : V) (ds : List D) (lk : Option Nat) (b : Bool) : Prop :=
    fzL ds = true ∧ SR K F H (lock ρ lk) σ O ∧ (∀ i, lk = some i → ∃ l, ownAt ρ i = some l) ∧ ∃ a, v = .ref a ∧ (∃ xs, SqX K b H a xs) ∧ Reads K F H O (lock ρ lk) σ ds (fun H xs => SqX K b H a xs)
theorem src_ok {r : R} {v : V} {P : List Addr} {ds : List D} {lk : Option Nat} (sr : SR K F H ρ σ O) (wd : Wd F H (O ++ P)) (h : RR K F H σ r v P) (e : srcOf ρ r = some (ds, lk)) :
    SrcPost K F H O ρ σ v ds lk (isT r) := by
  cases r with
  | d d =>
    obtain ⟨l, e1, e2⟩ := some_bind (show (d.items.bind fun l => if fzL l then some (l, none) else none) = some (ds, lk) from e)
    split at e2
    · rename_i hf
      cases e2
      refine ⟨hf, sr, (fun i hi => (by cases hi)), ?_⟩
      have h : VR K F H d v P := h
      have frozen : ∀ {a : Addr} {A : Hp → List V → Prop} (xs : List V), VRL K F H ds xs [] → A H xs → (∀ F2 H2 O2, Stp F H O F2 H2 O2 → A H2 xs) → Reads K F H O (lock ρ none) σ ds A := by
        intro a A xs hv hA hs F2 H2 O2 ρ2 σ2 st _ _ _ _
        exact ⟨xs, hs F2 H2 O2 st, VRL.stp wd.left st ds xs [] (fun _ z => (nomatch z)) hv⟩
      cases d with
      | tup l0 =>
        cases e1
        unfold VR at h
        obtain ⟨a, xs, rfl, h1, h2⟩ := h
        have := VRL.fz _ xs P hf h2
        subst this
        exact ⟨a, rfl, ⟨xs, h1.sq⟩, frozen (a := a) (A := fun H xs => SqT K H a xs) xs h2 h1.sq fun F2 H2 O2 st => SqT.stp wd.left st h1.sq⟩
      | lst l0 =>
        cases e1
        unfold VR at h
        obtain ⟨a, xs, rfl, h1, h2, h3, _⟩ := h
        exact ⟨a, rfl, ⟨xs, SqL.of h2⟩, frozen (a := a) (A := fun H xs => SqL K H a xs) xs h3 (SqL.of h2) fun F2 H2 O2 st => SqL.of (st.fr a _ h2 fun z => wd.left.nf a z h1)⟩
      | ro l0 =>
        cases e1
        unfold VR at h
        obtain ⟨a, xs, rfl, h1, h3, _⟩ := h
        exact ⟨a, rfl, ⟨xs, h1.sq⟩, frozen (a := a) (A := fun H xs => SqL K H a xs) xs h3 h1.sq fun F2 H2 O2 st => (RoL.stp wd.left st h1).sq⟩
      | own l0 =>
        cases e1
        unfold VR at h
        obtain ⟨a, xs, P', rfl, h1, h2, h3⟩ := h
        have := VRL.fz _ xs P' hf h2
        subst this h3
        exact ⟨a, rfl, ⟨xs, SqL.of h1⟩, frozen (a := a) (A := fun H xs => SqL K H a xs) xs h2 (SqL.of h1) fun F2 H2 O2 st => SqL.of (st.fr a _ h1 (wd.apart a (by simp)))⟩
      | _ => cases e1
    · cases e2
  | pl i =>
    obtain ⟨h1, _⟩ := h
    have main : ∀ (l : List D) (lk' : Option Nat), ds = l → lk = lk' → fzL l = true → (lock ρ lk')[i]? = some (.lk (.own l)) → SR K F H (lock ρ lk') σ O → (∀ j, lk' = some j → ∃ l, ownAt ρ j = some l) → SrcPost K F H O ρ σ v ds lk (isT (.pl i)) := by
      intro l lk' e1 e2 hf e3 sr2 h4
      subst e1 e2
      refine ⟨hf, sr2, h4, ?_⟩
      obtain ⟨ov, P1, O', q1, q2, _, _⟩ := SR.take sr2 e3
      rw [h1] at q1
      cases q1
      obtain ⟨w, e5, q2⟩ := q2
      cases e5
      unfold VR at q2
      obtain ⟨a, xs, P', rfl, z1, z2, _⟩ := q2
      refine ⟨a, rfl, ⟨xs, SqL.of z1⟩, fun F2 H2 O2 ρ2 σ2 st w2 sr3 kp ks => ?_⟩
      exact locked sr3 (kp.lk i _ e3) ((ks i (.inr ⟨_, e3⟩)).trans h1) hf
    have e : (match ρ[i]? with
      | some (.v (.own l)) => if fzL l then some (l, some i) else none
      | some (.bo (.own l)) => if fzL l then some (l, some i) else none
      | some (.lk (.own l)) => if fzL l then some (l, none) else none
      | _ => none) = some (ds, lk) := e
    split at e
    · rename_i l e1
      split at e
      · rename_i hf
        cases e
        have eo : ownAt ρ i = some ds := by unfold ownAt; rw [e1]
        obtain ⟨s1, s2⟩ := lock_ok sr eo
        exact main ds (some i) rfl rfl hf s2 s1 fun j hj => by cases hj; exact ⟨_, eo⟩
      · cases e
    · rename_i l e1
      split at e
      · rename_i hf
        cases e
        have eo : ownAt ρ i = some ds := by unfold ownAt; rw [e1]
        obtain ⟨s1, s2⟩ := lock_ok sr eo
        exact main ds (some i) rfl rfl hf s2 s1 fun j hj => by cases hj; exact ⟨_, eo⟩
      · cases e
    · rename_i l e1
      split at e
      · rename_i hf
        cases e
        exact main ds none rfl rfl hf e1 sr fun j hj => by cases hj
      · cases e
    · cases e
theorem walkX {b : Bool} {a : Addr} {n : Nat} : Walk (if b = true then Itt K a else Itl K a) n (fun H => ∃ xs, SqX K b H a xs ∧ xs.length = n) (fun i H x H' => H' = H ∧ ∀ xs, SqX K b H a xs → xs[i]? = some x) := by
  cases b with
  | true => exact ⟨fun i H hi ⟨xs, h, e⟩ => ⟨xs, xs[i]'(by omega), h, by simp⟩, fun H ⟨xs, h, e⟩ => ⟨xs, h, Nat.le_of_eq e⟩, fun i H x H' hi g y => y⟩
  | false => exact ⟨fun i H hi ⟨xs, h, e⟩ => ⟨xs, xs[i]'(by omega), h, by simp⟩, fun H ⟨xs, h, e⟩ => ⟨xs, h, Nat.le_of_eq e⟩, fun i H x H' hi g y => y⟩
theorem iter_of {b : Bool} {a : Addr} {ds : List D} {ρl : Env} (h : Reads K F H O ρl σ ds (fun H xs => SqX K b H a xs)) : IterOk K (if b = true then Itt K a else Itl K a) F H O ρl σ ds := by
  refine ⟨_, _, walkX (b := b) (a := a) (n := ds.length), fun F2 H2 O2 ρ2 σ2 st w sr kp ks => ?_⟩
  obtain ⟨xs, h1, h2⟩ := h F2 H2 O2 ρ2 σ2 st w sr kp ks
  refine ⟨⟨xs, h1, VRL.length _ _ _ h2⟩, fun i x H3 hi y => ?_⟩
  obtain ⟨rfl, y⟩ := y
  refine ⟨Stp.refl, ds[i], by simp [hi], ?_⟩
  obtain ⟨v, Pv, e1, e2, e3⟩ := VRL.get h2 (show ds[i]? = some ds[i] by simp [hi])
  have e4 := y xs h1
  rw [e1] at e4
  cases e4
  have : Pv = [] := by
    have := e3.length_le
    simpa using this
  subst this
  exact e2
/-- .. numbered -/
theorem enum_len : ∀ (l : List D) (k : Nat), (enumL k l).length = l.length
  | [], _ => rfl
  | d :: l, k => by show (enumL (k + 1) l).length + 1 = l.length + 1; rw [enum_len l (k + 1)]
theorem enum_get : ∀ {l : List D} {k i : Nat} {d : D}, l[i]? = some d → (enumL k l)[i]? = some (.tup [.int ((k + i : Nat) : Int), d])
  | [], _, _, _, e => by simp at e
  | x :: l, k, 0, d, e => by simp at e; subst e; rfl
  | x :: l, k, i + 1, d, e => by
    show (enumL (k + 1) l)[i]? = _
    rw [enum_get (k := k + 1) (i := i) (by simpa using e)]
    have : k + 1 + i = k + (i + 1) := by omega
    rw [this]
end
section
variable {X : Cx} {Φ : Nat → List Sl → Option (D × List Sl)} {wf : Nat} {a b c tg : Expr} {ca cb cc : C} {pos : Pos}
theorem PI.weak {e : Expr} {t u : TI} (h : PI X tg e t) (w : ∀ σ H Q, u σ H Q → t σ H Q) : PI X tg e u := ⟨fun pins s σ H R I q => h.run pins s σ H R I (w σ H R q)⟩
theorem PI.or {e : Expr} {t u : TI} (h : PI X tg e t) (h2 : PI X tg e u) : PI X tg e (fun σ H R => t σ H R ∨ u σ H R) := ⟨fun pins s σ H R I q => by
  rcases q with q | q
  · exact h.run pins s σ H R I q
  · exact h2.run pins s σ H R I q⟩
theorem si_seq (ha : SE X Φ wf a ca) : PI X tg a (tI X.K Φ wf (.sseq ca)) := by
  refine PI.weak (PI.or (pi_list ha.pe) (pi_tup ha.pe)) fun σ H R h => ?_
  obtain ⟨F, ρ, O, ds, lk, ρ1, sr, wd, e, k⟩ := h
  simp only [evI] at e
  obtain ⟨⟨r, ρ2⟩, e1, e⟩ := some_bind e
  obtain ⟨⟨l, lk'⟩, e2, e⟩ := some_bind e
  cases e
  have main : ∀ b, isT r = b → tE X.K Φ wf ca σ H fun x H1 => ∃ a, x = .ref a ∧ (∃ xs, SqX X.K b H1 a xs) ∧ R (if b = true then Itt X.K a else Itl X.K a) H1 := by
    intro b hb
    refine ⟨F, ρ, O, r, _, sr, wd, e1, fun v F2 H2 O2 P st sr2 rr wd2 kp => ?_⟩
    obtain ⟨hf, s1, s2, p, rfl, s3, s4⟩ := src_ok sr2 wd2 rr e2
    rw [hb] at s3 s4
    exact ⟨p, rfl, s3, k _ F2 H2 O2 (sub0 st) s1 wd2.left kp s2 (iter_of s4)⟩
  cases hb : isT r with
  | true => exact .inr (main true hb)
  | false => exact .inl (main false hb)
theorem rng_len (x y : Int) : (rngD x y).length = (y - x).toNat := by unfold rngD; simp
theorem rng_get {x y : Int} {i : Nat} (h : i < (y - x).toNat) : (rngD x y)[i]? = some (.int (x + i)) := by
  unfold rngD
  rw [List.getElem?_map, List.getElem?_range h]
  rfl
theorem iter_rng {K : PySem.W.Frag} {F : Addr → Prop} {H : Hp} {O : List Addr} {ρ : Env} {σ : L2.St} {x y : Int} : IterOk K (Itr x (y - x).toNat) F H O ρ σ (rngD x y) := by
  refine ⟨_, _, by rw [rng_len]; exact walk_range, fun F2 H2 O2 ρ2 σ2 st w sr kp ks => ⟨trivial, fun i v H3 hi q => ?_⟩⟩
  rw [rng_len] at hi
  obtain ⟨rfl, rfl⟩ := q
  exact ⟨Stp.refl, _, rng_get hi, by unfold VR; exact ⟨rfl, rfl⟩⟩
end
end Co

set_option maxRecDepth 100000
set_option maxHeartbeats 2000000
/-! Core8E: enumerate of a list, a tuple -/
namespace PySem
open Sem (wp)
theorem meets_enum1 {v : Value} {o : Obj} {H : Heap → Prop} (B : Begins v o H) :
    Meets (Builtin.«enumerate.__new__» ⟨[.type "enumerate", v], []⟩) (fun _ R s => H s.heap ∧
      R (.ok (.ret (.ref (s.heap.push o).objs.size))) { s with heap := (s.heap.push o).push { cls := .type "enumerate", data := .fields #[.none, .bool false, .ref s.heap.objs.size, rawInt 0, .none, .none] } }) :=
  .of_wp fun prog w A R s h => by
    obtain ⟨hp, g, d, tk, os⟩ := s; obtain ⟨h1, h⟩ := h
    have hsub := sub_enumerate
    have q1 : ∀ {A' : Around} {E : Value → Shared → Prop} {Q : Value → Shared → Prop}, Q (.ref hp.objs.size) ⟨hp.push o, g, d, tk, os⟩ → wpAny (model prog w) A' (pyIter v) Q E ⟨hp, g, d, tk, os⟩ :=
      fun q => B.iter prog w _ _ ⟨hp, g, d, tk, os⟩ _ h1 q
    wp_walk using q1
    refine wpAny_stack_any fun st => wpAny_pure ?_
    split
    · rename_i c _ _ _ _ _
      cases (c == Value.type "enumerate")
      · wp_walk using q1
        exact ⟨_, rfl, h⟩
      · wp_walk using q1
        exact ⟨_, rfl, h⟩
    · wp_walk using q1
      exact ⟨_, rfl, h⟩
theorem call_enum1 {prog : Program} {w : World} {A : Around} {E : Value → Shared → Prop} {s : Shared} {v : Value} {o : Obj} {H : Heap → Prop} {Q : Value → Shared → Prop} (B : Begins v o H) (h1 : H s.heap)
    (h : ∀ h', IsEnum h' (s.heap.objs.size + 1) s.heap.objs.size 0 .none → h'.get? s.heap.objs.size = some o → h'.objs.size = s.heap.objs.size + 2 →
      (∀ b o, s.heap.get? b = some o → h'.get? b = some o) → Q (.ref (s.heap.objs.size + 1)) { s with heap := h' }) :
    wpAny (model prog w) A (call (.type "enumerate") [v]) Q E s := by
  refine callType_new F.called_enumerate (by decide) (F.typeCall_enumerate_1 _) (F.newCall_enumerate_1 _) (fun obj => F.args_object_init_2 obj _) F.entry_enumerate_new
    (meets_enum1 B) ⟨h1, ?_⟩
  have hz : (s.heap.push o).objs.size = s.heap.objs.size + 1 := Heap.size_push ..
  show _ ∧ _
  rw [hz]
  have he : IsEnum ((s.heap.push o).push { cls := .type "enumerate", data := .fields #[.none, .bool false, .ref s.heap.objs.size, rawInt 0, .none, .none] }) (s.heap.objs.size + 1) s.heap.objs.size 0 .none := by
    have := Heap.get?_push_size (s.heap.push o) (o := { cls := .type "enumerate", data := .fields #[.none, .bool false, .ref s.heap.objs.size, rawInt 0, .none, .none] }) rfl
    rw [hz] at this; exact this
  refine ⟨⟨_, he, rfl⟩, h _ he (Heap.get?_push_of_some _ (Heap.get?_push_size _ B.free)) (by rw [Heap.size_push, hz]) fun b o x => Heap.get?_push_of_some _ (Heap.get?_push_of_some _ x)⟩
end PySem
namespace Co
open PySem PySem.Spec PyProof.Rows L2
/-- a list (false), a tuple (true), and its iterator -/
def IsB (b : Bool) (h : Heap) (a : Addr) (its : Array Value) : Prop := if b = true then h.IsTuple a its else h.IsList a its
def ItB (b : Bool) (h : Heap) (it a : Addr) (i : Nat) : Prop := if b = true then h.IsTupleIter it a i else h.IsListIter it a i
def clsB (b : Bool) : String := if b = true then "tuple" else "list"
def itcB (b : Bool) : String := if b = true then "tuple_iterator" else "list_iterator"
theorem cls_ne {h : Heap} {a b : Addr} {o1 o2 : Obj} (h1 : h.get? a = some o1) (h2 : h.get? b = some o2) (hc : o1.cls ≠ o2.cls) : a ≠ b := fun e => by
  subst e
  rw [h1] at h2
  cases h2
  exact hc rfl
theorem IsB.ob {b : Bool} {h : Heap} {a : Addr} {its : Array Value} (x : IsB b h a its) : ∃ o, h.get? a = some o ∧ o.cls = .type (clsB b) := by
  cases b with
  | true => obtain ⟨o, q, c, _⟩ := x; exact ⟨o, q, c⟩
  | false => obtain ⟨o, q, c, _⟩ := x; exact ⟨o, q, c⟩
theorem ItB.ob {b : Bool} {h : Heap} {it a : Addr} {i : Nat} (x : ItB b h it a i) : ∃ o, h.get? it = some o ∧ o.cls = .type (itcB b) ∧ o.data = .fields #[.ref a, .int i 0] := by
  cases b with
  | true => exact x
  | false => exact x
theorem ItB.keep {b : Bool} {h h' : Heap} {it a : Addr} {i : Nat} (x : ItB b h it a i) (k : ∀ o, h.get? it = some o → h'.get? it = some o) : ItB b h' it a i := by
  cases b with
  | true => exact Heap.IsTupleIter.at x k
  | false => exact Heap.IsListIter.at x k
theorem drawsB {prog : Program} {w : World} {A : Around} (hh : A.handled = none) (b : Bool) (it t : Addr) (hne : t ≠ it) (items : Array Value) :
    Draws prog w A it [it, t] items.size (fun i v => items[i]? = some v) (fun i h => ItB b h it t i ∧ IsB b h t items) := by
  cases b with
  | true => exact Draws.tuple hh it t hne items
  | false => exact Draws.list hh it t hne items
theorem drawsE {prog : Program} {w : World} {A : Around} (hh : A.handled = none) (b : Bool) (it t : Addr) (items : Array Value) (i : Nat) (hi : items.size ≤ i) :
    Draws prog w A it [it, t] 0 (fun _ _ => False) (fun _ h => ItB b h it t i ∧ IsB b h t items) := by
  cases b with
  | true =>
    exact { live := fun _ _ st => let ⟨o, ho, _⟩ := st.1; ⟨o, ho⟩
            frame := fun _ _ _ st hk => ⟨Heap.IsTupleIter.at st.1 fun o e => hk it (by simp) o e, Heap.IsTuple.at st.2 fun o e => hk t (by simp) o e⟩
            item := fun j s Q E hj st hQ => absurd hj (Nat.not_lt_zero _)
            done := fun s Q E st hE => wpAny_nextOf_tuple_end hh st.1 st.2 (by simp; omega) hE }
  | false =>
    exact { live := fun _ _ st => let ⟨o, ho, _⟩ := st.1; ⟨o, ho⟩
            frame := fun _ _ _ st hk => ⟨Heap.IsListIter.at st.1 fun o e => hk it (by simp) o e, Heap.IsList.at st.2 fun o e => hk t (by simp) o e⟩
            item := fun j s Q E hj st hQ => absurd hj (Nat.not_lt_zero _)
            done := fun s Q E st hE => wpAny_nextOf_list_end hh st.1 st.2 (by simp; omega) hE }
theorem beginsB (b : Bool) (a : Addr) (its : Array Value) : Begins (.ref a) { cls := .type (itcB b), data := .fields #[.ref a, .int 0 0] } fun h => IsB b h a its := by
  cases b with
  | true => exact begins_tuple a its
  | false => exact begins_list a its
section
variable {X : Cx} {pins : List (Addr × Obj)} {σ : L2.St} {H : Hp} {s : Shared} {a : Addr} {xs ys : List V}
theorem seqB {b : Bool} (I : Inv X pins σ H s) (h : SqX X.K b H a xs) : ∃ its : List Value, Vals xs its ∧ IsB b s.heap a its.toArray ∧ xs.length ≤ sizeLine := by
  cases b with
  | true => exact I.tuple h
  | false => obtain ⟨its, r, p, z⟩ := I.list h; exact ⟨its, r, p.isList, z⟩
theorem seqB_inj {b : Bool} (I : Inv X pins σ H s) (h : SqX X.K b H a xs) (h' : SqX X.K b H a ys) : xs = ys := by
  cases b with
  | true => exact I.tuple_inj h h'
  | false => exact I.list_inj h h'
end
/-- the list or tuple at a, each item in a new pair -/
def IteB (K : PySem.W.Frag) (b : Bool) (a : Addr) : It :=
  ⟨fun i H => ∃ (xs : List V) (x : V), SqX K b H a xs ∧ xs[i]? = some x, fun i H v H' => ∃ T x o, v = .ref T ∧ H T = none ∧ Obj.dict o = none ∧ H' = upd H T (.frz o (.tup [.int (i : Nat), x])) ∧ ∀ xs, SqX K b H a xs → xs[i]? = some x, fun i H => ∃ xs : List V, SqX K b H a xs ∧ xs.length ≤ i⟩
theorem turn_enumB {P : Program} {w : World} {K : PySem.W.Frag} {elts : List Expr} {kk : Nat} {tpos : Pos} (b : Bool) (a e it : Addr) :
    Turn P w K (.Tuple elts kk tpos) (IteB K b a) [e, it] e (fun i h => (∃ old, IsEnum h e it ((i : Nat) : Int) old) ∧ ItB b h it a i ∧ e ≠ it) where
  mem := by simp
  obj := fun i h st c hc => by
    obtain ⟨⟨old, he⟩, hi, _⟩ := st
    obtain ⟨o, ho, _, hd⟩ := hi.ob
    rcases (show c = e ∨ c = it by simpa using hc) with z | z
    · subst z; exact ⟨_, he, fun v q => nomatch q⟩
    · subst z; exact ⟨o, ho, fun v q => by rw [hd] at q; cases q⟩
  keep := fun i h h' st k => ⟨st.1.elim fun old he => ⟨old, k e (by simp) _ he⟩, st.2.1.keep fun o q => k it (by simp) o q, st.2.2⟩
  item := by
    intro X hP hw hK hc i pins s σ H E I hf st hg
    subst hP hw hK
    obtain ⟨⟨old, he⟩, hit, hne⟩ := st
    obtain ⟨xs, x, hq, hx⟩ := hg
    obtain ⟨its, rv, pt, hz⟩ := seqB I hq
    obtain ⟨u, hu, ru⟩ := rv.get hx
    obtain ⟨o1, g1, c1⟩ := pt.ob
    obtain ⟨o2, g2, c2, _⟩ := hit.ob
    have hel : e < s.heap.objs.size := Heap.lt_size he
    have hil : it < s.heap.objs.size := Heap.lt_size g2
    have hea : e ≠ a := cls_ne he g1 (by rw [c1]; show Value.type "enumerate" ≠ Value.type (clsB b); cases b <;> decide)
    have hai : a ≠ it := cls_ne g1 g2 (by rw [c1, c2]; cases b <;> decide)
    have hlt : i < its.toArray.size := by
      have := (List.getElem?_eq_some_iff.mp hu).1
      simpa using this
    refine wpAny_pyNext_enum_itemC (drawsB (show X.A.in1.handled = none from I.ok.hd hc) b it a hai its.toArray) he ⟨hit, pt⟩ hlt hne (by simp [hne, hea]) fun x' h' tk hP ho hst' hT hsz hk => ?_
    have hxu : x' = u := by
      have hP : its.toArray[i]? = some x' := hP
      have : its[i]? = some x' := by simpa using hP
      rw [hu] at this
      cases this
      rfl
    subst hxu
    refine ⟨_, rfl, wpAny_letOwnedTupleGo_enum (s := { s with heap := h', toks := tk + 1 }) ho fun h'' he' sb => ?_⟩
    have hT2 : h''.get? s.heap.objs.size = some { cls := .type "tuple", data := .seq #[.int i tk, x'] } := (sb.2 _ (Nat.ne_of_gt hel)).trans hT
    have I1 : Inv X pins σ (upd H s.heap.objs.size (.frz { cls := .type "tuple", data := .seq #[.int i tk, x'] } (.tup [.int (i : Nat), x]))) { s with heap := h'', toks := tk + 1 } :=
      I.turnedNew (ch := [e, it]) (fun c ob hb q => (sb.2 c (fun z => hb (by simp [z]))).trans (hk c ob (fun z => hb (by simp [z])) (fun z => hb (by simp [z])) q)) hf (Nat.le_refl _)
        ⟨hT2, by show 2 ≤ sizeLine; decide, [.int i tk, x'], .cons ⟨_, rfl⟩ (.cons ru .nil), ⟨_, hT2, rfl, _, rfl⟩⟩
    refine ⟨.ref s.heap.objs.size, _, I1, rfl, ⟨_, x, _, rfl, I.hok.fresh (Nat.le_refl _), (show Obj.dict { cls := .type "tuple", data := .seq #[.int i tk, x'] } = none from rfl), rfl, fun ys hy => by rw [seqB_inj I hy hq]; exact hx⟩, ⟨⟨x', ?_⟩, hst'.1.keep fun o q => (sb.2 it (Ne.symm hne)).trans q, hne⟩, fun c hb => ?_⟩
    · have e1 : ((i + 1 : Nat) : Int) = (i : Int) + 1 := by omega
      rw [e1]; exact he'
    · have hb' : c < s.heap.objs.size := by
        rcases (show c = e ∨ c = it by simpa using hb) with z | z
        · subst z; exact hel
        · subst z; exact hil
      rw [upd_ne (Nat.ne_of_lt hb')]
      exact (hf c hb).1
  done := by
    intro X hP hw hK hc i pins s σ H E I hf st hg
    subst hP hw hK
    obtain ⟨⟨old, he⟩, hit, hne⟩ := st
    obtain ⟨xs, hq, hx⟩ := hg
    obtain ⟨its, rv, pt, hz⟩ := seqB I hq
    obtain ⟨f0, f1, f2, f3, f4, f5⟩ := hf it (by simp)
    have hl := rv.length
    exact wpAny_pyNext_enum_endD (drawsE (show X.A.in1.handled = none from I.ok.hd hc) b it a its.toArray i (by simp; omega)) he ⟨hit, pt⟩ fun h' eb => ⟨rfl, I.turned (t' := s.toks) (fun c o hb q => eb c o hb q) f0 f1 f3 f4 f5⟩
  self := fun A i s Q E st h => st.1.elim fun _ he => wpAny_pyIter_enum he h
def iEnumB (K : PySem.W.Frag) (b : Bool) (ta : TA) : TI := fun σ H R => ta σ H fun vs H1 => ∃ a xs, vs = [.ref a] ∧ SqX K b H1 a xs ∧ R (IteB K b a) H1
theorem pi_enumB {X : Cx} {e : Expr} {ta : TA} {p pos tpos : Pos} {elts : List Expr} {kk : Nat} (b : Bool) (hg : Gl X "enumerate") (hm : X.mg "enumerate" = none) (ha : PA X [e] ta) (hs : starEach [e] X.env = [(false, eval e X.env)] := by rfl) :
    PI X (.Tuple elts kk tpos) (.Call (.Name "enumerate" p) [e] [] pos) (iEnumB X.K b ta) := by
  refine ⟨fun pins s σ H R I h => ?_⟩
  refine Call_ (ld_blt I hg hm boot_enumerate (PyProof.Rows.callWith_type1 (thn (ha.run pos pins s σ H _ I h) fun us s1 ⟨vs, H1, I1, r1, a, xs, ex, hq, q⟩ => ?_) hs rfl))
  subst ex
  cases r1 with
  | cons r rr =>
    cases rr
    cases r
    obtain ⟨its, rv, p', hz⟩ := seqB I1 hq
    refine call_enum1 (beginsB b a its.toArray) p' fun h' he hit hsz hk => wpAny_pyIter_enum he ?_
    have I2 : Inv X pins σ H1 { s1 with heap := h' } := I1.kept (t' := s1.toks) hk
    have hi0 : ItB b h' s1.heap.objs.size a 0 := by
      cases b with
      | true => exact ⟨_, hit, rfl, rfl⟩
      | false => exact ⟨_, hit, rfl, rfl⟩
    refine ⟨s1.heap.objs.size + 1, [s1.heap.objs.size + 1, s1.heap.objs.size], _, _, H1, rfl, I2, turn_enumB b a (s1.heap.objs.size + 1) s1.heap.objs.size, ⟨⟨.none, he⟩, hi0, Nat.succ_ne_self _⟩, fun c hb => ?_, q⟩
    have hle : s1.heap.objs.size ≤ c := by
      rcases (show c = s1.heap.objs.size + 1 ∨ c = s1.heap.objs.size by simpa using hb) with z | z
      · rw [z]; exact Nat.le_add_right _ _
      · rw [z]; exact Nat.le_refl _
    exact I1.fpOk hle (I1.hok.fresh hle)
end Co
namespace Co
open PySem PySem.Spec PyProof.Rows L2
theorem walkEB {K : PySem.W.Frag} {b : Bool} {a : Addr} {n : Nat} : Walk (IteB K b a) n (fun H => ∃ xs, SqX K b H a xs ∧ xs.length = n) (fun i H v H' => ∃ T x o, v = .ref T ∧ H T = none ∧ Obj.dict o = none ∧ H' = upd H T (.frz o (.tup [.int (i : Nat), x])) ∧ ∀ xs, SqX K b H a xs → xs[i]? = some x) :=
  ⟨fun i H hi ⟨xs, h, e⟩ => ⟨xs, xs[i]'(by omega), h, by simp⟩, fun H ⟨xs, h, e⟩ => ⟨xs, h, Nat.le_of_eq e⟩, fun i H x H' hi g y => y⟩
theorem iter_enumB {K : PySem.W.Frag} {F : Addr → Prop} {H : Hp} {O : List Addr} {σ : L2.St} {b : Bool} {a : Addr} {ds : List D} {ρl : Env} (h : Reads K F H O ρl σ ds (fun H xs => SqX K b H a xs)) : IterOk K (IteB K b a) F H O ρl σ (enumL 0 ds) := by
  refine ⟨_, _, by rw [enum_len]; exact walkEB (b := b) (a := a) (n := ds.length), fun F2 H2 O2 ρ2 σ2 st w sr kp ks => ?_⟩
  obtain ⟨xs, h1, h2⟩ := h F2 H2 O2 ρ2 σ2 st w sr kp ks
  refine ⟨⟨xs, h1, VRL.length _ _ _ h2⟩, fun i x H3 hi y => ?_⟩
  rw [enum_len] at hi
  obtain ⟨T, v, o, rfl, hT, hd, rfl, y⟩ := y
  have s0 : Stp F2 H2 [] F2 (upd H2 T (.frz o (.tup [.int (i : Nat), v]))) [] := ⟨fun a u e _ => by rw [upd_ne (ne_of_none e hT)]; exact e, fun _ h => h, fun a ha => (nomatch ha), fun _ h => .inl h⟩
  refine ⟨s0, _, enum_get (d := ds[i]) (by simp [hi]), ?_⟩
  obtain ⟨v', Pv, e1, e2, e3⟩ := VRL.get h2 (show ds[i]? = some ds[i] by simp [hi])
  have e4 := y xs h1
  rw [e1] at e4
  cases e4
  have : Pv = [] := by
    have := e3.length_le
    simpa using this
  subst this
  have e5 := VR.stp (wd0 w) s0 _ _ [] (fun _ z => (nomatch z)) e2
  unfold VR
  refine ⟨T, _, rfl, TuF.of upd_same hd, ?_⟩
  unfold VRL
  refine ⟨.int i, [_], [], [], rfl, ?_, VRL.one e5, rfl⟩
  unfold VR
  exact ⟨by simp, rfl⟩
section
variable {X : Cx} {Φ : Nat → List Sl → Option (D × List Sl)} {wf : Nat} {a : Expr} {ca : C} {pos : Pos}
theorem si_enum {p tpos : Pos} {elts : List Expr} {kk : Nat} (hg : Gl X "enumerate") (hm : X.mg "enumerate" = none) (ha : SE X Φ wf a ca) : PI X (.Tuple elts kk tpos) (.Call (.Name "enumerate" p) [a] [] pos) (tI X.K Φ wf (.senum ca)) := by
  have hs : SA X Φ wf [a] (.cons ca .nil) := sa_cons ha sa_nil
  refine PI.weak (PI.or (pi_enumB false hg hm hs.pa (hs.st _)) (pi_enumB true hg hm hs.pa (hs.st _))) fun σ H R h => ?_
  obtain ⟨F, ρ, O, ds, lk, ρ1, sr, wd, e, k⟩ := h
  simp only [evI] at e
  obtain ⟨⟨r, ρ2⟩, e1, e⟩ := some_bind e
  obtain ⟨⟨l, lk'⟩, e2, e⟩ := some_bind e
  cases e
  have ea : evA Φ wf (.cons ca .nil) ρ = some ([r], ρ2) := by
    simp only [evA, e1, Option.bind_some]
  have main : ∀ b, isT r = b → iEnumB X.K b (tA X.K Φ wf (.cons ca .nil)) σ H R := by
    intro b hb
    refine ⟨F, ρ, O, [r], _, sr, wd, ea, fun vs F2 H2 O2 P st sr2 rr wd2 kp => ?_⟩
    obtain ⟨v, xs', P1, P2, rfl, h1, ⟨rfl, rfl⟩, rfl⟩ := rr
    rw [List.append_nil] at st wd2
    obtain ⟨hf, s1, s2, p, rfl, ⟨xs, s3⟩, s4⟩ := src_ok sr2 wd2 h1 e2
    rw [hb] at s3 s4
    exact ⟨p, xs, rfl, s3, k _ F2 H2 O2 (sub0 st) s1 wd2.left kp s2 (iter_enumB s4)⟩
  cases hb : isT r with
  | true => exact .inr (main true hb)
  | false => exact .inl (main false hb)
end
end Co

set_option maxRecDepth 100000
set_option maxHeartbeats 1000000
/-! Core9: comprehensions -/
namespace Co
open PySem PySem.Spec PyProof.Rows L2

section
variable {K : PySem.W.Frag} {F : Addr → Prop} {H : Hp} {O : List Addr} {ρ : Env} {σ : L2.St}
theorem SR.ext_no : ∀ {ρ : Env} {σ : List (Option V)} {O : List Addr} {i : Nat} {ov : Option V}, SR K F H ρ σ O → ρ[i]? = some .no → SR K F H ρ (σ.set i ov) O
  | [], _, _, _, _, _, e => by simp at e
  | sl :: ρ, σ, O, 0, ov, h, e => by
    obtain ⟨ov0, σ', O1, O2, e1, h1, h2, e2⟩ := h
    simp at e
    subst e e1
    exact ⟨ov, σ', O1, O2, rfl, h1, h2, e2⟩
  | sl :: ρ, σ, O, i + 1, ov, h, e => by
    obtain ⟨ov0, σ', O1, O2, e1, h1, h2, e2⟩ := h
    subst e1
    exact ⟨ov0, σ'.set i ov, O1, O2, rfl, h1, SR.ext_no (i := i) h2 (by simpa using e), e2⟩
theorem SR.out {i : Nat} (h : SR K F H ρ σ O) (e : ρ.length ≤ i) (s : Sl) (ov : Option V) : SR K F H (ρ.set i s) (σ.set i ov) O := by
  rw [List.set_eq_of_length_le e, List.set_eq_of_length_le (by rw [SR.length h]; exact e)]
  exact h
/-- slots wiped -/
theorem wipe_sr : ∀ (is : List Nat) {ρ : Env} {σ : L2.St} {O : List Addr}, SR K F H ρ σ O → ∃ O' P, SR K F H (wipeS ρ is) (wipe σ is) O' ∧ O.Perm (O' ++ P)
  | [], ρ, σ, O, h => ⟨O, [], h, by simp⟩
  | i :: is, ρ, σ, O, h => by
    obtain ⟨O', P, h1, h2⟩ := wipe_sr is h
    show ∃ O' P, SR K F H ((wipeS ρ is).set i .no) ((wipe σ is).set i none) O' ∧ O.Perm (O' ++ P)
    by_cases hi : i < (wipeS ρ is).length
    · obtain ⟨ov, P2, O2, q1, q2, q3, q4⟩ := SR.take h1 (show (wipeS ρ is)[i]? = some (wipeS ρ is)[i] by simp [hi])
      refine ⟨O2, P2 ++ P, SR.ext_no q3 (by simp [hi]), h2.trans ?_⟩
      rw [← List.append_assoc]
      exact q4.append_right P
    · exact ⟨O', P, SR.out h1 (by omega) _ _, h2⟩
/-- .. that hold nothing owned -/
theorem wipe_free : ∀ (is : List Nat) {ρ : Env} {σ : L2.St} {O : List Addr}, SR K F H ρ σ O → (∀ i ∈ is, freeAt ρ i = true) → SR K F H (wipeS ρ is) (wipe σ is) O ∧ (∀ j, freeAt ρ j = true → freeAt (wipeS ρ is) j = true)
  | [], ρ, σ, O, h, _ => ⟨h, fun _ q => q⟩
  | i :: is, ρ, σ, O, h, hf => by
    obtain ⟨h1, h2⟩ := wipe_free is h fun j hj => hf j (List.mem_cons_of_mem _ hj)
    have fi := h2 i (hf i List.mem_cons_self)
    show SR K F H ((wipeS ρ is).set i .no) ((wipe σ is).set i none) O ∧ _
    refine ⟨?_, fun j hj => ?_⟩
    · unfold freeAt at fi
      split at fi
      · rename_i e
        rw [set_same e]
        exact SR.ext_no h1 e
      · rename_i d e
        obtain ⟨ov, P2, O2, q1, ⟨v, rfl, q2⟩, q3, q4⟩ := SR.take h1 e
        have := VR.fz d v P2 fi q2
        subst this
        have h5 : SR K F H ((wipeS ρ is).set i .no) (wipe σ is) O := reslot h1 e fun {ov P} hs => by
          obtain ⟨v, _, hv⟩ := hs
          exact VR.fz d v P fi hv
        exact SR.ext_no h5 (get_set_same e)
      · cases fi
    · show freeAt ((wipeS ρ is).set i .no) j = true
      have := h2 j hj
      by_cases hij : i = j
      · subst hij
        unfold freeAt at this ⊢
        split at this
        · rename_i e; rw [get_set_same e]
        · rename_i d e; rw [get_set_same e]
        · cases this
      · unfold freeAt at this ⊢
        rw [List.getElem?_set_ne hij]
        exact this
theorem wipeS_len : ∀ (is : List Nat) (ρ : Env), (wipeS ρ is).length = ρ.length
  | [], _ => rfl
  | i :: is, ρ => by
    show ((wipeS ρ is).set i .no).length = _
    rw [List.length_set, wipeS_len is ρ]
theorem wipeS_get : ∀ (is : List Nat) (ρ : Env) (j : Nat), j ∉ is → (wipeS ρ is)[j]? = ρ[j]?
  | [], _, _, _ => rfl
  | i :: is, ρ, j, h => by
    have h' : j ≠ i ∧ j ∉ is := by simpa using h
    show ((wipeS ρ is).set i .no)[j]? = _
    rw [List.getElem?_set_ne (Ne.symm h'.1), wipeS_get is ρ j h'.2]
theorem wipeS_no : ∀ (is : List Nat) (ρ : Env) (j : Nat), j ∈ is → j < ρ.length → (wipeS ρ is)[j]? = some .no
  | [], _, _, h, _ => (nomatch h)
  | i :: is, ρ, j, h, hl => by
    show ((wipeS ρ is).set i .no)[j]? = _
    by_cases hij : i = j
    · subst hij
      rw [List.getElem?_set_self (by rw [wipeS_len]; exact hl)]
    · rw [List.getElem?_set_ne hij]
      have : j ∈ is := (List.mem_cons.mp h).resolve_left (Ne.symm hij)
      exact wipeS_no is ρ j this hl
theorem wipe_get : ∀ (is : List Nat) (σ : L2.St) (j : Nat), j ∉ is → (wipe σ is)[j]? = σ[j]?
  | [], _, _, _ => rfl
  | i :: is, σ, j, h => by
    have h' : j ≠ i ∧ j ∉ is := by simpa using h
    show ((wipe σ is).set i none)[j]? = _
    rw [List.getElem?_set_ne (Ne.symm h'.1), wipe_get is σ j h'.2]
theorem wipe_none : ∀ (is : List Nat) (σ : L2.St) (j : Nat), j ∈ is → j < σ.length → (wipe σ is)[j]? = some none
  | [], _, _, h, _ => (nomatch h)
  | i :: is, σ, j, h, hl => by
    show ((wipe σ is).set i none)[j]? = _
    by_cases hij : i = j
    · subst hij
      rw [List.getElem?_set_self (by rw [wipe_length]; exact hl)]
    · rw [List.getElem?_set_ne hij]
      exact wipe_none is σ j ((List.mem_cons.mp h).resolve_left (Ne.symm hij)) hl
theorem wipe_ag {is : List Nat} {σ σ2 : L2.St} {L : List Nat} (h : Ag L (wipe σ is) σ2) (hL : ∀ j ∈ L, j ∈ is) : wipe σ2 is = wipe σ is := by
  apply List.ext_getElem?
  intro j
  have hl : σ2.length = σ.length := by rw [h.len, wipe_length]
  by_cases hj : j ∈ is
  · by_cases hjl : j < σ.length
    · rw [wipe_none is σ2 j hj (by omega), wipe_none is σ j hj hjl]
    · rw [List.getElem?_eq_none (by rw [wipe_length]; omega), List.getElem?_eq_none (by rw [wipe_length]; omega)]
  · rw [wipe_get is σ2 j hj, h.at_ j fun z => hj (hL j z)]
/-- flavours of wiped slots -/
theorem kp_wipe {is : List Nat} (hf : ∀ i ∈ is, freeAt ρ i = true) : Kp ρ (wipeS ρ is) := by
  have no : ∀ i d, i ∈ is → ρ[i]? ≠ some (.bo d) ∧ ρ[i]? ≠ some (.lk d) := fun i d hi => by
    have := hf i hi
    unfold freeAt at this
    constructor
    · intro z; rw [z] at this; cases this
    · intro z; rw [z] at this; cases this
  refine ⟨wipeS_len is ρ, fun i d h => ⟨d, ?_⟩, fun i d h => ?_⟩
  · rw [wipeS_get is ρ i fun z => (no i d z).1 h]; exact h
  · rw [wipeS_get is ρ i fun z => (no i d z).2 h]; exact h
theorem kp_wipe2 {is : List Nat} {ρ0 : Env} (h : Kp (wipeS ρ0 is) ρ) : Kp (wipeS ρ0 is) (wipeS ρ is) := by
  refine ⟨by rw [wipeS_len]; exact h.len, fun i d e => ?_, fun i d e => ?_⟩
  · have hi : i ∉ is := fun z => by
      rw [wipeS_no is ρ0 i z (by have := (List.getElem?_eq_some_iff.mp e).1; rwa [wipeS_len] at this)] at e
      cases e
    rw [wipeS_get is ρ i hi]
    exact h.bo i d e
  · have hi : i ∉ is := fun z => by
      rw [wipeS_no is ρ0 i z (by have := (List.getElem?_eq_some_iff.mp e).1; rwa [wipeS_len] at this)] at e
      cases e
    rw [wipeS_get is ρ i hi]
    exact h.lk i d e
/-- slots put back -/
theorem putBack_get : ∀ (is : List Nat) (old ρ : Env) (j : Nat), j ∉ is → (putBack old ρ is)[j]? = ρ[j]?
  | [], _, _, _, _ => rfl
  | i :: is, old, ρ, j, h => by
    have h' : j ≠ i ∧ j ∉ is := by simpa using h
    show (match old[i]? with | some s => (putBack old ρ is).set i s | none => putBack old ρ is)[j]? = _
    split
    · rw [List.getElem?_set_ne (Ne.symm h'.1), putBack_get is old ρ j h'.2]
    · exact putBack_get is old ρ j h'.2
theorem putBack_len : ∀ (is : List Nat) (old ρ : Env), (putBack old ρ is).length = ρ.length
  | [], _, _ => rfl
  | i :: is, old, ρ => by
    show (match old[i]? with | some s => (putBack old ρ is).set i s | none => putBack old ρ is).length = _
    split
    · rw [List.length_set, putBack_len is old ρ]
    · exact putBack_len is old ρ
theorem putBack_sr {old : Env} : ∀ (is : List Nat) {ρ : Env} {σw : L2.St} {O : List Addr}, is.Nodup → σw.length = σ.length → (∀ j, j ∉ is → σw[j]? = σ[j]?) → SR K F H ρ σw O → (∀ j ∈ is, ρ[j]? = some .no ∧ ∀ s, old[j]? = some s → ∃ ov, σ[j]? = some ov ∧ S1 K F H s ov []) →
    SR K F H (putBack old ρ is) σ O
  | [], ρ, σw, O, _, hl, ha, h, _ => by
    have : σw = σ := List.ext_getElem? fun j => ha j (by simp)
    rw [← this]
    exact h
  | i :: is, ρ, σw, O, hn, hl, ha, h, hs => by
    obtain ⟨hi, hn'⟩ := List.nodup_cons.mp hn
    obtain ⟨e1, e2⟩ := hs i List.mem_cons_self
    have il : i < σ.length := by
      have := (List.getElem?_eq_some_iff.mp e1).1
      rw [← SR.length h, hl] at this
      exact this
    have ih := putBack_sr (σw := σw.set i σ[i]) is hn' (by rw [List.length_set]; exact hl) (fun j hj => ?_) (SR.ext_no h e1) fun j hj => hs j (List.mem_cons_of_mem _ hj)
    · show SR K F H (match old[i]? with | some s => (putBack old ρ is).set i s | none => putBack old ρ is) σ O
      split
      · rename_i s es
        obtain ⟨ov, q1, q2⟩ := e2 s es
        have e3 : (putBack old ρ is)[i]? = some .no := by rw [putBack_get is old ρ i hi]; exact e1
        -- the slot is empty: fill it
        have fill : ∀ {ρ : Env} {σ : L2.St} {O : List Addr} {i : Nat}, SR K F H ρ σ O → ρ[i]? = some .no → σ[i]? = some ov → SR K F H (ρ.set i s) σ O := by
          intro ρ
          induction ρ with
          | nil => intro σ O i _ e _; simp at e
          | cons sl ρ ih2 =>
            intro σ O i h e ho
            obtain ⟨ov0, σ', O1, O2, x1, x2, x3, x4⟩ := h
            subst x1
            cases i with
            | zero =>
              simp at e ho
              subst e ho
              have : O1 = [] := x2
              subst this
              exact ⟨ov0, σ', [], O2, rfl, q2, x3, x4⟩
            | succ i => exact ⟨ov0, σ', O1, O2, rfl, x2, ih2 (i := i) x3 (by simpa using e) (by simpa using ho), x4⟩
        exact fill ih e3 q1
      · exact ih
    · by_cases hij : i = j
      · subst hij
        rw [List.getElem?_set_self (by omega)]
        simp [il]
      · rw [List.getElem?_set_ne hij]
        exact ha j (by simp; exact ⟨Ne.symm hij, hj⟩)
end

section
variable {K : PySem.W.Frag} {F : Addr → Prop} {H : Hp} {O : List Addr} {ρ ρ1 ρ4 : Env} {σ : L2.St} {lk : Option Nat}
theorem lock_some {i : Nat} {l : List D} (e : ownAt ρ i = some l) : lock ρ (some i) = ρ.set i (.lk (.own l)) := by
  rcases own_slot e with e1 | e1 <;> simp only [lock, e1]
theorem unlock_ok (hlk : ∀ i, lk = some i → ∃ l, ownAt ρ1 i = some l) (kp : Kp (lock ρ1 lk) ρ4) (sr : SR K F H ρ4 σ O) : SR K F H (unlock ρ1 lk ρ4) σ O ∧ Kp ρ1 (unlock ρ1 lk ρ4) := by
  cases lk with
  | none => exact ⟨sr, kp⟩
  | some i =>
    obtain ⟨l, hl⟩ := hlk i rfl
    rw [lock_some hl] at kp
    have main : ∀ s, ρ1[i]? = some s → (∀ {ov P}, S1 K F H (.lk (.own l)) ov P → S1 K F H s ov P) → SR K F H (unlock ρ1 (some i) ρ4) σ O ∧ Kp ρ1 (unlock ρ1 (some i) ρ4) := by
      intro s es hs
      have eu : unlock ρ1 (some i) ρ4 = ρ4.set i s := by simp only [unlock, es]
      have e4 : ρ4[i]? = some (.lk (.own l)) := kp.lk i _ (get_set_same es)
      rw [eu]
      refine ⟨reslot sr e4 hs, by rw [List.length_set, kp.len, List.length_set], fun j d e => ?_, fun j d e => ?_⟩
      · by_cases hij : i = j
        · subst hij
          rw [es] at e
          exact ⟨d, by rw [get_set_same e4]; exact e⟩
        · rw [List.getElem?_set_ne hij]
          exact kp.bo j d (by rw [List.getElem?_set_ne hij]; exact e)
      · by_cases hij : i = j
        · subst hij
          rw [es] at e
          rw [get_set_same e4]; exact e
        · rw [List.getElem?_set_ne hij]
          exact kp.lk j d (by rw [List.getElem?_set_ne hij]; exact e)
    rcases own_slot hl with e | e
    · exact main _ e fun h => h
    · exact main _ e fun h => h
theorem unlock_get {old ρ : Env} {lk : Option Nat} {j : Nat} (h : ∀ i, lk = some i → i ≠ j) : (unlock old lk ρ)[j]? = ρ[j]? := by
  cases lk with
  | none => rfl
  | some i =>
    simp only [unlock]
    split
    · rw [List.getElem?_set_ne (h i rfl)]
    · rfl
theorem unlock_len {old ρ : Env} {lk : Option Nat} : (unlock old lk ρ).length = ρ.length := by
  cases lk with
  | none => rfl
  | some i =>
    simp only [unlock]
    split
    · rw [List.length_set]
    · rfl
theorem lock_free (hlk : ∀ i, lk = some i → ∃ l, ownAt ρ1 i = some l) {j : Nat} (h : freeAt ρ1 j = true) : freeAt (lock ρ1 lk) j = true := by
  cases lk with
  | none => exact h
  | some i =>
    obtain ⟨l, hl⟩ := hlk i rfl
    rw [lock_some hl]
    have hij : i ≠ j := by
      rintro rfl
      unfold freeAt at h
      rcases own_slot hl with e | e
      · rw [e] at h; simp [D.fz] at h
      · rw [e] at h; cases h
    unfold freeAt at h ⊢
    rw [List.getElem?_set_ne hij]
    exact h
theorem lock_kp (hlk : ∀ i, lk = some i → ∃ l, ownAt ρ1 i = some l) {j : Nat} (h : Pin ρ1 j) : Pin (lock ρ1 lk) j := by
  cases lk with
  | none => exact h
  | some i =>
    obtain ⟨l, hl⟩ := hlk i rfl
    rw [lock_some hl]
    by_cases hij : i = j
    · subst hij
      have : i < ρ1.length := by rcases own_slot hl with e | e <;> exact (List.getElem?_eq_some_iff.mp e).1
      exact .inr ⟨_, List.getElem?_set_self this⟩
    · unfold Pin
      rw [List.getElem?_set_ne hij]
      exact h
/-- a list that is being made grows: D itself lies beside what the slots own -/
theorem grow {D0 : Addr} {acc : List D} {xs : List V} {P P4 : List Addr} {d : D} {y : V} (w : Wd F H ((O ++ P4) ++ (D0 :: P))) (sr : SR K F H ρ σ O) (e : H D0 = some (.lst xs)) (hv : VRL K F H acc xs P) (hy : VR K F H d y P4) :
    Stp F H (O ++ (D0 :: (P ++ P4))) F (upd H D0 (.lst (xs ++ [y]))) (O ++ (D0 :: (P ++ P4))) ∧ SR K F (upd H D0 (.lst (xs ++ [y]))) ρ σ O ∧ Wd F (upd H D0 (.lst (xs ++ [y]))) (O ++ (D0 :: (P ++ P4))) ∧ VRL K F (upd H D0 (.lst (xs ++ [y]))) (acc ++ [d]) (xs ++ [y]) (P ++ P4) := by
  have pm : ((O ++ P4) ++ (D0 :: P)).Perm (O ++ (D0 :: (P ++ P4))) := by
    rw [List.append_assoc]
    refine List.Perm.append_left O ?_
    have : (P4 ++ (D0 :: P)).Perm ((D0 :: P) ++ P4) := List.perm_append_comm
    exact this
  have w1 := w.perm pm
  have wD : Wd F H [D0] := w1.sub (by
    refine List.Sublist.trans ?_ (List.sublist_append_right O _)
    simp)
  have nd := w1.nd
  have h1 : D0 ∉ O := fun z => w1.apart' D0 z (by simp)
  have h2 : D0 ∉ P ++ P4 := (List.nodup_cons.mp w1.right.nd).1
  have st : Stp F H [D0] F (upd H D0 (.lst (xs ++ [y]))) [D0] :=
    ⟨fun a o ha hn => by rw [upd_ne (by simpa using hn)]; exact ha, fun _ h => h, fun a ha => .inl ha, fun _ h => .inl h⟩
  refine ⟨⟨fun a o ha hn => ?_, fun _ h => h, fun a ha => .inl ha, fun _ h => .inl h⟩, SR.stp wD st (fun a ha => by simp; rintro rfl; exact h1 ha) sr, ⟨nd, w1.nf, fun a ha => ?_, fun a ha => ?_⟩, ?_⟩
  · rw [upd_ne (by rintro rfl; exact hn (by simp))]; exact ha
  · by_cases hD : a = D0
    · subst hD; exact ⟨_, upd_same⟩
    · rw [upd_ne hD]; exact w1.ls a ha
  · by_cases hD : a = D0
    · subst hD; exact ⟨_, upd_same⟩
    · rw [upd_ne hD]; exact w1.ft a ha
  · exact VRL.stp wD st _ _ _ (fun a ha => by simp; rintro rfl; exact h2 ha) (VRL.app hv (VRL.one hy))
end
section
variable {Φ : Nat → List Sl → Option (D × List Sl)} {wf : Nat}
/-- one turn of a comprehension -/
def compStep (Φ : Nat → List Sl → Option (D × List Sl)) (wf : Nat) (celt ctg ccond : C) (own : List Nat) (d : D) (ρ : Env) : Option (Option D × Env) :=
  (evG Φ wf ctg d ρ).bind fun ρ' => (evT Φ wf ccond ρ').bind fun (t, ρ2) =>
        if t then (evE Φ wf celt ρ2).bind fun (r, ρ3) => match r with
          | .d x => some (some x, wipeS ρ3 own)
          | .pl _ => none
        else some (none, wipeS ρ2 own)
theorem comp_red {K : PySem.W.Frag} {celt ctg csrc ccond : C} {own : List Nat} {σ : L2.St} {H : Hp} {Q : VK} (htg : ∀ j ∈ tgts ctg, j ∈ own) (hnd : own.Nodup) (h : tE K Φ wf (.comp celt ctg csrc ccond own) σ H Q) :
    tLc (tI K Φ wf csrc) (tG K Φ wf ctg) (tT K Φ wf ccond) (tE K Φ wf celt) own σ H Q := by
  obtain ⟨F, ρ, O, r, ρ', sr, wd, e, k⟩ := h
  simp only [evE] at e
  obtain ⟨⟨ds, lk, ρ1⟩, e1, e⟩ := some_bind e
  split at e
  · rename_i hfree
    obtain ⟨⟨acc, ρ4⟩, e2, e⟩ := some_bind e
    cases e
    have e2 : compL (compStep Φ wf celt ctg ccond own) ds [] (wipeS (lock ρ1 lk) own) = some (acc, ρ4) := e2
    have hfr : ∀ i ∈ own, freeAt ρ1 i = true := by simpa using hfree
    refine ⟨F, ρ, O, ds, lk, ρ1, sr, wd, e1, fun J F1 H1 O1 st1 sr1 wd1 kp1 hlk it D0 hD0 => ?_⟩
    obtain ⟨G, Y, W, hit⟩ := it
    have hfl : ∀ i ∈ own, freeAt (lock ρ1 lk) i = true := fun i hi => lock_free hlk (hfr i hi)
    have kw : Kp (lock ρ1 lk) (wipeS (lock ρ1 lk) own) := kp_wipe hfl
    -- the slots but the comprehension's own stand
    have ksw : Ks (lock ρ1 lk) σ (wipe σ own) := fun i hi => wipe_get own σ i fun z => by
      have := hfl i z
      unfold freeAt at this
      rcases hi with ⟨d, q⟩ | ⟨d, q⟩ <;> (rw [q] at this; cases this)
    let Pv : Nat → Hp → Prop := fun i H' => ∃ F' ρ' O' acc' xs' P', Stp F1 H1 O1 F' H' (O' ++ (D0 :: P')) ∧ SR K F' H' ρ' (wipe σ own) O' ∧ Wd F' H' (O' ++ (D0 :: P')) ∧ H' D0 = some (.lst xs') ∧ VRL K F' H' acc' xs' P' ∧
      Kp (wipeS (lock ρ1 lk) own) ρ' ∧ compL (compStep Φ wf celt ctg ccond own) (ds.drop i) acc' ρ' = some (acc, ρ4) ∧ ∀ j ∈ own, j < ρ'.length → ρ'[j]? = some .no
    refine lc_it W Pv ?_ (fun i H' hi p => ?_) (fun i x H' H'' hi p y => ?_) (fun H' p => ?_)
    · -- the start
      obtain ⟨n1, n2, n3⟩ := new_lst (K := K) (l := []) (xs := []) (wd0 wd1) (by unfold VRL; exact ⟨rfl, rfl⟩) hD0
      have n4 : Wd F1 (upd H1 D0 (.lst [])) (O1 ++ [D0]) := (Wd.join (O := []) wd1 n1 n3).perm List.perm_append_comm
      have n5 : SR K F1 (upd H1 D0 (.lst [])) (lock ρ1 lk) σ O1 := SR.stp (wd0 wd1) n1 (fun _ _ z => (nomatch z)) sr1
      refine ⟨F1, wipeS (lock ρ1 lk) own, O1, [], [], [], ?_, (wipe_free own n5 hfl).1, n4, upd_same, by unfold VRL; exact ⟨rfl, rfl⟩, Kp.refl, e2, fun j hj hl => wipeS_no own _ j hj (by rwa [wipeS_len] at hl)⟩
      exact (n1.more (P := O1)).sub fun a ha => List.perm_append_comm.subset ha
    · -- the source stands
      obtain ⟨F', ρ', O', acc', xs', P', s1, s2, s3, _, _, s6, _, _⟩ := p
      exact (hit F' H' O' ρ' (wipe σ own) (sub0 s1) s3.left s2 (kw.trans s6) ksw).1
    · -- a turn
      obtain ⟨F', ρ', O', acc', xs', P', s1, s2, s3, s4, s5, s6, s7, s8⟩ := p
      obtain ⟨t1, d, t2, t3⟩ := (hit F' H' O' ρ' (wipe σ own) (sub0 s1) s3.left s2 (kw.trans s6) ksw).2 i x H'' hi y
      have ed : ds.drop i = d :: ds.drop (i + 1) := by
        have hlt : i < ds.length := hi
        rw [List.drop_eq_getElem_cons hlt]
        have : ds[i] = d := by
          have := (List.getElem?_eq_some_iff.mp t2).2
          exact this
        rw [this]
      rw [ed] at s7
      have s7 : (match compStep Φ wf celt ctg ccond own d ρ' with
        | some (some x, ρ') => if acc'.length < lim then compL (compStep Φ wf celt ctg ccond own) (ds.drop (i + 1)) (acc' ++ [x]) ρ' else none
        | some (none, ρ') => compL (compStep Φ wf celt ctg ccond own) (ds.drop (i + 1)) acc' ρ'
        | none => none) = some (acc, ρ4) := s7
      -- the item, made
      have u0 : Wd F' H'' [] := (Wd.join (O := []) (P := O' ++ (D0 :: P')) s3 t1 (wd_nil fun a ha => by
        obtain ⟨ys, q⟩ := s3.ft a ha
        exact ⟨ys, t1.fr a _ q (by simp)⟩)).left
      have u1 : Wd F' H'' (O' ++ (D0 :: P')) := Wd.join (O := []) (P := O' ++ (D0 :: P')) s3 t1 u0
      have u2 : SR K F' H'' ρ' (wipe σ own) O' := SR.stp (wd0 s3) t1 (fun _ _ z => (nomatch z)) s2
      have u3 : VRL K F' H'' acc' xs' P' := VRL.stp (wd0 s3) t1 _ _ _ (fun _ _ z => (nomatch z)) s5
      have u4 : H'' D0 = some (.lst xs') := t1.fr D0 _ s4 (by simp)
      have u5 : Stp F1 H1 O1 F' H'' (O' ++ (D0 :: P')) := s1.trans (⟨fun a o ha _ => t1.fr a o ha (by simp), fun _ h => h, fun a ha => .inl ha, fun _ h => .inl h⟩)
      cases hs : compStep Φ wf celt ctg ccond own d ρ' with
      | none => rw [hs] at s7; cases s7
      | some zz =>
        rw [hs] at s7
        have hs := hs
        unfold compStep at hs
        obtain ⟨ρa, f1, hs⟩ := some_bind hs
        obtain ⟨⟨t, ρb⟩, f2, hs⟩ := some_bind hs
        refine ⟨F', ρ', O', [], d, ρa, u2, t3, by simpa using u1.left, f1, fun σ2 F2 H2 O2 st2 sr2 wd2 kp2 ks2 ag2 => ⟨wipe_ag ag2 htg, ?_⟩⟩
        have st2 : Stp F' H'' O' F2 H2 O2 := by simpa using st2
        refine ⟨F2, ρa, O2, t, ρb, sr2, wd2, f2, fun F3 H3 O3 st3 sr3 wd3 kp3 => ?_⟩
        have st23 := st2.trans st3
        -- what lies beside
        have v1 : Wd F3 H3 (O3 ++ (D0 :: P')) := Wd.join u1 st23 wd3
        have v2 : VRL K F3 H3 acc' xs' P' := VRL.stp u1.left st23 _ _ _ (fun a ha => u1.apart a (by simp [ha])) u3
        have v3 : H3 D0 = some (.lst xs') := st23.fr D0 _ u4 (u1.apart D0 (by simp))
        have v4 : Stp F1 H1 O1 F3 H3 (O3 ++ (D0 :: P')) := u5.trans st23.more
        cases t with
        | false =>
          have hs : some (none, wipeS ρb own) = some zz := hs
          cases hs
          obtain ⟨O5, P5, w1, w2⟩ := wipe_sr own sr3
          rw [wipe_ag ag2 htg] at w1
          have pm : (O3 ++ (D0 :: P')).Perm ((O5 ++ (D0 :: P')) ++ P5) := (w2.append_right _).trans (by
            rw [List.append_assoc, List.append_assoc]
            exact List.Perm.append_left O5 List.perm_append_comm)
          exact ⟨F3, wipeS ρb own, O5, acc', xs', P', v4.sub fun a ha => pm.symm.subset (List.mem_append_left _ ha), w1, (v1.perm pm).left, v3, v2, kp_wipe2 (s6.trans (kp2.trans kp3)), s7, fun j hj hl => wipeS_no own _ j hj (by rwa [wipeS_len] at hl)⟩
        | true =>
          obtain ⟨⟨rr, ρc⟩, f3, hs⟩ := some_bind (show (evE Φ wf celt ρb).bind _ = some zz from hs)
          cases rr with
          | pl j => cases hs
          | d xd =>
            have hs : some (some xd, wipeS ρc own) = some zz := hs
            cases hs
            have s7 : (if acc'.length < lim then compL (compStep Φ wf celt ctg ccond own) (ds.drop (i + 1)) (acc' ++ [xd]) (wipeS ρc own) else none) = some (acc, ρ4) := s7
            split at s7
            · rename_i hlen
              refine ⟨F3, ρb, O3, .d xd, ρc, sr3, wd3, f3, fun v F4 H4 O4 P4 st4 sr4 rr4 wd4 kp4 => ?_⟩
              have x1 : Wd F4 H4 ((O4 ++ P4) ++ (D0 :: P')) := Wd.join v1 st4 wd4
              have x2 : VRL K F4 H4 acc' xs' P' := VRL.stp v1.left st4 _ _ _ (fun a ha => v1.apart a (by simp [ha])) v2
              have x3 : H4 D0 = some (.lst xs') := st4.fr D0 _ v3 (v1.apart D0 (by simp))
              refine ⟨xs', x3, by rw [VRL.length _ _ _ x2, ← lim_eq]; exact hlen, ?_⟩
              obtain ⟨y1, y2, y3, y4⟩ := grow x1 sr4 x3 x2 rr4
              obtain ⟨O5, P5, w1, w2⟩ := wipe_sr own y2
              rw [wipe_ag ag2 htg] at w1
              have pm : (O4 ++ (D0 :: (P' ++ P4))).Perm ((O5 ++ (D0 :: (P' ++ P4))) ++ P5) := (w2.append_right _).trans (by
                rw [List.append_assoc, List.append_assoc]
                exact List.Perm.append_left O5 List.perm_append_comm)
              have z1 : Stp F1 H1 O1 F4 (upd H4 D0 (.lst (xs' ++ [v]))) (O4 ++ (D0 :: (P' ++ P4))) := by
                have q1 := v4.trans (st4.more (P := D0 :: P'))
                have q2 : Stp F1 H1 O1 F4 H4 (O4 ++ (D0 :: (P' ++ P4))) := q1.sub fun a ha => by
                  simp only [List.mem_append, List.mem_cons] at ha ⊢
                  rcases ha with h | h | h | h
                  · exact .inl (.inl h)
                  · exact .inr (.inl h)
                  · exact .inr (.inr h)
                  · exact .inl (.inr h)
                exact q2.trans y1
              exact ⟨F4, wipeS ρc own, O5, acc' ++ [xd], xs' ++ [v], P' ++ P4, z1.sub fun a ha => pm.symm.subset (List.mem_append_left _ ha), w1, (y3.perm pm).left, upd_same, y4, kp_wipe2 (s6.trans (kp2.trans (kp3.trans kp4))), s7, fun j hj hl => wipeS_no own _ j hj (by rwa [wipeS_len] at hl)⟩
            · cases s7
    · -- the end
      obtain ⟨F', ρ', O', acc', xs', P', s1, s2, s3, s4, s5, s6, s7, s8⟩ := p
      have : ds.drop ds.length = [] := List.drop_length
      rw [this] at s7
      have s7 : some (acc', ρ') = some (acc, ρ4) := s7
      cases s7
      obtain ⟨b1, b2⟩ := unlock_ok (lk := lk) hlk (kw.trans s6) s2
      have len1 : ∀ j ∈ own, j < ρ1.length := fun j hj => by
        have := hfr j hj
        unfold freeAt at this
        split at this
        · rename_i q; exact (List.getElem?_eq_some_iff.mp q).1
        · rename_i q; exact (List.getElem?_eq_some_iff.mp q).1
        · cases this
      have apart : ∀ j ∈ own, ∀ i, lk = some i → i ≠ j := fun j hj i hi => by
        rintro rfl
        obtain ⟨l, hl⟩ := hlk i hi
        have := hfr i hj
        unfold freeAt at this
        rcases own_slot hl with q | q
        · rw [q] at this; simp [D.fz] at this
        · rw [q] at this; cases this
      have hlen : ρ4.length = ρ1.length := by
        have q1 := b2.len
        have q2 : (unlock ρ1 lk ρ4).length = ρ4.length := unlock_len
        omega
      have last : SR K F' H' (putBack ρ1 (unlock ρ1 lk ρ4) own) σ O' := by
        refine putBack_sr own hnd (wipe_length σ own) (fun j hj => wipe_get own σ j hj) b1 fun j hj => ⟨?_, fun s es => ?_⟩
        · have q : (unlock ρ1 lk ρ4)[j]? = ρ4[j]? := unlock_get (apart j hj)
          rw [q]
          exact s8 j hj (by rw [hlen]; exact len1 j hj)
        · have q : (lock ρ1 lk)[j]? = some s := by
            cases hk : lk with
            | none => exact es
            | some i =>
              obtain ⟨l, hl⟩ := hlk i hk
              rw [lock_some hl, List.getElem?_set_ne (apart j hj i hk)]
              exact es
          obtain ⟨ov, P5, O5, z1, z2, _, _⟩ := SR.take sr1 q
          have z3 : P5 = [] := by
            have hf := hfr j hj
            unfold freeAt at hf
            rw [es] at hf
            cases s with
            | no => exact z2
            | v d => obtain ⟨v, _, hv⟩ := z2; exact VR.fz d v P5 hf hv
            | bo d => cases hf
            | lk d => cases hf
          subst z3
          exact ⟨ov, z1, S1.stp wd1 (sub0 s1) (fun _ z => (nomatch z)) z2⟩
      refine k (.ref D0) F' H' O' (D0 :: P') (st1.trans s1) last (by show VR K F' H' (.own acc) _ _; unfold VR; exact ⟨D0, xs', P', rfl, s4, s5, rfl⟩) s3 (kp1.trans ?_)
      have nopin : ∀ i, Pin ρ1 i → i ∉ own := fun i hi z => by
        have := hfr i z
        unfold freeAt at this
        rcases hi with ⟨d, q⟩ | ⟨d, q⟩ <;> (rw [q] at this; cases this)
      exact ⟨by rw [putBack_len, b2.len], fun i d e => by rw [putBack_get own _ _ i (nopin i (.inl ⟨d, e⟩))]; exact b2.bo i d e, fun i d e => by rw [putBack_get own _ _ i (nopin i (.inr ⟨d, e⟩))]; exact b2.lk i d e⟩
  · cases e
end
end Co

set_option maxRecDepth 100000
set_option maxHeartbeats 1000000
/-! CoreA: statements -/
namespace Co
open PySem PySem.Spec PyProof.Rows L2

section
variable {K : PySem.W.Frag} {Φ : Nat → List Sl → Option (D × List Sl)} {wf : Nat} {F F2 : Addr → Prop} {H H2 : Hp} {O O2 : List Addr} {ρ ρ2 : Env} {σ σ2 : L2.St} {D0 : Ends} {c ce ct cb : C}
theorem Ks.pre (k : Kp ρ ρ2) {σ' : L2.St} (h : Ks ρ2 σ σ') : Ks ρ σ σ' := fun i hi => h i (k.pin hi)
/-- what is wanted behind, from a later state -/
theorem Post.from {o : Out} (st : Stp F H O F2 H2 O2) (kp : Kp ρ ρ2) (ks : Ks ρ σ σ2) (h : Post K ρ F H O σ D0 o) : Post K ρ2 F2 H2 O2 σ2 D0 o := by
  cases o with
  | nx ρ' => exact fun σ' F' H' O' s1 s2 s3 s4 s5 => h σ' F' H' O' (st.trans s1) s2 s3 (kp.trans s4) (ks.trans kp s5)
  | bk ρ' => exact fun σ' F' H' O' s1 s2 s3 s4 s5 => h σ' F' H' O' (st.trans s1) s2 s3 (kp.trans s4) (ks.trans kp s5)
  | ct ρ' => exact fun σ' F' H' O' s1 s2 s3 s4 s5 => h σ' F' H' O' (st.trans s1) s2 s3 (kp.trans s4) (ks.trans kp s5)
  | rt d ρ' => exact fun σ' v F' H' O' P s1 s2 s3 s4 s5 s6 => h σ' v F' H' O' P (st.trans s1) s2 s3 s4 (kp.trans s5) (ks.trans kp s6)
theorem asg_red (h : tS K Φ wf (.asg ct ce) D0 σ H) : tE K Φ wf ce σ H fun x H1 => tG K Φ wf ct x σ H1 D0.nx := by
  obtain ⟨F, ρ, O, o, sr, wd, e, p⟩ := h
  simp only [evS] at e
  obtain ⟨⟨r, ρ1⟩, e1, e⟩ := some_bind e
  cases r with
  | pl i => cases e
  | d d =>
    obtain ⟨ρ2, e2, e⟩ := some_bind (show (evG Φ wf ct d ρ1).bind _ = some o from e)
    cases e
    exact ⟨F, ρ, O, .d d, ρ1, sr, wd, e1, fun v F1 H1 O1 P1 st sr1 rr wd1 kp => ⟨F1, ρ1, O1, P1, d, ρ2, sr1, rr, wd1, e2, fun σ' F' H' O' s1 s2 s3 s4 s5 _ => p σ' F' H' O' (st.trans s1) s2 s3 (kp.trans s4) (s5.pre kp)⟩⟩
theorem loop_red {csrc ctg cbody : C} (h : tS K Φ wf (.for_ ctg csrc cbody) D0 σ H) : tFor (tI K Φ wf csrc) (tG K Φ wf ctg) (tBk K Φ wf cbody) D0 σ H := by
  obtain ⟨F, ρ, O, o, sr, wd, e, post⟩ := h
  simp only [evS] at e
  obtain ⟨⟨ds, lk, ρ1⟩, e1, e⟩ := some_bind e
  obtain ⟨o1, e2, e⟩ := some_bind e
  cases e
  refine ⟨F, ρ, O, ds, lk, ρ1, sr, wd, e1, fun J F1 H1 O1 st1 sr1 wd1 kp1 hlk it => ?_⟩
  obtain ⟨G, Y, W, hit⟩ := it
  let step : D → Env → Option Out := fun d ρ => (evG Φ wf ctg d ρ).bind fun ρ' => evB Φ wf cbody ρ'
  have e2 : forL step ds (lock ρ1 lk) = some o1 := e2
  let Pv : Nat → L2.St → Hp → Prop := fun i σ' H' => ∃ F' ρ' O', Stp F1 H1 O1 F' H' O' ∧ SR K F' H' ρ' σ' O' ∧ Wd F' H' O' ∧ Kp (lock ρ1 lk) ρ' ∧ Ks (lock ρ1 lk) σ σ' ∧ forL step (ds.drop i) ρ' = some o1
  have ksl : ∀ {σ' : L2.St}, Ks (lock ρ1 lk) σ σ' → Ks ρ σ σ' := fun h i hi => h i (lock_kp hlk (kp1.pin hi))
  refine for_it W Pv ?_ (fun i σ' H' hi p => ?_) (fun i x σ' H' H'' hi p y => ?_) (fun σ' H' p => ?_)
  · exact ⟨F1, lock ρ1 lk, O1, Stp.refl, sr1, wd1, Kp.refl, Ks.refl, e2⟩
  · obtain ⟨F', ρ', O', s1, s2, s3, s4, s5, _⟩ := p
    exact (hit F' H' O' ρ' σ' s1 s3 s2 s4 s5).1
  · obtain ⟨F', ρ', O', s1, s2, s3, s4, s5, s6⟩ := p
    obtain ⟨t1, d, t2, t3⟩ := (hit F' H' O' ρ' σ' s1 s3 s2 s4 s5).2 i x H'' hi y
    have ed : ds.drop i = d :: ds.drop (i + 1) := by
      have hlt : i < ds.length := hi
      rw [List.drop_eq_getElem_cons hlt]
      have : ds[i] = d := (List.getElem?_eq_some_iff.mp t2).2
      rw [this]
    rw [ed] at s6
    have u0 : Wd F' H'' [] := wd_nil fun a ha => by
      obtain ⟨ys, q⟩ := s3.ft a ha
      exact ⟨ys, t1.fr a _ q (by simp)⟩
    have u1 : Wd F' H'' O' := by simpa using Wd.join (O := []) (P := O') s3 t1 u0
    have u2 : SR K F' H'' ρ' σ' O' := SR.stp (wd0 s3) t1 (fun _ _ z => (nomatch z)) s2
    have u5 : Stp F1 H1 O1 F' H'' O' := s1.trans (⟨fun a o ha _ => t1.fr a o ha (by simp), fun _ h => h, fun a ha => .inl ha, fun _ h => .inl h⟩)
    have s6 : (match step d ρ' with
      | some (.nx ρ') => forL step (ds.drop (i + 1)) ρ'
      | some (.ct ρ') => forL step (ds.drop (i + 1)) ρ'
      | some (.bk ρ') => some (.nx ρ')
      | some (.rt d ρ') => some (.rt d ρ')
      | none => none) = some o1 := s6
    cases hs : step d ρ' with
    | none => rw [hs] at s6; cases s6
    | some z =>
      rw [hs] at s6
      obtain ⟨ρa, f1, f2⟩ := some_bind (show (evG Φ wf ctg d ρ').bind _ = some z from hs)
      refine ⟨F', ρ', O', [], d, ρa, u2, t3, by simpa using u1, f1, fun σ2 F2 H2 O2 st2 sr2 wd2 kp2 ks2 _ => ⟨F2, ρa, O2, z, sr2, wd2, f2, ?_⟩⟩
      have st2 : Stp F' H'' O' F2 H2 O2 := by simpa using st2
      have a1 := u5.trans st2
      have a2 := s4.trans kp2
      have a3 : Ks (lock ρ1 lk) σ σ2 := s5.trans s4 ks2
      cases z with
      | nx ρb => exact fun σ3 F3 H3 O3 b1 b2 b3 b4 b5 => ⟨F3, ρb, O3, a1.trans b1, b2, b3, a2.trans b4, a3.trans a2 b5, s6⟩
      | ct ρb => exact fun σ3 F3 H3 O3 b1 b2 b3 b4 b5 => ⟨F3, ρb, O3, a1.trans b1, b2, b3, a2.trans b4, a3.trans a2 b5, s6⟩
      | bk ρb =>
        cases s6
        intro σ3 F3 H3 O3 b1 b2 b3 b4 b5
        obtain ⟨q1, q2⟩ := unlock_ok (lk := lk) hlk (a2.trans b4) b2
        exact post σ3 F3 H3 O3 (st1.trans (a1.trans b1)) q1 b3 (kp1.trans q2) (ksl (a3.trans a2 b5))
      | rt d2 ρb =>
        cases s6
        intro σ3 v F3 H3 O3 P3 b1 b2 b3 b4 b5 b6
        obtain ⟨q1, q2⟩ := unlock_ok (lk := lk) hlk (a2.trans b5) b2
        exact post σ3 v F3 H3 O3 P3 (st1.trans (a1.trans b1)) q1 b3 b4 (kp1.trans q2) (ksl (a3.trans a2 b6))
  · obtain ⟨F', ρ', O', s1, s2, s3, s4, s5, s6⟩ := p
    rw [List.drop_length] at s6
    cases s6
    obtain ⟨q1, q2⟩ := unlock_ok (lk := lk) hlk s4 s2
    exact post σ' F' H' O' (st1.trans s1) q1 s3 (kp1.trans q2) (ksl s5)
theorem while_red {cc cbody : C} (h : tS K Φ wf (.whl cc cbody) D0 σ H) : tWhile (tT K Φ wf cc) (tBk K Φ wf cbody) D0 σ H := by
  obtain ⟨F, ρ, O, o, sr, wd, e, post⟩ := h
  simp only [evS] at e
  refine ⟨fun m σ' H' => ∃ F' ρ' O', SR K F' H' ρ' σ' O' ∧ Wd F' H' O' ∧ Post K ρ' F' H' O' σ' D0 o ∧ whileL (evT Φ wf cc) (evB Φ wf cbody) m ρ' = some o, ⟨wf, F, ρ, O, sr, wd, post, e⟩, ?_⟩
  rintro m σ' H' ⟨F', ρ', O', s1, s2, s3, s4⟩
  cases m with
  | zero => cases s4
  | succ m =>
    have s4 : (match evT Φ wf cc ρ' with
      | some (true, ρ') => match evB Φ wf cbody ρ' with
        | some (.nx ρ2) => whileL (evT Φ wf cc) (evB Φ wf cbody) m ρ2
        | some (.ct ρ2) => whileL (evT Φ wf cc) (evB Φ wf cbody) m ρ2
        | some (.bk ρ2) => some (.nx ρ2)
        | some (.rt d ρ2) => some (.rt d ρ2)
        | none => none
      | some (false, ρ') => some (.nx ρ')
      | none => none) = some o := s4
    cases ht : evT Φ wf cc ρ' with
    | none => rw [ht] at s4; cases s4
    | some z =>
      obtain ⟨b, ρa⟩ := z
      rw [ht] at s4
      refine ⟨F', ρ', O', b, ρa, s1, s2, ht, fun F2 H2 O2 st2 sr2 wd2 kp2 => ?_⟩
      have p2 := Post.from st2 kp2 Ks.refl s3
      cases b with
      | false =>
        have s4 : some (Out.nx ρa) = some o := s4
        cases s4
        exact p2 σ' F2 H2 O2 Stp.refl sr2 wd2 Kp.refl Ks.refl
      | true =>
        have s4 : (match evB Φ wf cbody ρa with
          | some (.nx ρ2) => whileL (evT Φ wf cc) (evB Φ wf cbody) m ρ2
          | some (.ct ρ2) => whileL (evT Φ wf cc) (evB Φ wf cbody) m ρ2
          | some (.bk ρ2) => some (.nx ρ2)
          | some (.rt d ρ2) => some (.rt d ρ2)
          | none => none) = some o := s4
        cases hb : evB Φ wf cbody ρa with
        | none => rw [hb] at s4; cases s4
        | some z =>
          rw [hb] at s4
          refine ⟨fun σ' H' => ∃ F' ρ' O', SR K F' H' ρ' σ' O' ∧ Wd F' H' O' ∧ Post K ρ' F' H' O' σ' D0 o ∧ whileL (evT Φ wf cc) (evB Φ wf cbody) m ρ' = some o, fun σ' H' q => ⟨m, Nat.lt_succ_self m, q⟩, F2, ρa, O2, z, sr2, wd2, hb, ?_⟩
          cases z with
          | nx ρb => exact fun σ3 F3 H3 O3 b1 b2 b3 b4 b5 => ⟨F3, ρb, O3, b2, b3, Post.from b1 b4 b5 p2, s4⟩
          | ct ρb => exact fun σ3 F3 H3 O3 b1 b2 b3 b4 b5 => ⟨F3, ρb, O3, b2, b3, Post.from b1 b4 b5 p2, s4⟩
          | bk ρb =>
            cases s4
            exact fun σ3 F3 H3 O3 b1 b2 b3 b4 b5 => p2 σ3 F3 H3 O3 b1 b2 b3 b4 b5
          | rt d2 ρb =>
            cases s4
            exact fun σ3 v F3 H3 O3 P3 b1 b2 b3 b4 b5 b6 => p2 σ3 v F3 H3 O3 P3 b1 b2 b3 b4 b5 b6
end

section
variable {X : Cx} {Φ : Nat → List Sl → Option (D × List Sl)} {wf : Nat} {a b c e tg : Expr} {ca cb cc ce ct : C} {pos : Pos}
abbrev SS (X : Cx) (Φ : Nat → List Sl → Option (D × List Sl)) (wf : Nat) (s : Stmt) (c : C) : Prop := PS X s (tS X.K Φ wf c)
abbrev SB (X : Cx) (Φ : Nat → List Sl → Option (D × List Sl)) (wf : Nat) (s : List Stmt) (c : C) : Prop := PSs X s (tBk X.K Φ wf c)
theorem sb_nil : SB X Φ wf [] .nil := by
  refine PSs.weak pss_nil fun D0 σ H h => ?_
  obtain ⟨F, ρ, O, o, sr, wd, e, p⟩ := h
  simp only [evB] at e
  cases e
  exact p σ F H O Stp.refl sr wd Kp.refl Ks.refl
theorem sb_cons {s : Stmt} {ss : List Stmt} {cs : C} (h1 : SS X Φ wf s ca) (h2 : SB X Φ wf ss cs) : SB X Φ wf (s :: ss) (.cons ca cs) := by
  refine PSs.weak (pss_cons h1 h2) fun D0 σ H h => ?_
  obtain ⟨F, ρ, O, o, sr, wd, e, p⟩ := h
  simp only [evB] at e
  obtain ⟨o1, e1, e2⟩ := some_bind e
  refine ⟨F, ρ, O, o1, sr, wd, e1, ?_⟩
  cases o1 with
  | nx ρ1 => exact fun σ' F' H' O' s1 s2 s3 s4 s5 => ⟨F', ρ1, O', o, s2, s3, e2, Post.from s1 s4 s5 p⟩
  | bk ρ1 => cases e2; exact p
  | ct ρ1 => cases e2; exact p
  | rt d ρ1 => cases e2; exact p
theorem ss_asg (he : SE X Φ wf e ce) (hl : isLC e = false) (ht : isTupE e = false) (hg : PG X tg (tG X.K Φ wf ct)) (h1 : (assignEach [tg] X.env).map (·.2) = [assign tg X.env]) : SS X Φ wf (.Assign [tg] e pos) (.asg ct ce) :=
  PS.weak (ps_asg he.pe hg (he.pl.sw hl _ _ _) (he.pl.ns ht _ _) h1) fun D0 σ H h => asg_red h
/-- a tuple display given to a name, to a subscript -/
theorem ss_asgT (he : SE X Φ wf e ce) (hl : isLC e = false) (hns : swappedStores [tg] e X.env = pure none) (hg : PG X tg (tG X.K Φ wf ct)) (h1 : (assignEach [tg] X.env).map (·.2) = [assign tg X.env]) : SS X Φ wf (.Assign [tg] e pos) (.asg ct ce) :=
  PS.weak (ps_asg he.pe hg (he.pl.sw hl _ _ _) hns h1) fun D0 σ H h => asg_red h
theorem ss_par {i j : Nat} {x y : Str} {px py pt : Pos} {kt k2 pt2} (hc : X.calm = true) (hN : X.N.Nodup) (hi : X.N[i]? = some x) (hj : X.N[j]? = some y) (hij : i ≠ j)
    (hx : X.env.scope.names.lookup x = some .local) (hy : X.env.scope.names.lookup y = some .local) (hs : SA X Φ wf [a, b] cc)
    (hw : swappedStores [.Tuple [.Name x px, .Name y py] kt pt] (.Tuple [a, b] k2 pt2) X.env = pure (some [x, y])) :
    SS X Φ wf (.Assign [.Tuple [.Name x px, .Name y py] kt pt] (.Tuple [a, b] k2 pt2) pos) (.par i j cc) := by
  refine PS.weak (ps_par hc hN hi hj hij hx hy hs.pa hw) fun D0 σ H h => ?_
  obtain ⟨F, ρ, O, o, sr, wd, e, p⟩ := h
  simp only [evS] at e
  obtain ⟨⟨rs, ρ1⟩, e1, e⟩ := some_bind e
  refine ⟨F, ρ, O, rs, ρ1, sr, wd, e1, fun vs F1 H1 O1 P st sr1 rr wd1 kp => ?_⟩
  have e : parS ρ1 i j rs = some o := e
  unfold parS at e
  split at e
  · rename_i dx dy _
    obtain ⟨ρ2, e2, e⟩ := some_bind e
    obtain ⟨ρ3, e3, e⟩ := some_bind e
    cases e
    obtain ⟨v, xs1, P1, P2, rfl, h1, ⟨w, xs2, P3, P4, rfl, h2, ⟨rfl, rfl⟩, rfl⟩, rfl⟩ := rr
    have w0 : Wd F1 H1 ((O1 ++ P1) ++ P3) := by
      rw [List.append_nil, ← List.append_assoc] at wd1
      exact wd1
    refine ⟨v, w, rfl, ?_⟩
    have q : gName i v σ H1 (fun σ1 H2 => gName j w σ1 H2 D0.nx) := name_red (K := X.K) (Φ := Φ) (wf := wf) ⟨F1, ρ1, O1, P1, dx, ρ2, sr1, h1, w0.left, by simp only [evG]; exact e2, fun σ1 F2 H2 O2 s1 s2 s3 s4 s5 _ => name_red (K := X.K) (Φ := Φ) (wf := wf) ⟨F2, ρ2, O2, P3, dy, ρ3, s2, VR.stp w0.left s1 dy w P3 w0.apart h2, Wd.join w0 s1 s3, by simp only [evG]; exact e3, fun σ2 F3 H3 O3 t1 t2 t3 t4 t5 _ => ?_⟩⟩
    · exact q
    · refine p σ2 F3 H3 O3 ?_ t2 t3 (kp.trans (s4.trans t4)) (Ks.pre kp (s5.trans s4 t5))
      have m := s1.more (P := P3)
      rw [List.append_nil, ← List.append_assoc] at st
      exact st.trans (m.trans t1)
  · cases e
theorem ss_par3 {i j l : Nat} {x y z : Str} {px py pz pt : Pos} {kt k2 pt2} (hc : X.calm = true) (hN : X.N.Nodup) (hi : X.N[i]? = some x) (hj : X.N[j]? = some y) (hl : X.N[l]? = some z) (hij : i ≠ j) (hil : i ≠ l) (hjl : j ≠ l)
    (hx : X.env.scope.names.lookup x = some .local) (hy : X.env.scope.names.lookup y = some .local) (hz : X.env.scope.names.lookup z = some .local) (hs : SA X Φ wf [a, b, c] cc)
    (hw : swappedStores [.Tuple [.Name x px, .Name y py, .Name z pz] kt pt] (.Tuple [a, b, c] k2 pt2) X.env = pure (some [x, y, z])) :
    SS X Φ wf (.Assign [.Tuple [.Name x px, .Name y py, .Name z pz] kt pt] (.Tuple [a, b, c] k2 pt2) pos) (.par3 i j l cc) := by
  refine PS.weak (ps_par3 hc hN hi hj hl hij hil hjl hx hy hz hs.pa hw) fun D0 σ H h => ?_
  obtain ⟨F, ρ, O, o, sr, wd, e, p⟩ := h
  simp only [evS] at e
  obtain ⟨⟨rs, ρ1⟩, e1, e⟩ := some_bind e
  refine ⟨F, ρ, O, rs, ρ1, sr, wd, e1, fun vs F1 H1 O1 P st sr1 rr wd1 kp => ?_⟩
  have e : parS3 ρ1 i j l rs = some o := e
  unfold parS3 at e
  split at e
  · rename_i dx dy dz _
    obtain ⟨ρ2, e2, e⟩ := some_bind e
    obtain ⟨ρ3, e3, e⟩ := some_bind e
    obtain ⟨ρ4, e4, e⟩ := some_bind e
    cases e
    obtain ⟨v, xs1, P1, P2, rfl, h1, ⟨w, xs2, P3, P4, rfl, h2, ⟨u, xs3, P5, P6, rfl, h3, ⟨rfl, rfl⟩, rfl⟩, rfl⟩, rfl⟩ := rr
    have w0 : Wd F1 H1 (((O1 ++ P1) ++ P3) ++ P5) := by
      rw [List.append_nil] at wd1
      simpa only [List.append_assoc] using wd1
    refine ⟨v, w, u, rfl, ?_⟩
    have q : gName i v σ H1 (fun σ1 H2 => gName j w σ1 H2 (fun σ2 H3 => gName l u σ2 H3 D0.nx)) := name_red (K := X.K) (Φ := Φ) (wf := wf) ⟨F1, ρ1, O1, P1, dx, ρ2, sr1, h1, w0.left.left, by simp only [evG]; exact e2, fun σ1 F2 H2 O2 s1 s2 s3 s4 s5 _ =>
      name_red (K := X.K) (Φ := Φ) (wf := wf) ⟨F2, ρ2, O2, P3, dy, ρ3, s2, VR.stp w0.left.left s1 dy w P3 w0.left.apart h2, Wd.join w0.left s1 s3, by simp only [evG]; exact e3, fun σ2 F3 H3 O3 t1 t2 t3 t4 t5 _ =>
      name_red (K := X.K) (Φ := Φ) (wf := wf) ⟨F3, ρ3, O3, P5, dz, ρ4, t2, VR.stp (Wd.join w0.left s1 s3) t1 dz u P5 (fun a ha => ?_) (VR.stp w0.left s1.more dz u P5 w0.apart h3), ?_, by simp only [evG]; exact e4, fun σ3 F4 H4 O4 r1 r2 r3 r4 r5 _ => ?_⟩⟩⟩
    · exact q
    · have w5 : Wd F2 H2 ((O2 ++ P3) ++ P5) := Wd.join w0 s1.more (Wd.join w0.left s1 s3)
      exact w5.apart a ha
    · have w5 : Wd F2 H2 ((O2 ++ P3) ++ P5) := Wd.join w0 s1.more (Wd.join w0.left s1 s3)
      exact Wd.join w5 t1 t3
    · refine p σ3 F4 H4 O4 ?_ r2 r3 (kp.trans (s4.trans (t4.trans r4))) (Ks.pre kp (s5.trans s4 (t5.trans t4 r5)))
      have m1 := (s1.more (P := P3)).more (P := P5)
      have m2 := t1.more (P := P5)
      rw [List.append_nil] at st
      have st' : Stp F H O F1 H1 (((O1 ++ P1) ++ P3) ++ P5) := by simpa only [List.append_assoc] using st
      exact st'.trans (m1.trans (m2.trans r1))
  · cases e
theorem ss_setLc {i : Nat} {y : Str} {py : Pos} {elt tg iter : Expr} {ifs : List Expr} {scope : Scope} {own : List (Str × Nat)} {spos : Pos} {celt ctg csrc ccond : C} (hc : X.calm = true) (hN : X.N.Nodup) (hy : X.N[i]? = some y) (hyl : X.env.scope.names.lookup y = some .local)
    (hsw : swapsWith (.ListComp elt [⟨tg, iter, ifs, 0⟩] scope pos) (some (.Name y py)) spos.line X.env = pure true) (hi : PI X tg iter (tI X.K Φ wf csrc)) (ok : BlkOk X.N X.env.scope scope own)
    (hg : ∀ (s : Shared) (H : Hp) (C : Addr) (cl : List (Str × Addr)) (fp : List Addr), PG (X.blk s H scope (compEnvC scope cl C X.env) fp) tg (tG X.K Φ wf ctg)) (ht : ∀ (s : Shared) (H : Hp) (C : Addr) (cl : List (Str × Addr)) (fp : List Addr), PTs (X.blk s H scope (compEnvC scope cl C X.env) fp) ifs (tT X.K Φ wf ccond))
    (he : ∀ (s : Shared) (H : Hp) (C : Addr) (cl : List (Str × Addr)) (fp : List Addr), PE (X.blk s H scope (compEnvC scope cl C X.env) fp) elt (tE X.K Φ wf celt)) (hs : ∀ x, foldedSetIterable iter X.env x = pure x) (htg : ∀ j ∈ tgts ctg, j ∈ own.map (·.2)) (hnd : (own.map (·.2)).Nodup) :
    SS X Φ wf (.Assign [.Name y py] (.ListComp elt [⟨tg, iter, ifs, 0⟩] scope pos) spos) (.asg (.tnm i) (.comp celt ctg csrc ccond (own.map (·.2)))) := by
  refine PS.weak (ps_setLc hc hN hy hyl hsw hi ok hg ht he hs) fun D0 σ H h => ?_
  have q := asg_red h
  have q2 := comp_red htg hnd q
  -- the target's reading weakened
  refine comp_red htg hnd ?_
  obtain ⟨F, ρ, O, r, ρ', sr, wd, e, k⟩ := q
  exact ⟨F, ρ, O, r, ρ', sr, wd, e, fun v F' H' O' P s1 s2 s3 s4 s5 => name_red (k v F' H' O' P s1 s2 s3 s4 s5)⟩
theorem se_comp {elt tg iter : Expr} {ifs : List Expr} {scope : Scope} {own : List (Str × Nat)} {celt ctg csrc ccond : C} (hc : X.calm = true) (hN : X.N.Nodup) (hi : PI X tg iter (tI X.K Φ wf csrc)) (ok : BlkOk X.N X.env.scope scope own)
    (hg : ∀ (s : Shared) (H : Hp) (C : Addr) (cl : List (Str × Addr)) (fp : List Addr), PG (X.blk s H scope (compEnvC scope cl C X.env) fp) tg (tG X.K Φ wf ctg)) (ht : ∀ (s : Shared) (H : Hp) (C : Addr) (cl : List (Str × Addr)) (fp : List Addr), PTs (X.blk s H scope (compEnvC scope cl C X.env) fp) ifs (tT X.K Φ wf ccond))
    (he : ∀ (s : Shared) (H : Hp) (C : Addr) (cl : List (Str × Addr)) (fp : List Addr), PE (X.blk s H scope (compEnvC scope cl C X.env) fp) elt (tE X.K Φ wf celt)) (hs : ∀ x, foldedSetIterable iter X.env x = pure x) (htg : ∀ j ∈ tgts ctg, j ∈ own.map (·.2)) (hnd : (own.map (·.2)).Nodup) :
    SE X Φ wf (.ListComp elt [⟨tg, iter, ifs, 0⟩] scope pos) (.comp celt ctg csrc ccond (own.map (·.2))) :=
  ⟨PE.weak (pe_lc hc hN hi ok hg ht he hs) fun σ H Q h => comp_red htg hnd h, plain_LC⟩
theorem pts_nil_c : PTs X [] (tT X.K Φ wf (.bl true)) := ⟨fun pins s σ H Q I h => by
  obtain ⟨F, ρ, O, b, ρ', sr, wd, e, k⟩ := h
  simp only [evT] at e
  cases e
  exact pts_nil.run pins s σ H Q I (k F H O Stp.refl sr wd Kp.refl)⟩
theorem ss_exs (he : SE X Φ wf e ce) (hl : isLC e = false) : SS X Φ wf (.Expr e pos) (.exs ce) := by
  refine PS.weak (ps_expr he.pe (he.pl.sw hl _ _ _)) fun D0 σ H h => ?_
  obtain ⟨F, ρ, O, o, sr, wd, e, p⟩ := h
  simp only [evS] at e
  obtain ⟨⟨r, ρ1⟩, e1, e⟩ := some_bind e
  cases e
  exact ⟨F, ρ, O, r, ρ1, sr, wd, e1, fun v F1 H1 O1 P st sr1 _ wd1 kp => p σ F1 H1 O1 (sub0 st) sr1 wd1.left kp Ks.refl⟩
theorem ss_ret (he : SE X Φ wf e ce) : SS X Φ wf (.Return (some e) pos) (.ret ce) := by
  refine PS.weak (ps_ret he.pe) fun D0 σ H h => ?_
  obtain ⟨F, ρ, O, o, sr, wd, e, p⟩ := h
  simp only [evS] at e
  obtain ⟨⟨r, ρ1⟩, e1, e⟩ := some_bind e
  cases r with
  | pl i => cases e
  | d d =>
    cases e
    exact ⟨F, ρ, O, .d d, ρ1, sr, wd, e1, fun v F1 H1 O1 P st sr1 rr wd1 kp => p σ v F1 H1 O1 P st sr1 rr wd1 kp Ks.refl⟩
theorem ss_retN : SS X Φ wf (.Return none pos) .retN := by
  refine PS.weak ps_retN fun D0 σ H h => ?_
  obtain ⟨F, ρ, O, o, sr, wd, e, p⟩ := h
  simp only [evS] at e
  cases e
  exact p σ .non F H O [] (nil_l Stp.refl) sr nonV (nil_w wd) Kp.refl Ks.refl
theorem ss_if {bs cs : List Stmt} {cbs ccs : C} (hc : ST X Φ wf a ca) (hb : SB X Φ wf bs cbs) (hcs : SB X Φ wf cs ccs) : SS X Φ wf (.If a bs cs pos) (.cond ca cbs ccs) := by
  refine PS.weak (ps_if hc hb hcs) fun D0 σ H h => ?_
  obtain ⟨F, ρ, O, o, sr, wd, e, p⟩ := h
  simp only [evS] at e
  obtain ⟨⟨t, ρ1⟩, e1, e⟩ := some_bind e
  refine ⟨F, ρ, O, t, ρ1, sr, wd, e1, fun F1 H1 O1 st sr1 wd1 kp => ?_⟩
  have p2 := Post.from st kp Ks.refl p
  cases t with
  | true => exact ⟨F1, ρ1, O1, o, sr1, wd1, e, p2⟩
  | false => exact ⟨F1, ρ1, O1, o, sr1, wd1, e, p2⟩
theorem ss_for {iter : Expr} {bs : List Stmt} {csrc ctg cbody : C} (hxe : X.xe = fun _ _ => False) (hc : X.calm = true) (hi : PI X tg iter (tI X.K Φ wf csrc)) (hg : PG X tg (tG X.K Φ wf ctg)) (hb : SB X Φ wf bs cbody) (hs : ∀ x, foldedSetIterable iter X.env x = pure x) : SS X Φ wf (.For tg iter bs [] pos) (.for_ ctg csrc cbody) :=
  PS.weak (ps_for (by rw [hxe]; exact PassesOwn.never) hc hi hg hb hs) fun D0 σ H h => loop_red h
theorem ss_while {bs : List Stmt} {cbody : C} (hxe : X.xe = fun _ _ => False) (hc : ST X Φ wf a ca) (hb : SB X Φ wf bs cbody) : SS X Φ wf (.While a bs [] pos) (.whl ca cbody) :=
  PS.weak (ps_while (by rw [hxe]; exact PassesOwn.never) hc hb) fun D0 σ H h => while_red h
theorem ss_brk : SS X Φ wf (.Break pos) .brk := by
  refine PS.weak ps_break fun D0 σ H h => ?_
  obtain ⟨F, ρ, O, o, sr, wd, e, p⟩ := h
  simp only [evS] at e
  cases e
  exact p σ F H O Stp.refl sr wd Kp.refl Ks.refl
theorem ss_cnt : SS X Φ wf (.Continue pos) .cnt := by
  refine PS.weak ps_continue fun D0 σ H h => ?_
  obtain ⟨F, ρ, O, o, sr, wd, e, p⟩ := h
  simp only [evS] at e
  cases e
  exact p σ F H O Stp.refl sr wd Kp.refl Ks.refl
theorem ss_pass : SS X Φ wf (.Pass pos) .pass := by
  refine PS.weak ps_pass fun D0 σ H h => ?_
  obtain ⟨F, ρ, O, o, sr, wd, e, p⟩ := h
  simp only [evS] at e
  cases e
  exact p σ F H O Stp.refl sr wd Kp.refl Ks.refl
end
end Co

set_option maxRecDepth 100000
set_option maxHeartbeats 1000000
/-! CoreB: the look at a def's text -/
namespace Co
open PySem PySem.Spec PyProof.Rows L2

def bltName : Blt → String
  | .len => "len" | .list => "list" | .tuple => "tuple" | .abs => "abs" | .int => "int" | .min => "min" | .max => "max" | .sum => "sum" | .any => "any" | .all => "all" | .str => "str"
def mutName : Mut → String
  | .append => "append" | .extend => "extend" | .pop => "pop"
def tyNames : List String := ["int", "bool", "str", "tuple", "list"]
/-- the built-in names that the core knows -/
def bltNames : List Str := ["len", "list", "tuple", "abs", "int", "bool", "str", "isinstance", "range", "enumerate", "min", "max", "sum", "any", "all"]

section
variable (N : List Str) (nm : List Str)
def visB (sc : Scope) (x : Str) : Bool := decide (sc.names.lookup x = some .local) || decide (sc.names.lookup x = some .cell) || decide (sc.names.lookup x = some .free)
def glB (sc : Scope) (x : Str) : Bool := decide (sc.names.lookup x = some .globalImplicit)
def okN (x : Str) : Bool := !(x == ("__debug__" : Str)) && !(x == ("__classdict__" : Str))
/-- a name that may be stored -/
def locB (sc : Scope) (fnb : Str → Bool) (x : Str) : Bool := decide (sc.names.lookup x = some .local) || (decide (sc.names.lookup x = some .cell) && fnb x)
def nameB (sc : Scope) (i : Nat) (x : Str) : Bool := decide (N[i]? = some x) && visB sc x && okN x
def plainT : Expr → Bool
  | .UnaryOp .Not _ _ => false
  | .BoolOp .. => false
  | .IfExp .. => false
  | .Compare .. => false
  | _ => true
def blkFn (scope : Scope) (x : Str) : Bool := scope.names.lookup x == some .cell
def ownL (own : List Nat) : List (Str × Nat) := own.map fun i => (N.getD i Str.empty, i)
def tupleE : Expr → Bool
  | .Tuple .. => true
  | _ => false
def listE : Expr → Bool
  | .List .. => true
  | _ => false
def optB {α : Type} (o : Option α) (f : α → Bool) : Bool :=
  match o with
  | some a => f a
  | none => false
def asName : Expr → Option Str
  | .Name x _ => some x
  | _ => none
def asConst : Expr → Option Const
  | .Constant c _ _ => some c
  | _ => none
def constB : C → Const → Bool
  | .non, .none => true
  | .bl b, .bool c => b == c
  | .int b, .int c => decide (b = c)
  | .str b, .str c => decide (b = c)
  | _, _ => false
def asBin : Expr → Option (Expr × Operator × Expr)
  | .BinOp a o b _ => some (a, o, b)
  | _ => none
def asUn : Expr → Option (UnaryOp × Expr)
  | .UnaryOp o a _ => some (o, a)
  | _ => none
def asCmp1 : Expr → Option (CmpOp × Expr × Expr)
  | .Compare a [o] [b] _ => some (o, a, b)
  | _ => none
def asCmp2 : Expr → Option (CmpOp × CmpOp × Expr × Expr × Expr)
  | .Compare a [o, o2] [b, c] _ => some (o, o2, a, b, c)
  | _ => none
def asBool : Expr → Option (BoolOp × Expr × Expr × List Expr)
  | .BoolOp o (a :: b :: r) _ => some (o, a, b, r)
  | _ => none
def asIf : Expr → Option (Expr × Expr × Expr)
  | .IfExp c a b _ => some (c, a, b)
  | _ => none
def asTup : Expr → Option (List Expr)
  | .Tuple es _ _ => some es
  | _ => none
def asLst : Expr → Option (List Expr)
  | .List es _ => some es
  | _ => none
def asSub : Expr → Option (Expr × Expr)
  | .Subscript a b _ => some (a, b)
  | _ => none
def asSlc : Expr → Option (Expr × Option Expr × Option Expr)
  | .Subscript a (.Slice lo hi none _) _ => some (a, lo, hi)
  | _ => none
def asSubN : Expr → Option (Str × Expr)
  | .Subscript (.Name x _) b _ => some (x, b)
  | _ => none
def asCall : Expr → Option (Str × List Expr)
  | .Call (.Name x _) es [] _ => some (x, es)
  | _ => none
def asMeth : Expr → Option (Str × Str × Pos × Expr × List Expr × Pos)
  | .Call (.Attribute (.Name x _) m p2) (e :: es) [] pos => some (x, m, p2, e, es, pos)
  | _ => none
def asMethE : Expr → Option (Expr × Str × Pos × Expr × List Expr × Pos)
  | .Call (.Attribute o m p2) (e :: es) [] pos => some (o, m, p2, e, es, pos)
  | _ => none
def notCall : Expr → Bool
  | .Call .. => false
  | _ => true
def asLC : Expr → Option (Expr × Expr × Expr × List Expr × Scope)
  | .ListComp elt [⟨tg, iter, ifs, 0⟩] scope _ => some (elt, tg, iter, ifs, scope)
  | _ => none
def hd1 : List Expr → Option Expr
  | [e] => some e
  | _ => none
def hd2 : List Expr → Option (Expr × Expr)
  | [a, b] => some (a, b)
  | _ => none
def hdc : List Expr → Option (Expr × List Expr)
  | a :: r => some (a, r)
  | _ => none
def hdcc : List Expr → Option (Expr × Expr × List Expr)
  | a :: b :: r => some (a, b, r)
  | _ => none
mutual
def chkE : C → Scope → (Str → Bool) → Expr → Bool
  | .var i, sc, _, e => optB (asName e) fun x => nameB N sc i x
  | .fz i, sc, _, e => optB (asName e) fun x => nameB N sc i x
  | .mv i, sc, _, e => optB (asName e) fun x => nameB N sc i x
  | .non, _, _, e => optB (asConst e) (constB .non)
  | .bl b, _, _, e => optB (asConst e) (constB (.bl b))
  | .int b, _, _, e => optB (asConst e) (constB (.int b))
  | .str b, _, _, e => optB (asConst e) (constB (.str b))
  | .bin o a b, sc, fb, e => optB (asBin e) fun (a', o', b') => decide (o = o') && chkE a sc fb a' && chkE b sc fb b'
  | .neg a, sc, fb, e => optB (asUn e) fun (o, a') => decide (o = .USub) && chkE a sc fb a'
  | .not a, sc, fb, e => optB (asUn e) fun (o, a') => decide (o = .Not) && chkE a sc fb a'
  | .cmp o a b, sc, fb, e => optB (asCmp1 e) fun (o', a', b') => decide (o = o') && chkE a sc fb a' && chkE b sc fb b'
  | .chn o1 o2 a b c, sc, fb, e => optB (asCmp2 e) fun (o1', o2', a', b', c') => decide (o1 = o1') && decide (o2 = o2') && chkE a sc fb a' && chkE b sc fb b' && chkE c sc fb c'
  | .and a b, sc, fb, e => optB (asBool e) fun (o, a', b', r) => decide (o = .And) && chkE a sc fb a' && chkV b sc fb .And (b' :: r)
  | .or a b, sc, fb, e => optB (asBool e) fun (o, a', b', r) => decide (o = .Or) && chkE a sc fb a' && chkV b sc fb .Or (b' :: r)
  | .ite c a b, sc, fb, e => optB (asIf e) fun (c', a', b') => chkT c sc fb c' && chkE a sc fb a' && chkE b sc fb b'
  | .frz a, sc, fb, e => chkE a sc fb e
  | .tup es, sc, fb, e => optB (asTup e) fun es' => chkA es sc fb es'
  | .lst es, sc, fb, e => optB (asLst e) fun es' => chkA es sc fb es'
  | .idx a b, sc, fb, e => optB (asSub e) fun (a', b') => chkE a sc fb a' && chkE b sc fb b'
  | .slc a lo hi, sc, fb, e => optB (asSlc e) fun (a', l', h') => chkE a sc fb a' && chkO lo sc fb l' && chkO hi sc fb h'
  | .isi a t, sc, fb, e => optB (asCall e) fun (f, es) => optB (hd2 es) fun (a', y') => optB (asName y') fun y => decide (f = ("isinstance" : Str)) && glB sc "isinstance" && glB sc y && tyNames.contains t && decide (y = Str.ofString t) && chkE a sc fb a'
  | .call f es, sc, fb, e => optB (asCall e) fun (x, es') => decide (nm[f]? = some x) && glB sc x && okN x && chkA es sc fb es'
  | .blt n es, sc, fb, e => optB (asCall e) fun (x, es') => decide (x = Str.ofString (bltName n)) && glB sc x && !es'.isEmpty && chkA es sc fb es'
  | .lrng1 a, sc, fb, e => optB (asCall e) fun (x, es) => optB (hd1 es) fun r => optB (asCall r) fun (x2, es2) => optB (hd1 es2) fun a' => decide (x = ("list" : Str)) && glB sc "list" && decide (x2 = ("range" : Str)) && glB sc "range" && chkE a sc fb a'
  | .lrng2 a b, sc, fb, e => optB (asCall e) fun (x, es) => optB (hd1 es) fun r => optB (asCall r) fun (x2, es2) => optB (hd2 es2) fun (a', b') => decide (x = ("list" : Str)) && glB sc "list" && decide (x2 = ("range" : Str)) && glB sc "range" && chkE a sc fb a' && chkE b sc fb b'
  | .ixm a b, sc, fb, e => optB (asMethE e) fun (o, m, p2, e', es', pos) => decide (m = ("index" : Str)) && notCall o && es'.isEmpty && (p2.endLine == pos.line) && chkE a sc fb o && chkE b sc fb e'
  | .mut n i es, sc, fb, e => optB (asMeth e) fun (x, m, p2, e', es', pos) => decide (m = Str.ofString (mutName n)) && nameB N sc i x && decide (es'.length < 20) && (p2.endLine == pos.line) && chkA es sc fb (e' :: es')
  | .comp elt tg src cond own, sc, fb, e => optB (asLC e) fun (elt', tg', iter', ifs', scope) =>
      chkI src sc fb iter' tg' && blkC N sc scope (ownL N own) && decide own.Nodup && (tgts tg).all own.contains && chkG tg (relS scope sc) (blkFn scope) tg' && chkC cond (relS scope sc) (blkFn scope) ifs' && chkE elt (relS scope sc) (blkFn scope) elt'
  | _, _, _, _ => false
def chkO : C → Scope → (Str → Bool) → Option Expr → Bool
  | .nil, _, _, o => o.isNone
  | .one a, sc, fb, o => optB o fun e => chkE a sc fb e
  | _, _, _, _ => false
def chkV : C → Scope → (Str → Bool) → BoolOp → List Expr → Bool
  | .one a, sc, fb, _, es => optB (hd1 es) fun e => chkE a sc fb e
  | .and a b, sc, fb, o, es => optB (hdcc es) fun (a', b', r) => decide (o = .And) && chkE a sc fb a' && chkV b sc fb .And (b' :: r)
  | .or a b, sc, fb, o, es => optB (hdcc es) fun (a', b', r) => decide (o = .Or) && chkE a sc fb a' && chkV b sc fb .Or (b' :: r)
  | _, _, _, _, _ => false
def chkA : C → Scope → (Str → Bool) → List Expr → Bool
  | .nil, _, _, es => es.isEmpty
  | .cons a r, sc, fb, es => optB (hdc es) fun (e, es') => chkE a sc fb e && chkA r sc fb es'
  | _, _, _, _ => false
def chkT : C → Scope → (Str → Bool) → Expr → Bool
  | .not a, sc, fb, e => optB (asUn e) fun (o, a') => decide (o = .Not) && chkT a sc fb a'
  | .and a b, sc, fb, e => optB (asBool e) fun (o, a', b', r) => decide (o = .And) && chkT a sc fb a' && chkW b sc fb .And (b' :: r)
  | .or a b, sc, fb, e => optB (asBool e) fun (o, a', b', r) => decide (o = .Or) && chkT a sc fb a' && chkW b sc fb .Or (b' :: r)
  | .cmp o a b, sc, fb, e => optB (asCmp1 e) fun (o', a', b') => decide (o = o') && chkE a sc fb a' && chkE b sc fb b'
  | .chn o1 o2 a b c, sc, fb, e => optB (asCmp2 e) fun (o1', o2', a', b', c') => decide (o1 = o1') && decide (o2 = o2') && chkE a sc fb a' && chkE b sc fb b' && chkE c sc fb c'
  | .tst a, sc, fb, e => plainT e && chkE a sc fb e
  | _, _, _, _ => false
def chkW : C → Scope → (Str → Bool) → BoolOp → List Expr → Bool
  | .one a, sc, fb, _, es => optB (hd1 es) fun e => chkT a sc fb e
  | .and a b, sc, fb, o, es => optB (hdcc es) fun (a', b', r) => decide (o = .And) && chkT a sc fb a' && chkW b sc fb .And (b' :: r)
  | .or a b, sc, fb, o, es => optB (hdcc es) fun (a', b', r) => decide (o = .Or) && chkT a sc fb a' && chkW b sc fb .Or (b' :: r)
  | _, _, _, _, _ => false
/-- a comprehension's tests -/
def chkC : C → Scope → (Str → Bool) → List Expr → Bool
  | .bl b, _, _, es => b && es.isEmpty
  | .one a, sc, fb, es => optB (hd1 es) fun e => chkT a sc fb e
  | _, _, _, _ => false
def chkG : C → Scope → (Str → Bool) → Expr → Bool
  | .tnm i, sc, fb, e => optB (asName e) fun x => decide (N[i]? = some x) && locB sc fb x
  | .ttup ts, sc, fb, e => optB (asTup e) fun es => chkGs ts sc fb es
  | .tsub i k, sc, fb, e => optB (asSubN e) fun (x, b) => nameB N sc i x && chkE k sc fb b
  | _, _, _, _ => false
def chkGs : C → Scope → (Str → Bool) → List Expr → Bool
  | .nil, _, _, es => es.isEmpty
  | .cons a r, sc, fb, es => optB (hdc es) fun (e, es') => chkG a sc fb e && chkGs r sc fb es'
  | _, _, _, _ => false
def chkI : C → Scope → (Str → Bool) → Expr → Expr → Bool
  | .sseq e, sc, fb, it, _ => chkE e sc fb it
  | .srng es, sc, fb, it, _ => optB (asCall it) fun (x, es') => decide (x = ("range" : Str)) && glB sc "range" && (decide (es'.length = 1) || decide (es'.length = 2)) && chkA es sc fb es'
  | .senum e, sc, fb, it, tg => optB (asCall it) fun (x, es') => optB (hd1 es') fun e' => decide (x = ("enumerate" : Str)) && glB sc "enumerate" && tupleE tg && chkE e sc fb e'
  | _, _, _, _, _ => false
end
/-- name = [..] on one line -/
def lcLine (sc : Scope) (tg v : Expr) (t : C) : Bool :=
  match tg, v, t with
  | .Name y py, .ListComp _ _ scope pos, .tnm i => decide (N[i]? = some y) && decide (sc.names.lookup y = some .local) && (py.line == pos.line) && !(scope.names.any fun (n, k) => n == y && (k == .local || k == .cell)) && decide (sc.kind = .function)
  | _, _, _ => false
def starE : Expr → Bool
  | .Starred .. => true
  | _ => false
/-- a, b = x, y -/
def parB (sc : Scope) (i j : Nat) (tg v : Expr) : Bool :=
  match tg, v with
  | .Tuple [.Name x px, .Name y py] _ _, .Tuple [a, b] _ _ => decide (N[i]? = some x) && decide (N[j]? = some y) && decide (i ≠ j) && decide (x ≠ y) && decide (sc.names.lookup x = some .local) && decide (sc.names.lookup y = some .local) && decide (sc.kind = .function) && (px.line == py.line) &&
      !starE a && !starE b && !([a, b].all (foldedForSure 8)) && !([a, b].all (constantsAlone 8))
  | _, _ => false
def parB3 (sc : Scope) (i j l : Nat) (tg v : Expr) : Bool :=
  match tg, v with
  | .Tuple [.Name x px, .Name y py, .Name z pz] _ _, .Tuple [a, b, c] _ _ => decide (N[i]? = some x) && decide (N[j]? = some y) && decide (N[l]? = some z) && decide (i ≠ j) && decide (i ≠ l) && decide (j ≠ l) && decide (x ≠ y) && decide (x ≠ z) && decide (y ≠ z) && decide (sc.names.lookup x = some .local) && decide (sc.names.lookup y = some .local) && decide (sc.names.lookup z = some .local) && decide (sc.kind = .function) && (px.line == py.line) && (px.line == pz.line) &&
      !starE a && !starE b && !starE c && !([a, b, c].all (foldedForSure 8)) && !([a, b, c].all (constantsAlone 8))
  | _, _ => false
/-- a tuple of constants -/
def foldT : Expr → Bool
  | .Tuple vs _ _ => vs.all (foldedForSure 8)
  | _ => false
/-- a name of a block's own that is not a plain local -/
def lcCell (sc : Scope) : Expr → Bool
  | .Name y _ => !decide (sc.names.lookup y = some .local)
  | _ => false
def mixN (sc : Scope) : Expr → Bool
  | .Name x _ => !decide (sc.names.lookup x = some .local)
  | _ => false
def mixT (sc : Scope) : Expr → Bool
  | .Tuple ts _ _ => ts.any (mixN sc)
  | _ => false
/-- a tuple of names that is not swapped -/
def bigT : Expr → Bool
  | .Tuple ts _ _ => !(ts.length == 2 || ts.length == 3)
  | _ => false
def isCompC : C → Bool
  | .comp .. => true
  | _ => false
def asAsg : Stmt → Option (Expr × Expr)
  | .Assign [tg] v _ => some (tg, v)
  | _ => none
def asExp : Stmt → Option Expr
  | .Expr v _ => some v
  | _ => none
def asRet : Stmt → Option (Option Expr)
  | .Return v _ => some v
  | _ => none
def asIfS : Stmt → Option (Expr × List Stmt × List Stmt)
  | .If c a b _ => some (c, a, b)
  | _ => none
def asFor : Stmt → Option (Expr × Expr × List Stmt)
  | .For tg it bs [] _ => some (tg, it, bs)
  | _ => none
def asWhile : Stmt → Option (Expr × List Stmt)
  | .While c bs [] _ => some (c, bs)
  | _ => none
def kindS : Stmt → Nat
  | .Break _ => 1
  | .Continue _ => 2
  | .Pass _ => 3
  | _ => 0
def hdS : List Stmt → Option (Stmt × List Stmt)
  | a :: r => some (a, r)
  | _ => none
mutual
def chkS : C → Scope → (Str → Bool) → Stmt → Bool
  | .asg t e, sc, fb, s => optB (asAsg s) fun (tg, v) => chkG N nm t sc fb tg && chkE N nm e sc fb v && (if isLC v then (lcLine N sc tg v t && isCompC e || lcCell sc tg) else (!(tupleE v && (tupleE tg || listE tg)) || bigT tg || foldT v || mixT sc tg))
  | .par i j es, sc, fb, s => optB (asAsg s) fun (tg, v) => optB (asTup v) fun vs => parB N sc i j tg v && chkA N nm es sc fb vs
  | .par3 i j l es, sc, fb, s => optB (asAsg s) fun (tg, v) => optB (asTup v) fun vs => parB3 N sc i j l tg v && chkA N nm es sc fb vs
  | .exs e, sc, fb, s => optB (asExp s) fun v => !isLC v && chkE N nm e sc fb v
  | .ret e, sc, fb, s => optB (asRet s) fun v => optB v fun v => chkE N nm e sc fb v
  | .retN, _, _, s => optB (asRet s) fun v => v.isNone
  | .cond c a b, sc, fb, s => optB (asIfS s) fun (c', a', b') => chkT N nm c sc fb c' && chkB a sc fb a' && chkB b sc fb b'
  | .for_ t src body, sc, fb, s => optB (asFor s) fun (tg, it, bs) => chkG N nm t sc fb tg && chkI N nm src sc fb it tg && chkB body sc fb bs
  | .whl c body, sc, fb, s => optB (asWhile s) fun (c', bs) => chkT N nm c sc fb c' && chkB body sc fb bs
  | .brk, _, _, s => kindS s == 1
  | .cnt, _, _, s => kindS s == 2
  | .pass, _, _, s => kindS s == 3
  | _, _, _, _ => false
def chkB : C → Scope → (Str → Bool) → List Stmt → Bool
  | .nil, _, _, ss => ss.isEmpty
  | .cons a r, sc, fb, ss => optB (hdS ss) fun (s, ss') => chkS a sc fb s && chkB r sc fb ss'
  | _, _, _, _ => false
end
end
end Co

set_option maxRecDepth 100000
set_option maxHeartbeats 4000000
/-! CoreC: what the look says -/
namespace Co
open PySem PySem.Spec PyProof.Rows L2

/-- the context of a body or a block -/
structure GX (N : List Str) (nm : List Str) (Φ : Nat → List Sl → Option (D × List Sl)) (k : Nat) (X : Cx) (sc : Scope) (fb : Str → Bool) : Prop where
  hN : X.N = N
  sc : X.env.scope = sc
  calm : X.calm = true
  xe : X.xe = fun _ _ => False
  nd : N.Nodup
  fn : ∀ x, fb x = true → X.fn x = true
  room : Room (k + 1) X.A
  blt : ∀ x ∈ bltNames, X.mg x = none
  defs : ∀ j x, nm[j]? = some x → DefAt X (Φ j) (k + 1) x

section
variable {N nm : List Str} {Φ : Nat → List Sl → Option (D × List Sl)} {wf k : Nat} {X : Cx} {sc : Scope} {fb : Str → Bool}
theorem GX.hu (g : GX N nm Φ k X sc fb) : X.A.units + 65 < cLine := by
  have := g.room.un
  omega
theorem GX.gl (g : GX N nm Φ k X sc fb) {x : Str} (h : glB sc x = true) : Gl X x := by
  unfold glB at h
  unfold Gl Env.kindOf
  rw [g.sc]
  exact of_decide_eq_true h
theorem GX.vis (g : GX N nm Φ k X sc fb) {x : Str} (h : visB sc x = true) : Vis X.env.scope x := by
  unfold visB at h
  simp only [Bool.or_eq_true, decide_eq_true_eq] at h
  unfold Vis
  rw [g.sc]
  rcases h with (h | h) | h
  · exact .inl h
  · exact .inr (.inl h)
  · exact .inr (.inr h)
theorem okN_ok {x : Str} (h : okN x = true) : (x == ("__debug__" : Str)) = false ∧ (x == ("__classdict__" : Str)) = false := by
  unfold okN at h
  simpa using h
theorem GX.name (g : GX N nm Φ k X sc fb) {x : Str} {i : Nat} (h : nameB N sc i x = true) : X.N[i]? = some x ∧ Vis X.env.scope x ∧ (x == ("__debug__" : Str)) = false ∧ (x == ("__classdict__" : Str)) = false := by
  unfold nameB at h
  simp only [Bool.and_eq_true, decide_eq_true_eq] at h
  obtain ⟨⟨h1, h2⟩, h3⟩ := h
  exact ⟨by rw [g.hN]; exact h1, g.vis h2, okN_ok h3⟩
theorem GX.loc (g : GX N nm Φ k X sc fb) {x : Str} (h : locB sc fb x = true) : L2.Loc X.env.scope x ∧ (X.fn x = true ∨ X.env.scope.names.lookup x = some .local) := by
  unfold locB at h
  simp only [Bool.or_eq_true, Bool.and_eq_true, decide_eq_true_eq] at h
  unfold L2.Loc
  rw [g.sc]
  rcases h with h | ⟨h, h2⟩
  · exact ⟨.inl h, .inr h⟩
  · exact ⟨.inr h, .inl (g.fn x h2)⟩
/-- a comprehension's block -/
theorem GX.blk (g : GX N nm Φ k X sc fb) {scope : Scope} (s : Shared) (H : Hp) (C : Addr) (cl : List (Str × Addr)) (fp : List Addr) : GX N nm Φ k (X.blk s H scope (compEnvC scope cl C X.env) fp) (relS scope sc) (blkFn scope) :=
  ⟨g.hN, by have := g.sc; subst this; rfl, g.calm, rfl, g.nd, fun x h => h, g.room, g.blt, fun j x h => ⟨(g.defs j x h).ex⟩⟩
theorem boot_ty {t : String} (h : tyNames.contains t = true) : bootBuiltins (Str.ofString t) = some (.type t) ∧ (Str.ofString t) ∈ bltNames ∧ Str.ofString t ≠ "__name__" ∧ (Str.ofString t == ("__debug__" : Str)) = false := by
  have h' : t = "int" ∨ t = "bool" ∨ t = "str" ∨ t = "tuple" ∨ t = "list" := by simpa [tyNames] using h
  rcases h' with rfl | rfl | rfl | rfl | rfl <;> exact ⟨by decide +kernel, by decide +kernel, by decide +kernel, by decide +kernel⟩
/-- what a comprehension's rules ask -/
def CompOk (X : Cx) (Φ : Nat → List Sl → Option (D × List Sl)) (wf : Nat) (v : Expr) (c : C) : Prop :=
  ∃ elt tg iter ifs scope pos celt ctg csrc ccond own, v = .ListComp elt [⟨tg, iter, ifs, 0⟩] scope pos ∧ c = .comp celt ctg csrc ccond (own.map (·.2)) ∧ PI X tg iter (tI X.K Φ wf csrc) ∧ BlkOk X.N X.env.scope scope own ∧
    (∀ (s : Shared) (H : Hp) (C : Addr) (cl : List (Str × Addr)) (fp : List Addr), PG (X.blk s H scope (compEnvC scope cl C X.env) fp) tg (tG X.K Φ wf ctg)) ∧
    (∀ (s : Shared) (H : Hp) (C : Addr) (cl : List (Str × Addr)) (fp : List Addr), PTs (X.blk s H scope (compEnvC scope cl C X.env) fp) ifs (tT X.K Φ wf ccond)) ∧
    (∀ (s : Shared) (H : Hp) (C : Addr) (cl : List (Str × Addr)) (fp : List Addr), PE (X.blk s H scope (compEnvC scope cl C X.env) fp) elt (tE X.K Φ wf celt)) ∧
    (∀ x, foldedSetIterable iter X.env x = pure x) ∧ (∀ j ∈ tgts ctg, j ∈ own.map (·.2)) ∧ (own.map (·.2)).Nodup
theorem plainT_ok {e : Expr} (h : plainT e = true) (env : PySem.Env) : ∀ whole, isTrue e env whole = (do let v ← whole; standAt e.pos; holding [v] (truthy v)) := by
  intro w
  cases e with
  | UnaryOp o a p => cases o <;> first | (cases h; done) | rfl
  | BoolOp => cases h
  | IfExp => cases h
  | Compare => cases h
  | _ => rfl
theorem ownL_map (own : List Nat) : (ownL N own).map (·.2) = own := by
  unfold ownL
  rw [List.map_map]
  exact List.map_id own
theorem and2 {a b : Bool} (h : (a && b) = true) : a = true ∧ b = true := (Bool.and_eq_true a b).mp h
theorem optB_ok {α : Type} {o : Option α} {f : α → Bool} (h : optB o f = true) : ∃ a, o = some a ∧ f a = true := by
  cases o with
  | none => cases h
  | some a => exact ⟨a, rfl, h⟩
theorem asName_ok {e : Expr} {x : Str} (h : asName e = some x) : ∃ p, e = .Name x p := by
  cases e <;> first | (cases h; done) | skip
  cases h; exact ⟨_, rfl⟩
theorem asTup_ok {e : Expr} {es : List Expr} (h : asTup e = some es) : ∃ k p, e = .Tuple es k p := by
  cases e <;> first | (cases h; done) | skip
  cases h; exact ⟨_, _, rfl⟩
theorem asSubN_ok {e : Expr} {x : Str} {b : Expr} (h : asSubN e = some (x, b)) : ∃ p p2, e = .Subscript (.Name x p) b p2 := by
  cases e <;> first | (cases h; done) | skip
  rename_i o _ _
  cases o <;> first | (cases h; done) | skip
  cases h; exact ⟨_, _, rfl⟩
theorem asg_each {tg : Expr} {t : C} {env : PySem.Env} (h : chkG N nm t sc fb tg = true) : ∀ es, assignEach (tg :: es) env = (false, assign tg env) :: assignEach es env := by
  intro es
  cases t with
  | tnm i => simp only [chkG] at h; obtain ⟨x, e1, _⟩ := optB_ok h; obtain ⟨p, rfl⟩ := asName_ok e1; rfl
  | ttup ts => simp only [chkG] at h; obtain ⟨x, e1, _⟩ := optB_ok h; obtain ⟨k, p, rfl⟩ := asTup_ok e1; rfl
  | tsub i k => simp only [chkG] at h; obtain ⟨⟨x, b⟩, e1, _⟩ := optB_ok h; obtain ⟨p, p2, rfl⟩ := asSubN_ok e1; rfl
  | _ => simp only [chkG] at h; cases h
theorem hdc_ok {es : List Expr} {a : Expr} {r : List Expr} (h : hdc es = some (a, r)) : es = a :: r := by
  cases es with
  | nil => cases h
  | cons x y => cases h; rfl
theorem asg_eachs {env : PySem.Env} : ∀ (ts : C) {es : List Expr}, chkGs N nm ts sc fb es = true → (assignEach es env).length = es.length ∧ (assignEach es env).findIdx? (·.1) = none
  | .nil, es, h => by
    simp only [chkGs] at h
    cases es with
    | nil => exact ⟨rfl, rfl⟩
    | cons a r => cases h
  | .cons a r, es, h => by
    simp only [chkGs] at h
    obtain ⟨⟨e, es'⟩, e1, h⟩ := optB_ok h
    have := hdc_ok e1
    subst this
    have h := and2 h
    obtain ⟨q1, q2⟩ := asg_eachs (env := env) r h.2
    rw [asg_each h.1]
    refine ⟨by simp [q1], ?_⟩
    rw [List.findIdx?_cons]
    simp [q2]
  | .var _, _, h | .fz _, _, h | .mv _, _, h | .non, _, h | .bl _, _, h | .int _, _, h | .str _, _, h | .bin _ _ _, _, h | .neg _, _, h | .not _, _, h | .cmp _ _ _, _, h | .chn _ _ _ _ _, _, h | .and _ _, _, h | .or _ _, _, h | .ite _ _ _, _, h | .one _, _, h | .tst _, _, h | .tup _, _, h | .lst _, _, h | .idx _ _, _, h | .isi _ _, _, h | .call _ _, _, h | .blt _ _, _, h | .mut _ _ _, _, h | .comp _ _ _ _ _, _, h | .tnm _, _, h | .ttup _, _, h | .tsub _ _, _, h | .sseq _, _, h | .srng _, _, h | .senum _, _, h | .asg _ _, _, h | .par _ _ _, _, h | .frz _, _, h | .slc _ _ _, _, h | .exs _, _, h | .lrng1 _, _, h | .lrng2 _ _, _, h | .ixm _ _, _, h | .par3 _ _ _ _, _, h | .ret _, _, h | .retN, _, h | .cond _ _ _, _, h | .for_ _ _ _, _, h | .whl _ _, _, h | .brk, _, h | .cnt, _, h | .pass, _, h => Bool.noConfusion (show false = true from h)
theorem gs_len : ∀ (ts : C) {es : List Expr}, chkGs N nm ts sc fb es = true → ∀ ds ρ ρ', evGs Φ wf ts ds ρ = some ρ' → ds.length = es.length
  | .nil, es, h, ds, ρ, ρ', e => by
    simp only [chkGs] at h
    simp only [evGs] at e
    cases es with
    | cons a r => cases h
    | nil =>
      cases ds with
      | nil => rfl
      | cons x y => cases e
  | .cons a r, es, h, ds, ρ, ρ', he => by
    simp only [chkGs] at h
    obtain ⟨⟨e, es'⟩, e1, h⟩ := optB_ok h
    have := hdc_ok e1
    subst this
    have h := and2 h
    simp only [evGs] at he
    cases ds with
    | nil => cases he
    | cons x y =>
      obtain ⟨ρ1, _, h2⟩ := some_bind he
      have := gs_len r h.2 _ _ _ h2
      simp [this]
  | .var _, _, h, _, _, _, _ | .fz _, _, h, _, _, _, _ | .mv _, _, h, _, _, _, _ | .non, _, h, _, _, _, _ | .bl _, _, h, _, _, _, _ | .int _, _, h, _, _, _, _ | .str _, _, h, _, _, _, _ | .bin _ _ _, _, h, _, _, _, _ | .neg _, _, h, _, _, _, _ | .not _, _, h, _, _, _, _ | .cmp _ _ _, _, h, _, _, _, _ | .chn _ _ _ _ _, _, h, _, _, _, _ | .and _ _, _, h, _, _, _, _ | .or _ _, _, h, _, _, _, _ | .ite _ _ _, _, h, _, _, _, _ | .one _, _, h, _, _, _, _ | .tst _, _, h, _, _, _, _ | .tup _, _, h, _, _, _, _ | .lst _, _, h, _, _, _, _ | .idx _ _, _, h, _, _, _, _ | .isi _ _, _, h, _, _, _, _ | .call _ _, _, h, _, _, _, _ | .blt _ _, _, h, _, _, _, _ | .mut _ _ _, _, h, _, _, _, _ | .comp _ _ _ _ _, _, h, _, _, _, _ | .tnm _, _, h, _, _, _, _ | .ttup _, _, h, _, _, _, _ | .tsub _ _, _, h, _, _, _, _ | .sseq _, _, h, _, _, _, _ | .srng _, _, h, _, _, _, _ | .senum _, _, h, _, _, _, _ | .asg _ _, _, h, _, _, _, _ | .par _ _ _, _, h, _, _, _, _ | .frz _, _, h, _, _, _, _ | .slc _ _ _, _, h, _, _, _, _ | .exs _, _, h, _, _, _, _ | .lrng1 _, _, h, _, _, _, _ | .lrng2 _ _, _, h, _, _, _, _ | .ixm _ _, _, h, _, _, _, _ | .par3 _ _ _ _, _, h, _, _, _, _ | .ret _, _, h, _, _, _, _ | .retN, _, h, _, _, _, _ | .cond _ _ _, _, h, _, _, _, _ | .for_ _ _ _, _, h, _, _, _, _ | .whl _ _, _, h, _, _, _, _ | .brk, _, h, _, _, _, _ | .cnt, _, h, _, _, _, _ | .pass, _, h, _, _, _, _ => Bool.noConfusion (show false = true from h)
theorem one_E {X : Cx} {e : Expr} {c : C} (h : SE X Φ wf e c) : SE X Φ wf e (.one c) := ⟨PE.weak h.pe fun σ H Q q => by
  obtain ⟨F, ρ, O, r, ρ', sr, wd, e, k⟩ := q
  simp only [evE] at e
  exact ⟨F, ρ, O, r, ρ', sr, wd, e, k⟩, h.pl⟩
theorem one_T {X : Cx} {e : Expr} {c : C} (h : ST X Φ wf e c) : ST X Φ wf e (.one c) := PT.weak h fun σ H Q q => by
  obtain ⟨F, ρ, O, r, ρ', sr, wd, e, k⟩ := q
  simp only [evT] at e
  exact ⟨F, ρ, O, r, ρ', sr, wd, e, k⟩
theorem cond_one {X : Cx} {e : Expr} {c : C} (h : ST X Φ wf e c) : PTs X [e] (tT X.K Φ wf (.one c)) := pts_one (one_T h)

/-! ### inversions -/
theorem asConst_ok {e : Expr} {c : Const} (h : asConst e = some c) : ∃ k p, e = .Constant c k p := by
  cases e <;> first | (cases h; done) | skip
  cases h; exact ⟨_, _, rfl⟩
theorem asBin_ok {e a b : Expr} {o : Operator} (h : asBin e = some (a, o, b)) : ∃ p, e = .BinOp a o b p := by
  cases e <;> first | (cases h; done) | skip
  cases h; exact ⟨_, rfl⟩
theorem asUn_ok {e a : Expr} {o : UnaryOp} (h : asUn e = some (o, a)) : ∃ p, e = .UnaryOp o a p := by
  cases e <;> first | (cases h; done) | skip
  cases h; exact ⟨_, rfl⟩
theorem asCmp1_ok {e a b : Expr} {o : CmpOp} (h : asCmp1 e = some (o, a, b)) : ∃ p, e = .Compare a [o] [b] p := by
  cases e <;> first | (cases h; done) | skip
  rename_i l os bs p
  rcases os with _ | ⟨o1, _ | ⟨o2, os⟩⟩ <;> rcases bs with _ | ⟨b1, _ | ⟨b2, bs⟩⟩ <;> first | (cases h; done) | skip
  cases h; exact ⟨_, rfl⟩
theorem asCmp2_ok {e a b c : Expr} {o o2 : CmpOp} (h : asCmp2 e = some (o, o2, a, b, c)) : ∃ p, e = .Compare a [o, o2] [b, c] p := by
  cases e <;> first | (cases h; done) | skip
  rename_i l os bs p
  rcases os with _ | ⟨o1, _ | ⟨o2, _ | ⟨o3, os⟩⟩⟩ <;> rcases bs with _ | ⟨b1, _ | ⟨b2, _ | ⟨b3, bs⟩⟩⟩ <;> first | (cases h; done) | skip
  cases h; exact ⟨_, rfl⟩
theorem asBool_ok {e a b : Expr} {r : List Expr} {o : BoolOp} (h : asBool e = some (o, a, b, r)) : ∃ p, e = .BoolOp o (a :: b :: r) p := by
  cases e <;> first | (cases h; done) | skip
  rename_i l os p
  rcases os with _ | ⟨o1, _ | ⟨o2, os⟩⟩ <;> first | (cases h; done) | skip
  cases h; exact ⟨_, rfl⟩
theorem asIf_ok {e c a b : Expr} (h : asIf e = some (c, a, b)) : ∃ p, e = .IfExp c a b p := by
  cases e <;> first | (cases h; done) | skip
  cases h; exact ⟨_, rfl⟩
theorem asLst_ok {e : Expr} {es : List Expr} (h : asLst e = some es) : ∃ p, e = .List es p := by
  cases e <;> first | (cases h; done) | skip
  cases h; exact ⟨_, rfl⟩
theorem asSub_ok {e a b : Expr} (h : asSub e = some (a, b)) : ∃ p, e = .Subscript a b p := by
  cases e <;> first | (cases h; done) | skip
  cases h; exact ⟨_, rfl⟩
theorem asSlc_ok {e a : Expr} {lo hi : Option Expr} (h : asSlc e = some (a, lo, hi)) : ∃ p p2, e = .Subscript a (.Slice lo hi none p) p2 := by
  cases e <;> first | (cases h; done) | skip
  rename_i a' b' p'
  cases b' <;> first | (cases h; done) | skip
  rename_i l u st p
  cases st with
  | some x => cases h
  | none => cases h; exact ⟨_, _, rfl⟩
theorem asCall_ok {e : Expr} {x : Str} {es : List Expr} (h : asCall e = some (x, es)) : ∃ p p2, e = .Call (.Name x p) es [] p2 := by
  cases e <;> first | (cases h; done) | skip
  rename_i f es' ks p
  cases f <;> first | (cases h; done) | skip
  cases ks with
  | cons a b => cases h
  | nil => cases h; exact ⟨_, _, rfl⟩
theorem asMeth_ok {e e' : Expr} {x m : Str} {p2 pos : Pos} {es : List Expr} (h : asMeth e = some (x, m, p2, e', es, pos)) : ∃ p, e = .Call (.Attribute (.Name x p) m p2) (e' :: es) [] pos := by
  cases e <;> first | (cases h; done) | skip
  rename_i f es' ks p
  cases f <;> first | (cases h; done) | skip
  rename_i o m' p3
  cases o <;> first | (cases h; done) | skip
  cases es' with
  | nil => cases h
  | cons e1 es1 =>
    cases ks with
    | cons a b => cases h
    | nil => cases h; exact ⟨_, rfl⟩
theorem asLC_ok {e elt tg iter : Expr} {ifs : List Expr} {scope : Scope} (h : asLC e = some (elt, tg, iter, ifs, scope)) : ∃ p, e = .ListComp elt [⟨tg, iter, ifs, 0⟩] scope p := by
  cases e <;> first | (cases h; done) | skip
  rename_i elt' gs sc' p
  rcases gs with _ | ⟨⟨tg', it', ifs', a⟩, _ | ⟨g2, gs⟩⟩ <;> first | (cases h; done) | skip
  · unfold asLC at h
    split at h
    · rename_i heq
      injection heq with h1 h2 h3 h4
      injection h2 with h5 h6
      injection h5 with q1 q2 q3 q4
      subst h1 h3 q1 q2 q3 q4
      cases h
      exact ⟨_, rfl⟩
    · cases h
  · unfold asLC at h
    split at h
    · rename_i heq
      injection heq with h1 h2 h3 h4
      injection h2 with h5 h6
      cases h6
    · cases h
theorem hd1_ok {es : List Expr} {a : Expr} (h : hd1 es = some a) : es = [a] := by
  rcases es with _ | ⟨x, _ | ⟨y, r⟩⟩ <;> first | (cases h; done) | (cases h; rfl)
theorem hd2_ok {es : List Expr} {a b : Expr} (h : hd2 es = some (a, b)) : es = [a, b] := by
  rcases es with _ | ⟨x, _ | ⟨y, _ | ⟨z, r⟩⟩⟩ <;> first | (cases h; done) | (cases h; rfl)
theorem hdcc_ok {es : List Expr} {a b : Expr} {r : List Expr} (h : hdcc es = some (a, b, r)) : es = a :: b :: r := by
  rcases es with _ | ⟨x, _ | ⟨y, r⟩⟩ <;> first | (cases h; done) | (cases h; rfl)
theorem empty_ok {α : Type} {es : List α} (h : es.isEmpty = true) : es = [] := by
  cases es with
  | nil => rfl
  | cons a b => cases h
end
end Co

set_option maxRecDepth 100000
set_option maxHeartbeats 4000000
/-! CoreD: a text that the look lets does what the evaluator says -/
namespace Co
open PySem PySem.Spec PyProof.Rows L2

section
variable {N nm : List Str} {Φ : Nat → List Sl → Option (D × List Sl)} {wf k : Nat}
theorem GX.bn {X : Cx} {sc : Scope} {fb : Str → Bool} (g : GX N nm Φ k X sc fb) {x : Str} (h : x ∈ bltNames) : X.mg x = none := g.blt x h
theorem se_bltn {X : Cx} {sc : Scope} {fb : Str → Bool} {n : Blt} {x : Str} {p pos : Pos} {e : Expr} {es : List Expr} {cs : C} (g : GX N nm Φ k X sc fb) (hx : x = Str.ofString (bltName n)) (hg : glB sc x = true) (hs : SA X Φ wf (e :: es) cs) (h1 : ∀ env, starEach (e :: es) env = (false, eval e env) :: starEach es env) (h2 : ∀ env, starEach es env = es.map fun e => (false, eval e env)) :
    SE X Φ wf (.Call (.Name x p) (e :: es) [] pos) (.blt n cs) := by
  subst hx
  have hp := plainB (p := pos) (h2 X.env)
  cases n with
  | len => exact se_blt (n := .len) (fun t ht => pe_callB call_lenD (g.gl hg) (g.bn (by decide +kernel)) (by decide +kernel) ht (by decide +kernel) (by decide +kernel) (h1 X.env) hp) hs
  | list => exact se_blt (n := .list) (fun t ht => pe_callTy call_listD (g.gl hg) (g.bn (by decide +kernel)) (by decide +kernel) ht (by decide +kernel) (by decide +kernel) (h1 X.env) hp) hs
  | tuple => exact se_blt (n := .tuple) (fun t ht => pe_callTy call_tupD (g.gl hg) (g.bn (by decide +kernel)) (by decide +kernel) ht (by decide +kernel) (by decide +kernel) (h1 X.env) hp) hs
  | abs => exact se_blt (n := .abs) (fun t ht => pe_callB call_absD (g.gl hg) (g.bn (by decide +kernel)) (by decide +kernel) ht (by decide +kernel) (by decide +kernel) (h1 X.env) hp) hs
  | int => exact se_blt (n := .int) (fun t ht => pe_callTy call_intD (g.gl hg) (g.bn (by decide +kernel)) (by decide +kernel) ht (by decide +kernel) (by decide +kernel) (h1 X.env) hp) hs
  | min => exact se_blt (n := .min) (fun t ht => pe_callB (call_minD g.calm) (g.gl hg) (g.bn (by decide +kernel)) (by decide +kernel) ht (by decide +kernel) (by decide +kernel) (h1 X.env) hp) hs
  | max => exact se_blt (n := .max) (fun t ht => pe_callB (call_maxD g.calm) (g.gl hg) (g.bn (by decide +kernel)) (by decide +kernel) ht (by decide +kernel) (by decide +kernel) (h1 X.env) hp) hs
  | sum => exact se_blt (n := .sum) (fun t ht => pe_callB (call_sumD g.calm) (g.gl hg) (g.bn (by decide +kernel)) (by decide +kernel) ht (by decide +kernel) (by decide +kernel) (h1 X.env) hp) hs
  | any => exact se_blt (n := .any) (fun t ht => pe_callB (call_anyD g.calm) (g.gl hg) (g.bn (by decide +kernel)) (by decide +kernel) ht (by decide +kernel) (by decide +kernel) (h1 X.env) hp) hs
  | all => exact se_blt (n := .all) (fun t ht => pe_callB (call_allD g.calm) (g.gl hg) (g.bn (by decide +kernel)) (by decide +kernel) ht (by decide +kernel) (by decide +kernel) (h1 X.env) hp) hs
  | str => exact se_blt (n := .str) (fun t ht => pe_callTy call_strD (g.gl hg) (g.bn (by decide +kernel)) (by decide +kernel) ht (by decide +kernel) (by decide +kernel) (h1 X.env) hp) hs
/-- the first of a list of expressions -/
theorem SA.head {X : Cx} {e : Expr} {es : List Expr} {cs : C} (hs : SA X Φ wf (e :: es) cs) : (∀ env, starEach (e :: es) env = (false, eval e env) :: starEach es env) ∧ ∀ env, starEach es env = es.map fun e => (false, eval e env) := by
  have key : ∀ env, starEach (e :: es) env = (false, eval e env) :: es.map fun e => (false, eval e env) := fun env => hs.st env
  have st : ∀ env, starEach (e :: es) env = (false, eval e env) :: starEach es env := fun env => by
    cases e with
    | Starred a p =>
      have := key env
      have q : starEach (.Starred a p :: es) env = (true, eval a env) :: starEach es env := rfl
      rw [q] at this
      injection this with h1 _
      injection h1 with h1 _
      cases h1
    | _ => rfl
  refine ⟨st, fun env => ?_⟩
  have := key env
  rw [st env] at this
  injection this
theorem se_comp_of {X : Cx} {v : Expr} {c : C} {sc : Scope} {fb : Str → Bool} (g : GX N nm Φ k X sc fb) (h : CompOk X Φ wf v c) : SE X Φ wf v c := by
  obtain ⟨elt, tg, iter, ifs, scope, pos, celt, ctg, csrc, ccond, own, rfl, rfl, h1, h2, h3, h4, h5, h6, h7, h8⟩ := h
  exact se_comp g.calm (by rw [g.hN]; exact g.nd) h1 h2 h3 h4 h5 h6 h7 h8
theorem comp_mk {X : Cx} {sc : Scope} {fb : Str → Bool} {elt tg iter : Expr} {ifs : List Expr} {scope : Scope} {pos : Pos} {celt ctg csrc ccond : C} {own : List Nat} (g : GX N nm Φ k X sc fb) (h1 : PI X tg iter (tI X.K Φ wf csrc)) (h2 : blkC N sc scope (ownL N own) = true) (h3 : own.Nodup) (h4 : (tgts ctg).all own.contains = true)
    (h5 : ∀ (s : Shared) (H : Hp) (C : Addr) (cl : List (Str × Addr)) (fp : List Addr), PG (X.blk s H scope (compEnvC scope cl C X.env) fp) tg (tG X.K Φ wf ctg)) (h6 : ∀ (s : Shared) (H : Hp) (C : Addr) (cl : List (Str × Addr)) (fp : List Addr), PTs (X.blk s H scope (compEnvC scope cl C X.env) fp) ifs (tT X.K Φ wf ccond))
    (h7 : ∀ (s : Shared) (H : Hp) (C : Addr) (cl : List (Str × Addr)) (fp : List Addr), PE (X.blk s H scope (compEnvC scope cl C X.env) fp) elt (tE X.K Φ wf celt)) (h8 : ∀ x, foldedSetIterable iter X.env x = pure x) : CompOk X Φ wf (.ListComp elt [⟨tg, iter, ifs, 0⟩] scope pos) (.comp celt ctg csrc ccond own) := by
  refine ⟨elt, tg, iter, ifs, scope, pos, celt, ctg, csrc, ccond, ownL N own, rfl, by rw [ownL_map], h1, ?_, h5, h6, h7, h8, ?_, by rw [ownL_map]; exact h3⟩
  · rw [g.hN, g.sc]
    exact blkOk_by h2
  · intro j hj
    rw [ownL_map]
    have := List.all_eq_true.mp h4 j hj
    simpa using this
theorem se_frz {X : Cx} {e : Expr} {c : C} (h : SE X Φ wf e c) : SE X Φ wf e (.frz c) := ⟨PE.weak h.pe fun σ H Q q => by
  obtain ⟨F, ρ, O, r, ρ', sr, wd, e, k⟩ := q
  simp only [evE] at e
  obtain ⟨⟨r1, ρ1⟩, e1, e⟩ := some_bind e
  cases r1 with
  | pl i => cases e
  | d d =>
    cases e
    refine ⟨F, ρ, O, .d d, ρ1, sr, wd, e1, fun v F' H' O' P st sr' rr wd' kp => ?_⟩
    have st0 : Stp F' H' P (fun a => F' a ∨ a ∈ P) H' [] := ⟨fun a o h _ => h, fun a h => .inl h, fun a h => (nomatch h), fun a h => h.elim .inl fun z => .inr (.inl z)⟩
    refine k v (fun a => F' a ∨ a ∈ P) H' O' [] ?_ (SR.stp wd'.right st0 wd'.apart' sr') (frz_ok (fun a h => .inl h) d v P (fun a ha => .inr ha) rr) ?_ kp
    · refine ⟨st.fr, fun a h => .inl (st.mo a h), fun a h => st.ow a (by rw [List.append_nil] at h; exact List.mem_append_left _ h), fun a h => ?_⟩
      rcases h with h | h
      · exact st.nw a h
      · exact .inr (st.ow a (List.mem_append_right _ h))
    · rw [List.append_nil]
      refine ⟨wd'.left.nd, fun a ha z => ?_, wd'.left.ls, fun a z => ?_⟩
      · rcases z with z | z
        · exact wd'.left.nf a ha z
        · exact wd'.apart' a ha z
      · rcases z with z | z
        · exact wd'.ft a z
        · exact wd'.right.ls a z, h.pl⟩
structure SI (X : Cx) (Φ : Nat → List Sl → Option (D × List Sl)) (wf : Nat) (tg e : Expr) (c : C) : Prop where
  pi : PI X tg e (tI X.K Φ wf c)
  fs : ∀ env x, foldedSetIterable e env x = pure x
theorem no_slice {c : C} {sc : Scope} {fb : Str → Bool} {lo hi st : Option Expr} {p : Pos} (h : chkE N nm c sc fb (.Slice lo hi st p) = true) : False := by
  induction c <;> simp only [chkE] at h <;> first | (cases h; done) | (obtain ⟨_, q, _⟩ := optB_ok h; cases q; done) | (rename_i ih; exact ih h)
theorem a_len : ∀ (c : C) {sc : Scope} {fb : Str → Bool} {es : List Expr}, chkA N nm c sc fb es = true → ∀ ρ rs ρ', evA Φ wf c ρ = some (rs, ρ') → rs.length = es.length
  | .nil, sc, fb, es, h, ρ, rs, ρ', e => by
    simp only [chkA] at h
    simp only [evA] at e
    have := empty_ok h
    subst this
    cases e
    rfl
  | .cons a r, sc, fb, es, h, ρ, rs, ρ', e => by
    simp only [chkA] at h
    obtain ⟨⟨e', es'⟩, e1, h⟩ := optB_ok h
    have := hdc_ok e1
    subst this
    simp only [evA] at e
    obtain ⟨⟨ra, ρ1⟩, _, e⟩ := some_bind e
    obtain ⟨⟨rs', ρ2⟩, e3, e⟩ := some_bind e
    cases e
    have := a_len r (and2 h).2 _ _ _ e3
    simp [this]
  | .var _, _, _, _, h, _, _, _, _ | .fz _, _, _, _, h, _, _, _, _ | .mv _, _, _, _, h, _, _, _, _ | .non, _, _, _, h, _, _, _, _ | .bl _, _, _, _, h, _, _, _, _ | .int _, _, _, _, h, _, _, _, _ | .str _, _, _, _, h, _, _, _, _ | .bin _ _ _, _, _, _, h, _, _, _, _ | .neg _, _, _, _, h, _, _, _, _ | .not _, _, _, _, h, _, _, _, _ | .cmp _ _ _, _, _, _, h, _, _, _, _ | .chn _ _ _ _ _, _, _, _, h, _, _, _, _ | .and _ _, _, _, _, h, _, _, _, _ | .or _ _, _, _, _, h, _, _, _, _ | .ite _ _ _, _, _, _, h, _, _, _, _ | .one _, _, _, _, h, _, _, _, _ | .tst _, _, _, _, h, _, _, _, _ | .tup _, _, _, _, h, _, _, _, _ | .lst _, _, _, _, h, _, _, _, _ | .idx _ _, _, _, _, h, _, _, _, _ | .isi _ _, _, _, _, h, _, _, _, _ | .call _ _, _, _, _, h, _, _, _, _ | .blt _ _, _, _, _, h, _, _, _, _ | .mut _ _ _, _, _, _, h, _, _, _, _ | .comp _ _ _ _ _, _, _, _, h, _, _, _, _ | .tnm _, _, _, _, h, _, _, _, _ | .ttup _, _, _, _, h, _, _, _, _ | .tsub _ _, _, _, _, h, _, _, _, _ | .sseq _, _, _, _, h, _, _, _, _ | .srng _, _, _, _, h, _, _, _, _ | .senum _, _, _, _, h, _, _, _, _ | .asg _ _, _, _, _, h, _, _, _, _ | .par _ _ _, _, _, _, h, _, _, _, _ | .frz _, _, _, _, h, _, _, _, _ | .slc _ _ _, _, _, _, h, _, _, _, _ | .exs _, _, _, _, h, _, _, _, _ | .lrng1 _, _, _, _, h, _, _, _, _ | .lrng2 _ _, _, _, _, h, _, _, _, _ | .ixm _ _, _, _, _, h, _, _, _, _ | .par3 _ _ _ _, _, _, _, h, _, _, _, _ | .ret _, _, _, _, h, _, _, _, _ | .retN, _, _, _, h, _, _, _, _ | .cond _ _ _, _, _, _, h, _, _, _, _ | .for_ _ _ _, _, _, _, h, _, _, _, _ | .whl _ _, _, _, _, h, _, _, _, _ | .brk, _, _, _, h, _, _, _, _ | .cnt, _, _, _, h, _, _, _, _ | .pass, _, _, _, h, _, _, _, _ => Bool.noConfusion (show false = true from h)
theorem vals_len : ∀ {rs : List R} {ds : List D}, vals rs = some ds → ds.length = rs.length
  | [], ds, h => by cases h; rfl
  | .pl i :: rs, ds, h => by cases h
  | .d d :: rs, ds, h => by
    cases hh : vals rs with
    | none => rw [show vals (.d d :: rs) = (vals rs).map (d :: ·) from rfl, hh] at h; cases h
    | some dt =>
      rw [show vals (.d d :: rs) = (vals rs).map (d :: ·) from rfl, hh] at h
      cases h
      simp [vals_len hh]
theorem si_rng {X : Cx} {p p2 : Pos} {es : List Expr} {cs : C} {tg : Expr} (hg : Gl X "range") (hm : X.mg "range" = none) (hs : SA X Φ wf es cs) (hl : es.length = 1 ∨ es.length = 2) (hlen : ∀ ρ rs ρ', evA Φ wf cs ρ = some (rs, ρ') → rs.length = es.length) : PI X tg (.Call (.Name "range" p) es [] p2) (tI X.K Φ wf (.srng cs)) := by
  rcases es with _ | ⟨a, _ | ⟨b, _ | ⟨c, r⟩⟩⟩
  · simp at hl
  · refine PI.weak (pi_range1 hg hm hs.pa (hs.st _)) fun σ H R h => ?_
    obtain ⟨F, ρ, O, ds, lk, ρ1, sr, wd, e, k⟩ := h
    simp only [evI] at e
    obtain ⟨⟨rs, ρ2⟩, e1, e⟩ := some_bind e
    obtain ⟨vs, e2, e⟩ := some_bind e
    obtain ⟨l, e3, e⟩ := some_bind e
    cases e
    refine ⟨F, ρ, O, rs, _, sr, wd, e1, fun us F2 H2 O2 P st sr2 rr wd2 kp => ?_⟩
    have hv := vals_ok rr e2
    have ln : vs.length = 1 := by rw [vals_len e2, hlen _ _ _ e1]; rfl
    unfold rngOf at e3
    split at e3
    · split at e3
      · rename_i n hc
        cases e3
        obtain ⟨v, rfl, h1⟩ := vrl1e hv
        refine ⟨_, by rw [vr_i h1], hc.1, hc.2, ?_⟩
        have q := k (Itr 0 (Int.toNat (n - 0))) F2 H2 O2 (sub0 st) sr2 wd2.left kp (fun i hi => (by cases hi)) iter_rng
        simpa using q
      · cases e3
    · simp at ln
    · cases e3
  · have hs1 := hs.head.2 X.env
    refine PI.weak (pi_range2 hg hm hs.pa (by rw [hs.st]; rfl) (by rw [hs1]; rfl)) fun σ H R h => ?_
    obtain ⟨F, ρ, O, ds, lk, ρ1, sr, wd, e, k⟩ := h
    simp only [evI] at e
    obtain ⟨⟨rs, ρ2⟩, e1, e⟩ := some_bind e
    obtain ⟨vs, e2, e⟩ := some_bind e
    obtain ⟨l, e3, e⟩ := some_bind e
    cases e
    refine ⟨F, ρ, O, rs, _, sr, wd, e1, fun us F2 H2 O2 P st sr2 rr wd2 kp => ?_⟩
    have hv := vals_ok rr e2
    have ln : vs.length = 2 := by rw [vals_len e2, hlen _ _ _ e1]; rfl
    unfold rngOf at e3
    split at e3
    · simp at ln
    · split at e3
      · rename_i hc
        cases e3
        obtain ⟨v, w, Q1, Q2, rfl, h1, h2⟩ := vrl2 hv
        exact ⟨_, _, by rw [vr_i h1, vr_i h2], hc, k (Itr _ _) F2 H2 O2 (sub0 st) sr2 wd2.left kp (fun i hi => (by cases hi)) iter_rng⟩
      · cases e3
    · cases e3
  · simp at hl
theorem asMethE_ok {e o e' : Expr} {m : Str} {p2 pos : Pos} {es' : List Expr} (h : asMethE e = some (o, m, p2, e', es', pos)) : e = .Call (.Attribute o m p2) (e' :: es') [] pos := by
  unfold asMethE at h
  split at h
  · cases h; rfl
  · cases h
theorem notCall_ok {o : Expr} {m : Str} {env : PySem.Env} (h : notCall o = true) : attributeBase o m env (eval o env) = eval o env := by
  cases o <;> first | (cases h; done) | rfl
set_option maxRecDepth 100000 in
mutual
theorem sdE : ∀ (c : C) {X : Cx} {sc : Scope} {fb : Str → Bool} {e : Expr}, GX N nm Φ k X sc fb → chkE N nm c sc fb e = true → SE X Φ wf e c
  | .var i, X, sc, fb, e, g, h => by
    simp only [chkE] at h
    obtain ⟨x, e1, h⟩ := optB_ok h
    obtain ⟨p, rfl⟩ := asName_ok e1
    obtain ⟨h1, h2, h3, h4⟩ := g.name h
    exact ⟨se_var h1 h2 h3 h4, plain_Name⟩
  | .fz i, X, sc, fb, e, g, h => by
    simp only [chkE] at h
    obtain ⟨x, e1, h⟩ := optB_ok h
    obtain ⟨p, rfl⟩ := asName_ok e1
    obtain ⟨h1, h2, h3, h4⟩ := g.name h
    exact ⟨se_fz h1 h2 h3 h4, plain_Name⟩
  | .mv i, X, sc, fb, e, g, h => by
    simp only [chkE] at h
    obtain ⟨x, e1, h⟩ := optB_ok h
    obtain ⟨p, rfl⟩ := asName_ok e1
    obtain ⟨h1, h2, h3, h4⟩ := g.name h
    exact ⟨se_mv h1 h2 h3 h4, plain_Name⟩
  | .non, X, sc, fb, e, g, h => by
    simp only [chkE] at h
    obtain ⟨x, e1, h⟩ := optB_ok h
    obtain ⟨kk, p, rfl⟩ := asConst_ok e1
    cases x <;> first | (cases h; done) | exact se_non
  | .bl b, X, sc, fb, e, g, h => by
    simp only [chkE] at h
    obtain ⟨x, e1, h⟩ := optB_ok h
    obtain ⟨kk, p, rfl⟩ := asConst_ok e1
    cases x <;> first | (cases h; done) | skip
    rename_i c h2
    have : b = c := by simpa [constB] using h2
    subst this
    exact se_bl
  | .int b, X, sc, fb, e, g, h => by
    simp only [chkE] at h
    obtain ⟨x, e1, h⟩ := optB_ok h
    obtain ⟨kk, p, rfl⟩ := asConst_ok e1
    cases x <;> first | (cases h; done) | skip
    rename_i c h2
    have : b = c := by simpa [constB] using h2
    subst this
    exact se_int
  | .str b, X, sc, fb, e, g, h => by
    simp only [chkE] at h
    obtain ⟨x, e1, h⟩ := optB_ok h
    obtain ⟨kk, p, rfl⟩ := asConst_ok e1
    cases x <;> first | (cases h; done) | skip
    rename_i c h2
    have : b = c := by simpa [constB] using h2
    subst this
    exact se_str
  | .bin o a b, X, sc, fb, e, g, h => by
    simp only [chkE] at h
    obtain ⟨⟨a', o', b'⟩, e1, h⟩ := optB_ok h
    obtain ⟨p, rfl⟩ := asBin_ok e1
    obtain ⟨h, h3⟩ := and2 h
    obtain ⟨h1, h2⟩ := and2 h
    have := of_decide_eq_true h1
    subst this
    exact se_bin (sdE a g h2) (sdE b g h3)
  | .neg a, X, sc, fb, e, g, h => by
    simp only [chkE] at h
    obtain ⟨⟨o', a'⟩, e1, h⟩ := optB_ok h
    obtain ⟨p, rfl⟩ := asUn_ok e1
    obtain ⟨h1, h2⟩ := and2 h
    have := of_decide_eq_true h1
    subst this
    exact se_neg (sdE a g h2)
  | .not a, X, sc, fb, e, g, h => by
    simp only [chkE] at h
    obtain ⟨⟨o', a'⟩, e1, h⟩ := optB_ok h
    obtain ⟨p, rfl⟩ := asUn_ok e1
    obtain ⟨h1, h2⟩ := and2 h
    have := of_decide_eq_true h1
    subst this
    exact se_not (sdE a g h2)
  | .cmp o a b, X, sc, fb, e, g, h => by
    simp only [chkE] at h
    obtain ⟨⟨o', a', b'⟩, e1, h⟩ := optB_ok h
    obtain ⟨p, rfl⟩ := asCmp1_ok e1
    obtain ⟨h, h3⟩ := and2 h
    obtain ⟨h1, h2⟩ := and2 h
    have := of_decide_eq_true h1
    subst this
    exact se_cmp g.hu (sdE a g h2) (sdE b g h3)
  | .chn o1 o2 a b c, X, sc, fb, e, g, h => by
    simp only [chkE] at h
    obtain ⟨⟨o1', o2', a', b', c'⟩, e1, h⟩ := optB_ok h
    obtain ⟨p, rfl⟩ := asCmp2_ok e1
    obtain ⟨h, h5⟩ := and2 h
    obtain ⟨h, h4⟩ := and2 h
    obtain ⟨h, h3⟩ := and2 h
    obtain ⟨h1, h2⟩ := and2 h
    have := of_decide_eq_true h1
    subst this
    have := of_decide_eq_true h2
    subst this
    exact se_chn g.hu (sdE a g h3) (sdE b g h4) (sdE c g h5)
  | .and a b, X, sc, fb, e, g, h => by
    simp only [chkE] at h
    obtain ⟨⟨o', a', b', r⟩, e1, h⟩ := optB_ok h
    obtain ⟨p, rfl⟩ := asBool_ok e1
    obtain ⟨h, h3⟩ := and2 h
    obtain ⟨h1, h2⟩ := and2 h
    have := of_decide_eq_true h1
    subst this
    exact se_and (sdE a g h2) (sdV b g h3)
  | .or a b, X, sc, fb, e, g, h => by
    simp only [chkE] at h
    obtain ⟨⟨o', a', b', r⟩, e1, h⟩ := optB_ok h
    obtain ⟨p, rfl⟩ := asBool_ok e1
    obtain ⟨h, h3⟩ := and2 h
    obtain ⟨h1, h2⟩ := and2 h
    have := of_decide_eq_true h1
    subst this
    exact se_or (sdE a g h2) (sdV b g h3)
  | .ite c a b, X, sc, fb, e, g, h => by
    simp only [chkE] at h
    obtain ⟨⟨c', a', b'⟩, e1, h⟩ := optB_ok h
    obtain ⟨p, rfl⟩ := asIf_ok e1
    obtain ⟨h, h3⟩ := and2 h
    obtain ⟨h1, h2⟩ := and2 h
    exact se_ite (sdT c g h1) (sdE a g h2) (sdE b g h3)
  | .tup es, X, sc, fb, e, g, h => by
    simp only [chkE] at h
    obtain ⟨es', e1, h⟩ := optB_ok h
    obtain ⟨kk, p, rfl⟩ := asTup_ok e1
    exact se_tup (sdA es g h)
  | .lst es, X, sc, fb, e, g, h => by
    simp only [chkE] at h
    obtain ⟨es', e1, h⟩ := optB_ok h
    obtain ⟨p, rfl⟩ := asLst_ok e1
    exact se_lst (sdA es g h)
  | .idx a b, X, sc, fb, e, g, h => by
    simp only [chkE] at h
    obtain ⟨⟨a', b'⟩, e1, h⟩ := optB_ok h
    obtain ⟨p, rfl⟩ := asSub_ok e1
    obtain ⟨h1, h2⟩ := and2 h
    exact se_idx (sdE a g h1) (sdE b g h2)
  | .isi a t, X, sc, fb, e, g, h => by
    simp only [chkE] at h
    obtain ⟨⟨f, es⟩, e1, h'⟩ := optB_ok h
    clear h
    obtain ⟨⟨a', y'⟩, e2, h⟩ := optB_ok h'
    clear h'
    obtain ⟨p, p2, rfl⟩ := asCall_ok e1
    have := hd2_ok e2
    subst this
    obtain ⟨y, e3, h⟩ := optB_ok h
    obtain ⟨p3, rfl⟩ := asName_ok e3
    obtain ⟨h, h6⟩ := and2 h
    obtain ⟨h, h5⟩ := and2 h
    obtain ⟨h, h4⟩ := and2 h
    obtain ⟨h, h3⟩ := and2 h
    obtain ⟨h1, h2⟩ := and2 h
    have := of_decide_eq_true h1
    subst this
    have := of_decide_eq_true h5
    subst this
    obtain ⟨b1, b2, b3, b4⟩ := boot_ty h4
    exact se_isi (g.gl h2) (g.bn (by decide +kernel)) (g.gl h3) (g.bn b2) b1 b3 b4 (sdE a g h6)
  | .call f es, X, sc, fb, e, g, h => by
    simp only [chkE] at h
    obtain ⟨⟨x, es'⟩, e1, h⟩ := optB_ok h
    obtain ⟨p, p2, rfl⟩ := asCall_ok e1
    obtain ⟨h, h4⟩ := and2 h
    obtain ⟨h, h3⟩ := and2 h
    obtain ⟨h1, h2⟩ := and2 h
    have G := g.defs f x (of_decide_eq_true h1)
    have hs := sdA es g h4
    cases es' with
    | nil =>
      have : es = .nil := by
        cases es <;> first | rfl | (simp only [chkA] at h4; first | (cases h4; done) | (obtain ⟨_, q, _⟩ := optB_ok h4; cases q))
      subst this
      exact se_call0 G g.room (g.gl h2) (okN_ok h3).1
    | cons e' es' => exact se_call G g.room (g.gl h2) (okN_ok h3).1 hs hs.head.2
  | .blt n es, X, sc, fb, e, g, h => by
    simp only [chkE] at h
    obtain ⟨⟨x, es'⟩, e1, h⟩ := optB_ok h
    obtain ⟨p, p2, rfl⟩ := asCall_ok e1
    obtain ⟨h, h4⟩ := and2 h
    obtain ⟨h, h3⟩ := and2 h
    obtain ⟨h1, h2⟩ := and2 h
    have hs := sdA es g h4
    cases es' with
    | nil => cases h3
    | cons e' es' => exact se_bltn g (of_decide_eq_true h1) h2 hs hs.head.1 hs.head.2
  | .mut n i es, X, sc, fb, e, g, h => by
    simp only [chkE] at h
    obtain ⟨⟨x, m, p2, e', es', pos⟩, e1, h⟩ := optB_ok h
    obtain ⟨p, rfl⟩ := asMeth_ok e1
    obtain ⟨h, h5⟩ := and2 h
    obtain ⟨h, h4⟩ := and2 h
    obtain ⟨h, h3⟩ := and2 h
    obtain ⟨h1, h2⟩ := and2 h
    have hs := sdA es g h5
    have := of_decide_eq_true h1
    subst this
    obtain ⟨q1, q2, q3, q4⟩ := g.name h2
    cases n with
    | append => exact se_append q1 q2 q3 q4 h4 (of_decide_eq_true h3) hs hs.head.2
    | extend => exact se_extend q1 q2 q3 q4 h4 (of_decide_eq_true h3) hs hs.head.2
    | pop => exact se_pop q1 q2 q3 q4 h4 (of_decide_eq_true h3) hs hs.head.2
  | .lrng1 a, X, sc, fb, e, g, h => by
    simp only [chkE] at h
    obtain ⟨⟨x, es⟩, e1, h'⟩ := optB_ok h
    clear h
    obtain ⟨r, e2, h⟩ := optB_ok h'
    clear h'
    obtain ⟨⟨x2, es2⟩, e3, h'⟩ := optB_ok h
    clear h
    obtain ⟨a', e4, h⟩ := optB_ok h'
    clear h'
    obtain ⟨p, p2, rfl⟩ := asCall_ok e1
    have := hd1_ok e2
    subst this
    obtain ⟨p3, p4, rfl⟩ := asCall_ok e3
    have := hd1_ok e4
    subst this
    obtain ⟨h, h5⟩ := and2 h
    obtain ⟨h, h4⟩ := and2 h
    obtain ⟨h, h3⟩ := and2 h
    obtain ⟨h1, h2⟩ := and2 h
    have := of_decide_eq_true h1
    subst this
    have := of_decide_eq_true h3
    subst this
    exact se_lrng1 g.calm (g.gl h2) (g.bn (by decide +kernel)) (g.gl h4) (g.bn (by decide +kernel)) (sdE a g h5)
  | .lrng2 a b, X, sc, fb, e, g, h => by
    simp only [chkE] at h
    obtain ⟨⟨x, es⟩, e1, h'⟩ := optB_ok h
    clear h
    obtain ⟨r, e2, h⟩ := optB_ok h'
    clear h'
    obtain ⟨⟨x2, es2⟩, e3, h'⟩ := optB_ok h
    clear h
    obtain ⟨⟨a', b'⟩, e4, h⟩ := optB_ok h'
    clear h'
    obtain ⟨p, p2, rfl⟩ := asCall_ok e1
    have := hd1_ok e2
    subst this
    obtain ⟨p3, p4, rfl⟩ := asCall_ok e3
    have := hd2_ok e4
    subst this
    obtain ⟨h, h6⟩ := and2 h
    obtain ⟨h, h5⟩ := and2 h
    obtain ⟨h, h4⟩ := and2 h
    obtain ⟨h, h3⟩ := and2 h
    obtain ⟨h1, h2⟩ := and2 h
    have := of_decide_eq_true h1
    subst this
    have := of_decide_eq_true h3
    subst this
    exact se_lrng2 g.calm (g.gl h2) (g.bn (by decide +kernel)) (g.gl h4) (g.bn (by decide +kernel)) (sdE a g h5) (sdE b g h6)
  | .ixm a b, X, sc, fb, e, g, h => by
    simp only [chkE] at h
    obtain ⟨⟨o, m, p2, e', es', pos⟩, e1, h'⟩ := optB_ok h
    clear h
    have h := h'
    clear h'
    have := asMethE_ok e1
    subst this
    obtain ⟨h, h6⟩ := and2 h
    obtain ⟨h, h5⟩ := and2 h
    obtain ⟨h, h4⟩ := and2 h
    obtain ⟨h, h3⟩ := and2 h
    obtain ⟨h1, h2⟩ := and2 h
    have := of_decide_eq_true h1
    subst this
    have := empty_ok h3
    subst this
    exact se_ixm h4 (notCall_ok h2) (fewB ((sa_cons (wf := wf) (sdE b g h6) sa_nil).st X.env) (by decide)) (sdE a g h5) (sdE b g h6)
  | .comp elt tg src cond own, X, sc, fb, e, g, h => by
    simp only [chkE] at h
    obtain ⟨⟨elt', tg', iter', ifs', scope⟩, e1, h⟩ := optB_ok h
    obtain ⟨p, rfl⟩ := asLC_ok e1
    obtain ⟨h, h7⟩ := and2 h
    obtain ⟨h, h6⟩ := and2 h
    obtain ⟨h, h5⟩ := and2 h
    obtain ⟨h, h4⟩ := and2 h
    obtain ⟨h, h3⟩ := and2 h
    obtain ⟨h1, h2⟩ := and2 h
    exact se_comp_of g (comp_mk g (sdI src g h1).pi h2 (of_decide_eq_true h3) h4 (fun s H C cl fp => sdG tg (g.blk s H C cl fp) h5) (fun s H C cl fp => sdC cond (g.blk s H C cl fp) h6) (fun s H C cl fp => (sdE elt (g.blk s H C cl fp) h7).pe) ((sdI src g h1).fs _))
  | .frz a, X, sc, fb, e, g, h => by
    simp only [chkE] at h
    exact se_frz (sdE a g h)
  | .slc a lo hi, X, sc, fb, e, g, h => by
    simp only [chkE] at h
    obtain ⟨⟨a', l', u'⟩, e1, h⟩ := optB_ok h
    obtain ⟨p, p2, rfl⟩ := asSlc_ok e1
    obtain ⟨h, h3⟩ := and2 h
    obtain ⟨h1, h2⟩ := and2 h
    exact se_slc (sdE a g h1) (sdO lo g h2) (sdO hi g h3)
  | .one _, _, _, _, _, _, h | .tst _, _, _, _, _, _, h | .nil, _, _, _, _, _, h | .cons _ _, _, _, _, _, _, h | .tnm _, _, _, _, _, _, h | .ttup _, _, _, _, _, _, h | .tsub _ _, _, _, _, _, _, h | .sseq _, _, _, _, _, _, h | .srng _, _, _, _, _, _, h | .senum _, _, _, _, _, _, h | .asg _ _, _, _, _, _, _, h | .par _ _ _, _, _, _, _, _, h | .exs _, _, _, _, _, _, h | .par3 _ _ _ _, _, _, _, _, _, h | .ret _, _, _, _, _, _, h | .retN, _, _, _, _, _, h | .cond _ _ _, _, _, _, _, _, h | .for_ _ _ _, _, _, _, _, _, h | .whl _ _, _, _, _, _, _, h | .brk, _, _, _, _, _, h | .cnt, _, _, _, _, _, h | .pass, _, _, _, _, _, h => Bool.noConfusion (show false = true from h)
theorem sdO : ∀ (c : C) {X : Cx} {sc : Scope} {fb : Str → Bool} {o : Option Expr}, GX N nm Φ k X sc fb → chkO N nm c sc fb o = true → PO X o (tO X.K Φ wf c)
  | .nil, X, sc, fb, o, g, h => by
    simp only [chkO] at h
    cases o with
    | none => exact so_none
    | some e => cases h
  | .one a, X, sc, fb, o, g, h => by
    simp only [chkO] at h
    obtain ⟨e, rfl, h⟩ := optB_ok h
    exact so_some (sdE a g h)
  | .var _, _, _, _, _, _, h | .fz _, _, _, _, _, _, h | .mv _, _, _, _, _, _, h | .non, _, _, _, _, _, h | .int _, _, _, _, _, _, h | .str _, _, _, _, _, _, h | .bin _ _ _, _, _, _, _, _, h | .neg _, _, _, _, _, _, h | .not _, _, _, _, _, _, h | .cmp _ _ _, _, _, _, _, _, h | .chn _ _ _ _ _, _, _, _, _, _, h | .and _ _, _, _, _, _, _, h | .or _ _, _, _, _, _, _, h | .ite _ _ _, _, _, _, _, _, h | .tst _, _, _, _, _, _, h | .tup _, _, _, _, _, _, h | .lst _, _, _, _, _, _, h | .idx _ _, _, _, _, _, _, h | .isi _ _, _, _, _, _, _, h | .call _ _, _, _, _, _, _, h | .blt _ _, _, _, _, _, _, h | .mut _ _ _, _, _, _, _, _, h | .comp _ _ _ _ _, _, _, _, _, _, h | .bl _, _, _, _, _, _, h | .cons _ _, _, _, _, _, _, h | .tnm _, _, _, _, _, _, h | .ttup _, _, _, _, _, _, h | .tsub _ _, _, _, _, _, _, h | .sseq _, _, _, _, _, _, h | .srng _, _, _, _, _, _, h | .senum _, _, _, _, _, _, h | .asg _ _, _, _, _, _, _, h | .par _ _ _, _, _, _, _, _, h | .frz _, _, _, _, _, _, h | .slc _ _ _, _, _, _, _, _, h | .exs _, _, _, _, _, _, h | .lrng1 _, _, _, _, _, _, h | .lrng2 _ _, _, _, _, _, _, h | .ixm _ _, _, _, _, _, _, h | .par3 _ _ _ _, _, _, _, _, _, h | .ret _, _, _, _, _, _, h | .retN, _, _, _, _, _, h | .cond _ _ _, _, _, _, _, _, h | .for_ _ _ _, _, _, _, _, _, h | .whl _ _, _, _, _, _, _, h | .brk, _, _, _, _, _, h | .cnt, _, _, _, _, _, h | .pass, _, _, _, _, _, h => Bool.noConfusion (show false = true from h)
theorem sdV : ∀ (c : C) {X : Cx} {sc : Scope} {fb : Str → Bool} {o : BoolOp} {es : List Expr} {pos : Pos}, GX N nm Φ k X sc fb → chkV N nm c sc fb o es = true → SE X Φ wf (.BoolOp o es pos) c
  | .one a, X, sc, fb, o, es, pos, g, h => by
    simp only [chkV] at h
    obtain ⟨e, e1, h⟩ := optB_ok h
    have := hd1_ok e1
    subst this
    exact one_E (se_and1 (rest := []) (sdE a g h))
  | .and a b, X, sc, fb, o, es, pos, g, h => by
    simp only [chkV] at h
    obtain ⟨⟨a', b', r⟩, e1, h⟩ := optB_ok h
    have := hdcc_ok e1
    subst this
    obtain ⟨h, h3⟩ := and2 h
    obtain ⟨h1, h2⟩ := and2 h
    have := of_decide_eq_true h1
    subst this
    exact se_and (sdE a g h2) (sdV b g h3)
  | .or a b, X, sc, fb, o, es, pos, g, h => by
    simp only [chkV] at h
    obtain ⟨⟨a', b', r⟩, e1, h⟩ := optB_ok h
    have := hdcc_ok e1
    subst this
    obtain ⟨h, h3⟩ := and2 h
    obtain ⟨h1, h2⟩ := and2 h
    have := of_decide_eq_true h1
    subst this
    exact se_or (sdE a g h2) (sdV b g h3)
  | .var _, _, _, _, _, _, _, _, h | .fz _, _, _, _, _, _, _, _, h | .mv _, _, _, _, _, _, _, _, h | .non, _, _, _, _, _, _, _, h | .bl _, _, _, _, _, _, _, _, h | .int _, _, _, _, _, _, _, _, h | .str _, _, _, _, _, _, _, _, h | .bin _ _ _, _, _, _, _, _, _, _, h | .neg _, _, _, _, _, _, _, _, h | .not _, _, _, _, _, _, _, _, h | .cmp _ _ _, _, _, _, _, _, _, _, h | .chn _ _ _ _ _, _, _, _, _, _, _, _, h | .ite _ _ _, _, _, _, _, _, _, _, h | .tst _, _, _, _, _, _, _, _, h | .tup _, _, _, _, _, _, _, _, h | .lst _, _, _, _, _, _, _, _, h | .idx _ _, _, _, _, _, _, _, _, h | .isi _ _, _, _, _, _, _, _, _, h | .call _ _, _, _, _, _, _, _, _, h | .blt _ _, _, _, _, _, _, _, _, h | .mut _ _ _, _, _, _, _, _, _, _, h | .comp _ _ _ _ _, _, _, _, _, _, _, _, h | .nil, _, _, _, _, _, _, _, h | .cons _ _, _, _, _, _, _, _, _, h | .tnm _, _, _, _, _, _, _, _, h | .ttup _, _, _, _, _, _, _, _, h | .tsub _ _, _, _, _, _, _, _, _, h | .sseq _, _, _, _, _, _, _, _, h | .srng _, _, _, _, _, _, _, _, h | .senum _, _, _, _, _, _, _, _, h | .asg _ _, _, _, _, _, _, _, _, h | .par _ _ _, _, _, _, _, _, _, _, h | .frz _, _, _, _, _, _, _, _, h | .slc _ _ _, _, _, _, _, _, _, _, h | .exs _, _, _, _, _, _, _, _, h | .lrng1 _, _, _, _, _, _, _, _, h | .lrng2 _ _, _, _, _, _, _, _, _, h | .ixm _ _, _, _, _, _, _, _, _, h | .par3 _ _ _ _, _, _, _, _, _, _, _, h | .ret _, _, _, _, _, _, _, _, h | .retN, _, _, _, _, _, _, _, h | .cond _ _ _, _, _, _, _, _, _, _, h | .for_ _ _ _, _, _, _, _, _, _, _, h | .whl _ _, _, _, _, _, _, _, _, h | .brk, _, _, _, _, _, _, _, h | .cnt, _, _, _, _, _, _, _, h | .pass, _, _, _, _, _, _, _, h => Bool.noConfusion (show false = true from h)
theorem sdA : ∀ (c : C) {X : Cx} {sc : Scope} {fb : Str → Bool} {es : List Expr}, GX N nm Φ k X sc fb → chkA N nm c sc fb es = true → SA X Φ wf es c
  | .nil, X, sc, fb, es, g, h => by
    simp only [chkA] at h
    have := empty_ok h
    subst this
    exact sa_nil
  | .cons a r, X, sc, fb, es, g, h => by
    simp only [chkA] at h
    obtain ⟨⟨e, es'⟩, e1, h⟩ := optB_ok h
    have := hdc_ok e1
    subst this
    obtain ⟨h1, h2⟩ := and2 h
    exact sa_cons (sdE a g h1) (sdA r g h2)
  | .var _, _, _, _, _, _, h | .fz _, _, _, _, _, _, h | .mv _, _, _, _, _, _, h | .non, _, _, _, _, _, h | .bl _, _, _, _, _, _, h | .int _, _, _, _, _, _, h | .str _, _, _, _, _, _, h | .bin _ _ _, _, _, _, _, _, h | .neg _, _, _, _, _, _, h | .not _, _, _, _, _, _, h | .cmp _ _ _, _, _, _, _, _, h | .chn _ _ _ _ _, _, _, _, _, _, h | .and _ _, _, _, _, _, _, h | .or _ _, _, _, _, _, _, h | .ite _ _ _, _, _, _, _, _, h | .one _, _, _, _, _, _, h | .tst _, _, _, _, _, _, h | .tup _, _, _, _, _, _, h | .lst _, _, _, _, _, _, h | .idx _ _, _, _, _, _, _, h | .isi _ _, _, _, _, _, _, h | .call _ _, _, _, _, _, _, h | .blt _ _, _, _, _, _, _, h | .mut _ _ _, _, _, _, _, _, h | .comp _ _ _ _ _, _, _, _, _, _, h | .tnm _, _, _, _, _, _, h | .ttup _, _, _, _, _, _, h | .tsub _ _, _, _, _, _, _, h | .sseq _, _, _, _, _, _, h | .srng _, _, _, _, _, _, h | .senum _, _, _, _, _, _, h | .asg _ _, _, _, _, _, _, h | .par _ _ _, _, _, _, _, _, h | .frz _, _, _, _, _, _, h | .slc _ _ _, _, _, _, _, _, h | .exs _, _, _, _, _, _, h | .lrng1 _, _, _, _, _, _, h | .lrng2 _ _, _, _, _, _, _, h | .ixm _ _, _, _, _, _, _, h | .par3 _ _ _ _, _, _, _, _, _, h | .ret _, _, _, _, _, _, h | .retN, _, _, _, _, _, h | .cond _ _ _, _, _, _, _, _, h | .for_ _ _ _, _, _, _, _, _, h | .whl _ _, _, _, _, _, _, h | .brk, _, _, _, _, _, h | .cnt, _, _, _, _, _, h | .pass, _, _, _, _, _, h => Bool.noConfusion (show false = true from h)
theorem sdT : ∀ (c : C) {X : Cx} {sc : Scope} {fb : Str → Bool} {e : Expr}, GX N nm Φ k X sc fb → chkT N nm c sc fb e = true → ST X Φ wf e c
  | .not a, X, sc, fb, e, g, h => by
    simp only [chkT] at h
    obtain ⟨⟨o', a'⟩, e1, h⟩ := optB_ok h
    obtain ⟨p, rfl⟩ := asUn_ok e1
    obtain ⟨h1, h2⟩ := and2 h
    have := of_decide_eq_true h1
    subst this
    exact st_not (sdT a g h2)
  | .and a b, X, sc, fb, e, g, h => by
    simp only [chkT] at h
    obtain ⟨⟨o', a', b', r⟩, e1, h⟩ := optB_ok h
    obtain ⟨p, rfl⟩ := asBool_ok e1
    obtain ⟨h, h3⟩ := and2 h
    obtain ⟨h1, h2⟩ := and2 h
    have := of_decide_eq_true h1
    subst this
    exact (sw_and (sdT a g h2) (sdW b g h3)).pt
  | .or a b, X, sc, fb, e, g, h => by
    simp only [chkT] at h
    obtain ⟨⟨o', a', b', r⟩, e1, h⟩ := optB_ok h
    obtain ⟨p, rfl⟩ := asBool_ok e1
    obtain ⟨h, h3⟩ := and2 h
    obtain ⟨h1, h2⟩ := and2 h
    have := of_decide_eq_true h1
    subst this
    exact (sw_or (sdT a g h2) (sdW b g h3)).pt
  | .cmp o a b, X, sc, fb, e, g, h => by
    simp only [chkT] at h
    obtain ⟨⟨o', a', b'⟩, e1, h⟩ := optB_ok h
    obtain ⟨p, rfl⟩ := asCmp1_ok e1
    obtain ⟨h, h3⟩ := and2 h
    obtain ⟨h1, h2⟩ := and2 h
    have := of_decide_eq_true h1
    subst this
    exact st_cmp g.hu (sdE a g h2) (sdE b g h3)
  | .chn o1 o2 a b c, X, sc, fb, e, g, h => by
    simp only [chkT] at h
    obtain ⟨⟨o1', o2', a', b', c'⟩, e1, h⟩ := optB_ok h
    obtain ⟨p, rfl⟩ := asCmp2_ok e1
    obtain ⟨h, h5⟩ := and2 h
    obtain ⟨h, h4⟩ := and2 h
    obtain ⟨h, h3⟩ := and2 h
    obtain ⟨h1, h2⟩ := and2 h
    have := of_decide_eq_true h1
    subst this
    have := of_decide_eq_true h2
    subst this
    exact st_chn g.hu (sdE a g h3) (sdE b g h4) (sdE c g h5)
  | .tst a, X, sc, fb, e, g, h => by
    simp only [chkT] at h
    obtain ⟨h1, h2⟩ := and2 h
    exact st_tst (sdE a g h2) (plainT_ok h1 X.env)
  | .var _, _, _, _, _, _, h | .fz _, _, _, _, _, _, h | .mv _, _, _, _, _, _, h | .non, _, _, _, _, _, h | .bl _, _, _, _, _, _, h | .int _, _, _, _, _, _, h | .str _, _, _, _, _, _, h | .bin _ _ _, _, _, _, _, _, h | .neg _, _, _, _, _, _, h | .ite _ _ _, _, _, _, _, _, h | .one _, _, _, _, _, _, h | .tup _, _, _, _, _, _, h | .lst _, _, _, _, _, _, h | .idx _ _, _, _, _, _, _, h | .isi _ _, _, _, _, _, _, h | .call _ _, _, _, _, _, _, h | .blt _ _, _, _, _, _, _, h | .mut _ _ _, _, _, _, _, _, h | .comp _ _ _ _ _, _, _, _, _, _, h | .nil, _, _, _, _, _, h | .cons _ _, _, _, _, _, _, h | .tnm _, _, _, _, _, _, h | .ttup _, _, _, _, _, _, h | .tsub _ _, _, _, _, _, _, h | .sseq _, _, _, _, _, _, h | .srng _, _, _, _, _, _, h | .senum _, _, _, _, _, _, h | .asg _ _, _, _, _, _, _, h | .par _ _ _, _, _, _, _, _, h | .frz _, _, _, _, _, _, h | .slc _ _ _, _, _, _, _, _, h | .exs _, _, _, _, _, _, h | .lrng1 _, _, _, _, _, _, h | .lrng2 _ _, _, _, _, _, _, h | .ixm _ _, _, _, _, _, _, h | .par3 _ _ _ _, _, _, _, _, _, h | .ret _, _, _, _, _, _, h | .retN, _, _, _, _, _, h | .cond _ _ _, _, _, _, _, _, h | .for_ _ _ _, _, _, _, _, _, h | .whl _ _, _, _, _, _, _, h | .brk, _, _, _, _, _, h | .cnt, _, _, _, _, _, h | .pass, _, _, _, _, _, h => Bool.noConfusion (show false = true from h)
theorem sdW : ∀ (c : C) {X : Cx} {sc : Scope} {fb : Str → Bool} {o : BoolOp} {es : List Expr} {pos : Pos}, GX N nm Φ k X sc fb → chkW N nm c sc fb o es = true → SW X Φ wf (.BoolOp o es pos) c
  | .one a, X, sc, fb, o, es, pos, g, h => by
    simp only [chkW] at h
    obtain ⟨e, e1, h⟩ := optB_ok h
    have := hd1_ok e1
    subst this
    cases o with
    | And => exact sw_and1 (one_T (sdT a g h))
    | Or => exact sw_or1 (one_T (sdT a g h))
  | .and a b, X, sc, fb, o, es, pos, g, h => by
    simp only [chkW] at h
    obtain ⟨⟨a', b', r⟩, e1, h⟩ := optB_ok h
    have := hdcc_ok e1
    subst this
    obtain ⟨h, h3⟩ := and2 h
    obtain ⟨h1, h2⟩ := and2 h
    have := of_decide_eq_true h1
    subst this
    exact sw_and (sdT a g h2) (sdW b g h3)
  | .or a b, X, sc, fb, o, es, pos, g, h => by
    simp only [chkW] at h
    obtain ⟨⟨a', b', r⟩, e1, h⟩ := optB_ok h
    have := hdcc_ok e1
    subst this
    obtain ⟨h, h3⟩ := and2 h
    obtain ⟨h1, h2⟩ := and2 h
    have := of_decide_eq_true h1
    subst this
    exact sw_or (sdT a g h2) (sdW b g h3)
  | .var _, _, _, _, _, _, _, _, h | .fz _, _, _, _, _, _, _, _, h | .mv _, _, _, _, _, _, _, _, h | .non, _, _, _, _, _, _, _, h | .bl _, _, _, _, _, _, _, _, h | .int _, _, _, _, _, _, _, _, h | .str _, _, _, _, _, _, _, _, h | .bin _ _ _, _, _, _, _, _, _, _, h | .neg _, _, _, _, _, _, _, _, h | .not _, _, _, _, _, _, _, _, h | .cmp _ _ _, _, _, _, _, _, _, _, h | .chn _ _ _ _ _, _, _, _, _, _, _, _, h | .ite _ _ _, _, _, _, _, _, _, _, h | .tst _, _, _, _, _, _, _, _, h | .tup _, _, _, _, _, _, _, _, h | .lst _, _, _, _, _, _, _, _, h | .idx _ _, _, _, _, _, _, _, _, h | .isi _ _, _, _, _, _, _, _, _, h | .call _ _, _, _, _, _, _, _, _, h | .blt _ _, _, _, _, _, _, _, _, h | .mut _ _ _, _, _, _, _, _, _, _, h | .comp _ _ _ _ _, _, _, _, _, _, _, _, h | .nil, _, _, _, _, _, _, _, h | .cons _ _, _, _, _, _, _, _, _, h | .tnm _, _, _, _, _, _, _, _, h | .ttup _, _, _, _, _, _, _, _, h | .tsub _ _, _, _, _, _, _, _, _, h | .sseq _, _, _, _, _, _, _, _, h | .srng _, _, _, _, _, _, _, _, h | .senum _, _, _, _, _, _, _, _, h | .asg _ _, _, _, _, _, _, _, _, h | .par _ _ _, _, _, _, _, _, _, _, h | .frz _, _, _, _, _, _, _, _, h | .slc _ _ _, _, _, _, _, _, _, _, h | .exs _, _, _, _, _, _, _, _, h | .lrng1 _, _, _, _, _, _, _, _, h | .lrng2 _ _, _, _, _, _, _, _, _, h | .ixm _ _, _, _, _, _, _, _, _, h | .par3 _ _ _ _, _, _, _, _, _, _, _, h | .ret _, _, _, _, _, _, _, _, h | .retN, _, _, _, _, _, _, _, h | .cond _ _ _, _, _, _, _, _, _, _, h | .for_ _ _ _, _, _, _, _, _, _, _, h | .whl _ _, _, _, _, _, _, _, _, h | .brk, _, _, _, _, _, _, _, h | .cnt, _, _, _, _, _, _, _, h | .pass, _, _, _, _, _, _, _, h => Bool.noConfusion (show false = true from h)
theorem sdC : ∀ (c : C) {X : Cx} {sc : Scope} {fb : Str → Bool} {es : List Expr}, GX N nm Φ k X sc fb → chkC N nm c sc fb es = true → PTs X es (tT X.K Φ wf c)
  | .bl b, X, sc, fb, es, g, h => by
    simp only [chkC] at h
    obtain ⟨h1, h2⟩ := and2 h
    have := empty_ok h2
    subst this
    subst h1
    exact pts_nil_c
  | .one a, X, sc, fb, es, g, h => by
    simp only [chkC] at h
    obtain ⟨e, e1, h⟩ := optB_ok h
    have := hd1_ok e1
    subst this
    exact cond_one (sdT a g h)
  | .var _, _, _, _, _, _, h | .fz _, _, _, _, _, _, h | .mv _, _, _, _, _, _, h | .non, _, _, _, _, _, h | .int _, _, _, _, _, _, h | .str _, _, _, _, _, _, h | .bin _ _ _, _, _, _, _, _, h | .neg _, _, _, _, _, _, h | .not _, _, _, _, _, _, h | .cmp _ _ _, _, _, _, _, _, h | .chn _ _ _ _ _, _, _, _, _, _, h | .and _ _, _, _, _, _, _, h | .or _ _, _, _, _, _, _, h | .ite _ _ _, _, _, _, _, _, h | .tst _, _, _, _, _, _, h | .tup _, _, _, _, _, _, h | .lst _, _, _, _, _, _, h | .idx _ _, _, _, _, _, _, h | .isi _ _, _, _, _, _, _, h | .call _ _, _, _, _, _, _, h | .blt _ _, _, _, _, _, _, h | .mut _ _ _, _, _, _, _, _, h | .comp _ _ _ _ _, _, _, _, _, _, h | .nil, _, _, _, _, _, h | .cons _ _, _, _, _, _, _, h | .tnm _, _, _, _, _, _, h | .ttup _, _, _, _, _, _, h | .tsub _ _, _, _, _, _, _, h | .sseq _, _, _, _, _, _, h | .srng _, _, _, _, _, _, h | .senum _, _, _, _, _, _, h | .asg _ _, _, _, _, _, _, h | .par _ _ _, _, _, _, _, _, h | .frz _, _, _, _, _, _, h | .slc _ _ _, _, _, _, _, _, h | .exs _, _, _, _, _, _, h | .lrng1 _, _, _, _, _, _, h | .lrng2 _ _, _, _, _, _, _, h | .ixm _ _, _, _, _, _, _, h | .par3 _ _ _ _, _, _, _, _, _, h | .ret _, _, _, _, _, _, h | .retN, _, _, _, _, _, h | .cond _ _ _, _, _, _, _, _, h | .for_ _ _ _, _, _, _, _, _, h | .whl _ _, _, _, _, _, _, h | .brk, _, _, _, _, _, h | .cnt, _, _, _, _, _, h | .pass, _, _, _, _, _, h => Bool.noConfusion (show false = true from h)
theorem sdG : ∀ (c : C) {X : Cx} {sc : Scope} {fb : Str → Bool} {e : Expr}, GX N nm Φ k X sc fb → chkG N nm c sc fb e = true → PG X e (tG X.K Φ wf c)
  | .tnm i, X, sc, fb, e, g, h => by
    simp only [chkG] at h
    obtain ⟨x, e1, h⟩ := optB_ok h
    obtain ⟨p, rfl⟩ := asName_ok e1
    obtain ⟨h1, h2⟩ := and2 h
    obtain ⟨q1, q2⟩ := g.loc h2
    exact sg_name (by rw [g.hN]; exact g.nd) (by rw [g.hN]; exact of_decide_eq_true h1) q1 q2
  | .ttup ts, X, sc, fb, e, g, h => by
    simp only [chkG] at h
    obtain ⟨es, e1, h⟩ := optB_ok h
    obtain ⟨kk, p, rfl⟩ := asTup_ok e1
    obtain ⟨q1, q2⟩ := asg_eachs (env := X.env) ts h
    exact sg_tup g.calm (sdGs ts g h) q1 q2 (gs_len ts h)
  | .tsub i kk, X, sc, fb, e, g, h => by
    simp only [chkG] at h
    obtain ⟨⟨x, b⟩, e1, h⟩ := optB_ok h
    obtain ⟨p, p2, rfl⟩ := asSubN_ok e1
    obtain ⟨h1, h2⟩ := and2 h
    obtain ⟨q1, q2, q3, q4⟩ := g.name h1
    have hs := sdE kk g h2
    refine sg_sub q1 q2 q3 q4 hs (fun v => ?_)
    cases b with
    | Slice lo hi st p => exact (no_slice h2).elim
    | _ => rfl
  | .var _, _, _, _, _, _, h | .fz _, _, _, _, _, _, h | .mv _, _, _, _, _, _, h | .non, _, _, _, _, _, h | .bl _, _, _, _, _, _, h | .int _, _, _, _, _, _, h | .str _, _, _, _, _, _, h | .bin _ _ _, _, _, _, _, _, h | .neg _, _, _, _, _, _, h | .not _, _, _, _, _, _, h | .cmp _ _ _, _, _, _, _, _, h | .chn _ _ _ _ _, _, _, _, _, _, h | .and _ _, _, _, _, _, _, h | .or _ _, _, _, _, _, _, h | .ite _ _ _, _, _, _, _, _, h | .one _, _, _, _, _, _, h | .tst _, _, _, _, _, _, h | .tup _, _, _, _, _, _, h | .lst _, _, _, _, _, _, h | .idx _ _, _, _, _, _, _, h | .isi _ _, _, _, _, _, _, h | .call _ _, _, _, _, _, _, h | .blt _ _, _, _, _, _, _, h | .mut _ _ _, _, _, _, _, _, h | .comp _ _ _ _ _, _, _, _, _, _, h | .nil, _, _, _, _, _, h | .cons _ _, _, _, _, _, _, h | .sseq _, _, _, _, _, _, h | .srng _, _, _, _, _, _, h | .senum _, _, _, _, _, _, h | .asg _ _, _, _, _, _, _, h | .par _ _ _, _, _, _, _, _, h | .frz _, _, _, _, _, _, h | .slc _ _ _, _, _, _, _, _, h | .exs _, _, _, _, _, _, h | .lrng1 _, _, _, _, _, _, h | .lrng2 _ _, _, _, _, _, _, h | .ixm _ _, _, _, _, _, _, h | .par3 _ _ _ _, _, _, _, _, _, h | .ret _, _, _, _, _, _, h | .retN, _, _, _, _, _, h | .cond _ _ _, _, _, _, _, _, h | .for_ _ _ _, _, _, _, _, _, h | .whl _ _, _, _, _, _, _, h | .brk, _, _, _, _, _, h | .cnt, _, _, _, _, _, h | .pass, _, _, _, _, _, h => Bool.noConfusion (show false = true from h)
theorem sdGs : ∀ (c : C) {X : Cx} {sc : Scope} {fb : Str → Bool} {es : List Expr}, GX N nm Φ k X sc fb → chkGs N nm c sc fb es = true → PGs X es (tGs X.K Φ wf c)
  | .nil, X, sc, fb, es, g, h => by
    simp only [chkGs] at h
    have := empty_ok h
    subst this
    exact sgs_nil
  | .cons a r, X, sc, fb, es, g, h => by
    simp only [chkGs] at h
    obtain ⟨⟨e, es'⟩, e1, h⟩ := optB_ok h
    have := hdc_ok e1
    subst this
    obtain ⟨h1, h2⟩ := and2 h
    exact sgs_cons (sdG a g h1) (sdGs r g h2) (by rw [asg_each h1]; rfl)
  | .var _, _, _, _, _, _, h | .fz _, _, _, _, _, _, h | .mv _, _, _, _, _, _, h | .non, _, _, _, _, _, h | .bl _, _, _, _, _, _, h | .int _, _, _, _, _, _, h | .str _, _, _, _, _, _, h | .bin _ _ _, _, _, _, _, _, h | .neg _, _, _, _, _, _, h | .not _, _, _, _, _, _, h | .cmp _ _ _, _, _, _, _, _, h | .chn _ _ _ _ _, _, _, _, _, _, h | .and _ _, _, _, _, _, _, h | .or _ _, _, _, _, _, _, h | .ite _ _ _, _, _, _, _, _, h | .one _, _, _, _, _, _, h | .tst _, _, _, _, _, _, h | .tup _, _, _, _, _, _, h | .lst _, _, _, _, _, _, h | .idx _ _, _, _, _, _, _, h | .isi _ _, _, _, _, _, _, h | .call _ _, _, _, _, _, _, h | .blt _ _, _, _, _, _, _, h | .mut _ _ _, _, _, _, _, _, h | .comp _ _ _ _ _, _, _, _, _, _, h | .tnm _, _, _, _, _, _, h | .ttup _, _, _, _, _, _, h | .tsub _ _, _, _, _, _, _, h | .sseq _, _, _, _, _, _, h | .srng _, _, _, _, _, _, h | .senum _, _, _, _, _, _, h | .asg _ _, _, _, _, _, _, h | .par _ _ _, _, _, _, _, _, h | .frz _, _, _, _, _, _, h | .slc _ _ _, _, _, _, _, _, h | .exs _, _, _, _, _, _, h | .lrng1 _, _, _, _, _, _, h | .lrng2 _ _, _, _, _, _, _, h | .ixm _ _, _, _, _, _, _, h | .par3 _ _ _ _, _, _, _, _, _, h | .ret _, _, _, _, _, _, h | .retN, _, _, _, _, _, h | .cond _ _ _, _, _, _, _, _, h | .for_ _ _ _, _, _, _, _, _, h | .whl _ _, _, _, _, _, _, h | .brk, _, _, _, _, _, h | .cnt, _, _, _, _, _, h | .pass, _, _, _, _, _, h => Bool.noConfusion (show false = true from h)
theorem sdI : ∀ (c : C) {X : Cx} {sc : Scope} {fb : Str → Bool} {e tg : Expr}, GX N nm Φ k X sc fb → chkI N nm c sc fb e tg = true → SI X Φ wf tg e c
  | .sseq a, X, sc, fb, e, tg, g, h => by
    simp only [chkI] at h
    have q := sdE a g h
    exact ⟨si_seq q, q.pl.fs⟩
  | .srng es, X, sc, fb, e, tg, g, h => by
    simp only [chkI] at h
    obtain ⟨⟨x, es'⟩, e1, h⟩ := optB_ok h
    obtain ⟨p, p2, rfl⟩ := asCall_ok e1
    obtain ⟨h, h4⟩ := and2 h
    obtain ⟨h, h3⟩ := and2 h
    obtain ⟨h1, h2⟩ := and2 h
    have := of_decide_eq_true h1
    subst this
    exact ⟨si_rng (g.gl h2) (g.bn (by decide +kernel)) (sdA es g h4) (by simpa using h3) (a_len es h4), fun _ _ => rfl⟩
  | .senum a, X, sc, fb, e, tg, g, h => by
    simp only [chkI] at h
    obtain ⟨⟨x, es'⟩, e1, h'⟩ := optB_ok h
    clear h
    obtain ⟨e', e2, h⟩ := optB_ok h'
    clear h'
    obtain ⟨p, p2, rfl⟩ := asCall_ok e1
    have := hd1_ok e2
    subst this
    obtain ⟨h, h4⟩ := and2 h
    obtain ⟨h, h3⟩ := and2 h
    obtain ⟨h1, h2⟩ := and2 h
    have := of_decide_eq_true h1
    subst this
    cases tg <;> first | (cases h3; done) | skip
    exact ⟨si_enum (g.gl h2) (g.bn (by decide +kernel)) (sdE a g h4), fun _ _ => rfl⟩
  | .var _, _, _, _, _, _, _, h | .fz _, _, _, _, _, _, _, h | .mv _, _, _, _, _, _, _, h | .non, _, _, _, _, _, _, h | .bl _, _, _, _, _, _, _, h | .int _, _, _, _, _, _, _, h | .str _, _, _, _, _, _, _, h | .bin _ _ _, _, _, _, _, _, _, h | .neg _, _, _, _, _, _, _, h | .not _, _, _, _, _, _, _, h | .cmp _ _ _, _, _, _, _, _, _, h | .chn _ _ _ _ _, _, _, _, _, _, _, h | .and _ _, _, _, _, _, _, _, h | .or _ _, _, _, _, _, _, _, h | .ite _ _ _, _, _, _, _, _, _, h | .one _, _, _, _, _, _, _, h | .tst _, _, _, _, _, _, _, h | .tup _, _, _, _, _, _, _, h | .lst _, _, _, _, _, _, _, h | .idx _ _, _, _, _, _, _, _, h | .isi _ _, _, _, _, _, _, _, h | .call _ _, _, _, _, _, _, _, h | .blt _ _, _, _, _, _, _, _, h | .mut _ _ _, _, _, _, _, _, _, h | .comp _ _ _ _ _, _, _, _, _, _, _, h | .nil, _, _, _, _, _, _, h | .cons _ _, _, _, _, _, _, _, h | .tnm _, _, _, _, _, _, _, h | .ttup _, _, _, _, _, _, _, h | .tsub _ _, _, _, _, _, _, _, h | .asg _ _, _, _, _, _, _, _, h | .par _ _ _, _, _, _, _, _, _, h | .frz _, _, _, _, _, _, _, h | .slc _ _ _, _, _, _, _, _, _, h | .exs _, _, _, _, _, _, _, h | .lrng1 _, _, _, _, _, _, _, h | .lrng2 _ _, _, _, _, _, _, _, h | .ixm _ _, _, _, _, _, _, _, h | .par3 _ _ _ _, _, _, _, _, _, _, h | .ret _, _, _, _, _, _, _, h | .retN, _, _, _, _, _, _, h | .cond _ _ _, _, _, _, _, _, _, h | .for_ _ _ _, _, _, _, _, _, _, h | .whl _ _, _, _, _, _, _, _, h | .brk, _, _, _, _, _, _, h | .cnt, _, _, _, _, _, _, h | .pass, _, _, _, _, _, _, h => Bool.noConfusion (show false = true from h)
end
end
end Co

set_option maxRecDepth 100000
set_option maxHeartbeats 4000000
/-! CoreE: statements, defs, programs -/
namespace Co
open PySem PySem.Spec PyProof.Rows L2

theorem asAsg_ok {s : Stmt} {tg v : Expr} (h : asAsg s = some (tg, v)) : ∃ p, s = .Assign [tg] v p := by
  cases s <;> first | (cases h; done) | skip
  rename_i ts v' p
  rcases ts with _ | ⟨t, _ | ⟨t2, r⟩⟩ <;> first | (cases h; done) | skip
  cases h; exact ⟨_, rfl⟩
theorem asExp_ok {s : Stmt} {v : Expr} (h : asExp s = some v) : ∃ p, s = .Expr v p := by
  cases s <;> first | (cases h; done) | skip
  cases h; exact ⟨_, rfl⟩
theorem asRet_ok {s : Stmt} {v : Option Expr} (h : asRet s = some v) : ∃ p, s = .Return v p := by
  cases s <;> first | (cases h; done) | skip
  cases h; exact ⟨_, rfl⟩
theorem asIfS_ok {s : Stmt} {c : Expr} {a b : List Stmt} (h : asIfS s = some (c, a, b)) : ∃ p, s = .If c a b p := by
  cases s <;> first | (cases h; done) | skip
  cases h; exact ⟨_, rfl⟩
theorem asFor_ok {s : Stmt} {tg it : Expr} {bs : List Stmt} (h : asFor s = some (tg, it, bs)) : ∃ p, s = .For tg it bs [] p := by
  cases s <;> first | (cases h; done) | skip
  rename_i t i b o p
  cases o <;> first | (cases h; done) | skip
  cases h; exact ⟨_, rfl⟩
theorem asWhile_ok {s : Stmt} {c : Expr} {bs : List Stmt} (h : asWhile s = some (c, bs)) : ∃ p, s = .While c bs [] p := by
  cases s <;> first | (cases h; done) | skip
  rename_i c b o p
  cases o <;> first | (cases h; done) | skip
  cases h; exact ⟨_, rfl⟩
theorem hdS_ok {es : List Stmt} {a : Stmt} {r : List Stmt} (h : hdS es = some (a, r)) : es = a :: r := by
  cases es with
  | nil => cases h
  | cons x y => cases h; rfl
theorem par_sw {x y : Str} {px py pt : Pos} {a b : Expr} {kt k2 pt2} {env : PySem.Env} (hk : env.scope.kind = .function) (hx : env.scope.names.lookup x = some .local) (hy : env.scope.names.lookup y = some .local) (hne : x ≠ y) (hl : (px.line == py.line) = true)
    (h1 : starE a = false) (h1b : starE b = false) (h2 : [a, b].all (foldedForSure 8) = false) (h3 : [a, b].all (constantsAlone 8) = false) : swappedStores [.Tuple [.Name x px, .Name y py] kt pt] (.Tuple [a, b] k2 pt2) env = pure (some [x, y]) := by
  have kx : env.kindOf x = some .local := hx
  have ky : env.kindOf y = some .local := hy
  have hb : env.blockKind = .function := by unfold Env.blockKind; rw [hk]; rfl
  have hl' : py.line = px.line := by simpa using (beq_iff_eq.mp hl).symm
  have nd : ([x, y] : List Str).eraseDups.length = 2 := by
    rw [List.eraseDups_cons, List.filter_cons_of_pos (by simpa using Ne.symm hne)]
    rfl
  unfold swappedStores
  simp only [hb, h2, h3, List.length_cons, List.length_nil, List.filterMap_cons, List.filterMap_nil, List.head?_cons, Option.map_some, Option.getD_some, Expr.pos, kx, ky, hl']
  simp [nd]
  rintro (q | q)
  · cases a <;> first | (cases q; done) | (cases h1; done)
  · cases b <;> first | (cases q; done) | (cases h1b; done)
theorem parB_ok {N : List Str} {sc : Scope} {i j : Nat} {tg v : Expr} (h : parB N sc i j tg v = true) : ∃ x y px py kt pt a b k2 pt2, tg = .Tuple [.Name x px, .Name y py] kt pt ∧ v = .Tuple [a, b] k2 pt2 ∧ N[i]? = some x ∧ N[j]? = some y ∧ i ≠ j ∧ x ≠ y ∧ sc.names.lookup x = some .local ∧ sc.names.lookup y = some .local ∧ sc.kind = .function ∧ (px.line == py.line) = true ∧
    starE a = false ∧ starE b = false ∧ [a, b].all (foldedForSure 8) = false ∧ [a, b].all (constantsAlone 8) = false := by
  unfold parB at h
  split at h
  · obtain ⟨h, h11⟩ := and2 h
    obtain ⟨h, h10⟩ := and2 h
    obtain ⟨h, h9b⟩ := and2 h
    obtain ⟨h, h9⟩ := and2 h
    obtain ⟨h, h8⟩ := and2 h
    obtain ⟨h, h7⟩ := and2 h
    obtain ⟨h, h6⟩ := and2 h
    obtain ⟨h, h5⟩ := and2 h
    obtain ⟨h, h4⟩ := and2 h
    obtain ⟨h, h3⟩ := and2 h
    obtain ⟨h1, h2⟩ := and2 h
    exact ⟨_, _, _, _, _, _, _, _, _, _, rfl, rfl, of_decide_eq_true h1, of_decide_eq_true h2, of_decide_eq_true h3, of_decide_eq_true h4, of_decide_eq_true h5, of_decide_eq_true h6, of_decide_eq_true h7, h8, (Bool.not_eq_true' _).mp h9, (Bool.not_eq_true' _).mp h9b, (Bool.not_eq_true' _).mp h10, (Bool.not_eq_true' _).mp h11⟩
  · cases h
theorem fold_ns {tg : Expr} {vs : List Expr} {k : Nat} {p : Pos} {env : PySem.Env} (h : foldT (.Tuple vs k p) = true) : swappedStores [tg] (.Tuple vs k p) env = pure none := by
  have hb : vs.all (foldedForSure 8) = true := h
  cases tg <;> first | rfl | skip
  all_goals
    unfold swappedStores
    simp only [hb, if_true]
    repeat' split
    all_goals rfl
theorem par_sw3 {x y z : Str} {px py pz pt : Pos} {a b c : Expr} {kt k2 pt2} {env : PySem.Env} (hk : env.scope.kind = .function) (hx : env.scope.names.lookup x = some .local) (hy : env.scope.names.lookup y = some .local) (hz : env.scope.names.lookup z = some .local) (n1 : x ≠ y) (n2 : x ≠ z) (n3 : y ≠ z) (hl : (px.line == py.line) = true) (hl2 : (px.line == pz.line) = true)
    (h1 : starE a = false) (h1b : starE b = false) (h1c : starE c = false) (h2 : [a, b, c].all (foldedForSure 8) = false) (h3 : [a, b, c].all (constantsAlone 8) = false) : swappedStores [.Tuple [.Name x px, .Name y py, .Name z pz] kt pt] (.Tuple [a, b, c] k2 pt2) env = pure (some [x, y, z]) := by
  have kx : env.kindOf x = some .local := hx
  have ky : env.kindOf y = some .local := hy
  have kz : env.kindOf z = some .local := hz
  have hb : env.blockKind = .function := by unfold Env.blockKind; rw [hk]; rfl
  have hl' : py.line = px.line := by simpa using (beq_iff_eq.mp hl).symm
  have hl2' : pz.line = px.line := by simpa using (beq_iff_eq.mp hl2).symm
  have nd : ([x, y, z] : List Str).eraseDups.length = 3 := by
    rw [List.eraseDups_cons, List.filter_cons_of_pos (by simpa using Ne.symm n1), List.filter_cons_of_pos (by simpa using Ne.symm n2), List.filter_nil, List.eraseDups_cons, List.filter_cons_of_pos (by simpa using Ne.symm n3)]
    rfl
  unfold swappedStores
  simp only [hb, h2, h3, List.length_cons, List.length_nil, List.filterMap_cons, List.filterMap_nil, List.head?_cons, Option.map_some, Option.getD_some, Expr.pos, kx, ky, kz, hl', hl2']
  simp [nd]
  rintro (q | q | q)
  · cases a <;> first | (cases q; done) | (cases h1; done)
  · cases b <;> first | (cases q; done) | (cases h1b; done)
  · cases c <;> first | (cases q; done) | (cases h1c; done)
theorem parB3_ok {N : List Str} {sc : Scope} {i j l : Nat} {tg v : Expr} (h : parB3 N sc i j l tg v = true) : ∃ x y z px py pz kt pt a b c k2 pt2, tg = .Tuple [.Name x px, .Name y py, .Name z pz] kt pt ∧ v = .Tuple [a, b, c] k2 pt2 ∧ N[i]? = some x ∧ N[j]? = some y ∧ N[l]? = some z ∧ i ≠ j ∧ i ≠ l ∧ j ≠ l ∧ x ≠ y ∧ x ≠ z ∧ y ≠ z ∧
    sc.names.lookup x = some .local ∧ sc.names.lookup y = some .local ∧ sc.names.lookup z = some .local ∧ sc.kind = .function ∧ (px.line == py.line) = true ∧ (px.line == pz.line) = true ∧
    starE a = false ∧ starE b = false ∧ starE c = false ∧ [a, b, c].all (foldedForSure 8) = false ∧ [a, b, c].all (constantsAlone 8) = false := by
  unfold parB3 at h
  split at h
  · obtain ⟨h, h20⟩ := and2 h
    obtain ⟨h, h19⟩ := and2 h
    obtain ⟨h, h18⟩ := and2 h
    obtain ⟨h, h17⟩ := and2 h
    obtain ⟨h, h16⟩ := and2 h
    obtain ⟨h, h15⟩ := and2 h
    obtain ⟨h, h14⟩ := and2 h
    obtain ⟨h, h13⟩ := and2 h
    obtain ⟨h, h12⟩ := and2 h
    obtain ⟨h, h11⟩ := and2 h
    obtain ⟨h, h10⟩ := and2 h
    obtain ⟨h, h9⟩ := and2 h
    obtain ⟨h, h8⟩ := and2 h
    obtain ⟨h, h7⟩ := and2 h
    obtain ⟨h, h6⟩ := and2 h
    obtain ⟨h, h5⟩ := and2 h
    obtain ⟨h, h4⟩ := and2 h
    obtain ⟨h, h3⟩ := and2 h
    obtain ⟨h1, h2⟩ := and2 h
    exact ⟨_, _, _, _, _, _, _, _, _, _, _, _, _, rfl, rfl, of_decide_eq_true h1, of_decide_eq_true h2, of_decide_eq_true h3, of_decide_eq_true h4, of_decide_eq_true h5, of_decide_eq_true h6, of_decide_eq_true h7, of_decide_eq_true h8, of_decide_eq_true h9, of_decide_eq_true h10, of_decide_eq_true h11, of_decide_eq_true h12, of_decide_eq_true h13, h14, h15, (Bool.not_eq_true' _).mp h16, (Bool.not_eq_true' _).mp h17, (Bool.not_eq_true' _).mp h18, (Bool.not_eq_true' _).mp h19, (Bool.not_eq_true' _).mp h20⟩
  · cases h
theorem lcLine_ok {N : List Str} {sc : Scope} {tg v : Expr} {t : C} (h : lcLine N sc tg v t = true) : ∃ y py elt gs scope pos i, tg = .Name y py ∧ v = .ListComp elt gs scope pos ∧ t = .tnm i ∧ N[i]? = some y ∧ sc.names.lookup y = some .local ∧ (py.line == pos.line) = true ∧ (scope.names.any fun (n, k) => n == y && (k == .local || k == .cell)) = false ∧ sc.kind = .function := by
  unfold lcLine at h
  split at h
  · obtain ⟨h, h5⟩ := and2 h
    obtain ⟨h, h4⟩ := and2 h
    obtain ⟨h, h3⟩ := and2 h
    obtain ⟨h1, h2⟩ := and2 h
    exact ⟨_, _, _, _, _, _, _, rfl, rfl, rfl, of_decide_eq_true h1, of_decide_eq_true h2, h3, by simpa using h4, of_decide_eq_true h5⟩
  · cases h

section
variable {N nm : List Str} {Φ : Nat → List Sl → Option (D × List Sl)} {wf k : Nat}
theorem isLC_as {v : Expr} (h : isLC v = true) : ∃ elt gs scope pos, v = .ListComp elt gs scope pos := by
  cases v <;> first | (cases h; done) | exact ⟨_, _, _, _, rfl⟩
theorem lc_chk {c : C} {X : Cx} {sc : Scope} {fb : Str → Bool} {elt : Expr} {gs : List Comprehension} {scope : Scope} {pos : Pos} (g : GX N nm Φ k X sc fb) (hc : isCompC c = true) (h : chkE N nm c sc fb (.ListComp elt gs scope pos) = true) : CompOk X Φ wf (.ListComp elt gs scope pos) c := by
  cases c with
  | comp celt ctg src cond own =>
    simp only [chkE] at h
    obtain ⟨⟨elt', tg', iter', ifs', scope'⟩, e1, h⟩ := optB_ok h
    obtain ⟨p, e2⟩ := asLC_ok e1
    obtain ⟨h, h7⟩ := and2 h
    obtain ⟨h, h6⟩ := and2 h
    obtain ⟨h, h5⟩ := and2 h
    obtain ⟨h, h4⟩ := and2 h
    obtain ⟨h, h3⟩ := and2 h
    obtain ⟨h1, h2⟩ := and2 h
    rw [e2]
    exact comp_mk g (sdI src g h1).pi h2 (of_decide_eq_true h3) h4 (fun s H C cl fp => sdG ctg (g.blk s H C cl fp) h5) (fun s H C cl fp => sdC cond (g.blk s H C cl fp) h6) (fun s H C cl fp => (sdE celt (g.blk s H C cl fp) h7).pe) ((sdI (wf := wf) src g h1).fs _)
  | _ => cases hc
theorem filt_lt {α β : Type} {f : α → Option β} : ∀ {l : List α}, (∃ a ∈ l, f a = none) → (l.filterMap f).length < l.length
  | [], h => by obtain ⟨a, ha, _⟩ := h; cases ha
  | a :: l, h => by
    cases e : f a with
    | none =>
      rw [List.filterMap_cons_none e, List.length_cons]
      have := List.length_filterMap_le f l
      omega
    | some b =>
      rw [List.filterMap_cons_some e, List.length_cons, List.length_cons]
      obtain ⟨x, hx, hn⟩ := h
      rcases List.mem_cons.mp hx with rfl | hx
      · rw [e] at hn; cases hn
      · have := filt_lt (l := l) ⟨x, hx, hn⟩
        omega
theorem mix_ns {tg : Expr} {vs : List Expr} {k : Nat} {p : Pos} {env : PySem.Env} (h : mixT env.scope tg = true) : swappedStores [tg] (.Tuple vs k p) env = pure none := by
  cases tg <;> first | (cases h; done) | skip
  rename_i ts kt pt
  have h : ts.any (mixN env.scope) = true := h
  obtain ⟨a, ha, hm⟩ := List.any_eq_true.mp h
  have hn : ∀ line : Nat, (match a with
    | .Name id pos => if env.kindOf id == some .local && pos.line == line then some id else none
    | _ => none) = none := by
    intro line
    cases a <;> first | (cases hm; done) | skip
    rename_i x px
    have hm : (!decide (env.scope.names.lookup x = some .local)) = true := hm
    have : (env.kindOf x == some .local) = false := by
      have q : ¬ env.scope.names.lookup x = some .local := by simpa using hm
      cases e : (env.kindOf x == some .local) with
      | false => rfl
      | true => exact absurd (beq_iff_eq.mp e) q
    show (if (env.kindOf x == some .local && px.line == line) = true then some x else none) = none
    rw [this]
    rfl
  unfold swappedStores
  simp only
  split
  · rfl
  · split
    · rfl
    · rw [if_pos]
      have := filt_lt (f := fun (e : Expr) => match e with
        | .Name id pos => if env.kindOf id == some .local && pos.line == ((ts.head?.map (·.pos.line)).getD 0) then some id else none
        | _ => none) (l := ts) ⟨a, ha, hn _⟩
      rw [Bool.or_eq_true]
      left
      simp only [bne_iff_ne, ne_eq]
      exact Nat.ne_of_lt this
theorem sw_cell {tg v : Expr} {l : Nat} {env : PySem.Env} (hv : isLC v = true) (h : lcCell env.scope tg = true) : swapsWith v (some tg) l env = pure false := by
  cases v <;> first | (cases hv; done) | skip
  cases tg <;> first | (cases h; done) | skip
  rename_i y py
  have h : (!decide (env.scope.names.lookup y = some .local)) = true := h
  have : (env.kindOf y == some .local) = false := by
    have q : ¬ env.scope.names.lookup y = some .local := by simpa using h
    cases e : (env.kindOf y == some .local) with
    | false => rfl
    | true => exact absurd (beq_iff_eq.mp e) q
  unfold swapsWith
  simp only [this, Bool.and_false, Bool.false_and]
theorem ns_lc {tg v : Expr} {env : PySem.Env} (hv : isLC v = true) : swappedStores [tg] v env = pure none := by
  cases v <;> first | (cases hv; done) | skip
  cases tg <;> rfl
theorem asg_ok {X : Cx} {sc : Scope} {fb : Str → Bool} {tg v : Expr} {t e : C} {pos : Pos} (g : GX N nm Φ k X sc fb) (h1 : chkG N nm t sc fb tg = true) (h2 : chkE N nm e sc fb v = true) (h3 : (if isLC v then (lcLine N sc tg v t && isCompC e || lcCell sc tg) else (!(tupleE v && (tupleE tg || listE tg)) || bigT tg || foldT v || mixT sc tg)) = true) : SS X Φ wf (.Assign [tg] v pos) (.asg t e) := by
  by_cases hv : isLC v = true
  · rw [if_pos hv] at h3
    rcases Bool.or_eq_true_iff.mp h3 with h3 | h3
    case inr =>
      have hs := sdE (wf := wf) e g h2
      have hg := sdG (wf := wf) t g h1
      have ha : (assignEach [tg] X.env).map (·.2) = [assign tg X.env] := by rw [asg_each h1]; rfl
      exact PS.weak (ps_asg hs.pe hg (sw_cell hv (by rw [g.sc]; exact h3)) (ns_lc hv) ha) fun D0 σ H h => asg_red h
    obtain ⟨h3, h9⟩ := and2 h3
    obtain ⟨y, py, elt, gs, scope, p, i, rfl, rfl, rfl, q1, q2, q3, q4, q5⟩ := lcLine_ok h3
    obtain ⟨elt', tg', iter', ifs', scope', pos', celt, ctg, csrc, ccond, own, e1, rfl, a1, a2, a3, a4, a5, a6, a7, a8⟩ := lc_chk (wf := wf) g h9 h2
    injection e1 with b1 b2 b3 b4
    subst b1 b2 b3 b4
    exact ss_setLc g.calm (by rw [g.hN]; exact g.nd) (by rw [g.hN]; exact q1) (by rw [g.sc]; exact q2) (sw_true (by rw [g.sc]; exact q5) (by rw [g.sc]; exact q2) q3 q4) a1 a2 a3 a4 a5 a6 a7 a8
  · rw [if_neg hv] at h3
    have hv : isLC v = false := by simpa using hv
    have hs := sdE (wf := wf) e g h2
    have hg := sdG (wf := wf) t g h1
    have ha : (assignEach [tg] X.env).map (·.2) = [assign tg X.env] := by rw [asg_each h1]; rfl
    by_cases ht : isTupE v = true
    · refine ss_asgT hs hv ?_ hg ha
      cases v <;> first | (cases ht; done) | skip
      rcases Bool.or_eq_true_iff.mp h3 with q3 | q3
      · clear h3
        cases tg <;> first | rfl | (cases q3; done) | exact fold_ns q3 | skip
        rcases Bool.or_eq_true_iff.mp q3 with hb | hb
        · rename_i elts _ _ ts _ _
          have hb : (!(ts.length == 2 || ts.length == 3)) = true := hb
          unfold swappedStores
          simp only [hb, Bool.true_or, if_true]
        · exact fold_ns hb
      · exact mix_ns (by rw [g.sc]; exact q3)
    · exact ss_asg hs hv (by simpa using ht) hg ha
set_option maxRecDepth 100000 in
mutual
theorem sdS : ∀ (c : C) {X : Cx} {sc : Scope} {fb : Str → Bool} {s : Stmt}, GX N nm Φ k X sc fb → chkS N nm c sc fb s = true → SS X Φ wf s c
  | .asg t e, X, sc, fb, s, g, h => by
    simp only [chkS] at h
    obtain ⟨⟨tg, v⟩, e1, h⟩ := optB_ok h
    obtain ⟨p, rfl⟩ := asAsg_ok e1
    obtain ⟨h, h3⟩ := and2 h
    obtain ⟨h1, h2⟩ := and2 h
    exact asg_ok g h1 h2 h3
  | .par i j es, X, sc, fb, s, g, h => by
    simp only [chkS] at h
    obtain ⟨⟨tg, v⟩, e1, h'⟩ := optB_ok h
    clear h
    obtain ⟨vs, e2, h⟩ := optB_ok h'
    clear h'
    obtain ⟨p, rfl⟩ := asAsg_ok e1
    obtain ⟨h1, h2⟩ := and2 h
    obtain ⟨x, y, px, py, kt, pt, a, b, k2, pt2, rfl, rfl, q1, q2, q3, q4, q5, q6, q7, q8, q9, q9b, q10, q11⟩ := parB_ok h1
    cases e2
    exact ss_par g.calm (by rw [g.hN]; exact g.nd) (by rw [g.hN]; exact q1) (by rw [g.hN]; exact q2) q3 (by rw [g.sc]; exact q5) (by rw [g.sc]; exact q6) (sdA es g h2) (par_sw (by rw [g.sc]; exact q7) (by rw [g.sc]; exact q5) (by rw [g.sc]; exact q6) q4 q8 q9 q9b q10 q11)
  | .par3 i j l es, X, sc, fb, s, g, h => by
    simp only [chkS] at h
    obtain ⟨⟨tg, v⟩, e1, h'⟩ := optB_ok h
    clear h
    obtain ⟨vs, e2, h⟩ := optB_ok h'
    clear h'
    obtain ⟨p, rfl⟩ := asAsg_ok e1
    obtain ⟨h1, h2⟩ := and2 h
    obtain ⟨x, y, z, px, py, pz, kt, pt, a, b, c, k2, pt2, rfl, rfl, q1, q2, q3, n1, n2, n3, n4, n5, n6, m1, m2, m3, hk, l1, l2, s1, s2, s3, t1, t2⟩ := parB3_ok h1
    cases e2
    exact ss_par3 g.calm (by rw [g.hN]; exact g.nd) (by rw [g.hN]; exact q1) (by rw [g.hN]; exact q2) (by rw [g.hN]; exact q3) n1 n2 n3 (by rw [g.sc]; exact m1) (by rw [g.sc]; exact m2) (by rw [g.sc]; exact m3) (sdA es g h2) (par_sw3 (by rw [g.sc]; exact hk) (by rw [g.sc]; exact m1) (by rw [g.sc]; exact m2) (by rw [g.sc]; exact m3) n4 n5 n6 l1 l2 s1 s2 s3 t1 t2)
  | .exs e, X, sc, fb, s, g, h => by
    simp only [chkS] at h
    obtain ⟨v, e1, h⟩ := optB_ok h
    obtain ⟨p, rfl⟩ := asExp_ok e1
    obtain ⟨h1, h2⟩ := and2 h
    exact ss_exs (sdE e g h2) (by simpa using h1)
  | .ret e, X, sc, fb, s, g, h => by
    simp only [chkS] at h
    obtain ⟨v, e1, h'⟩ := optB_ok h
    clear h
    obtain ⟨v', e2, h⟩ := optB_ok h'
    clear h'
    subst e2
    obtain ⟨p, rfl⟩ := asRet_ok e1
    exact ss_ret (sdE e g h)
  | .retN, X, sc, fb, s, g, h => by
    simp only [chkS] at h
    obtain ⟨v, e1, h⟩ := optB_ok h
    obtain ⟨p, rfl⟩ := asRet_ok e1
    cases v with
    | none => exact ss_retN
    | some v => cases h
  | .cond c a b, X, sc, fb, s, g, h => by
    simp only [chkS] at h
    obtain ⟨⟨c', a', b'⟩, e1, h⟩ := optB_ok h
    obtain ⟨p, rfl⟩ := asIfS_ok e1
    obtain ⟨h, h3⟩ := and2 h
    obtain ⟨h1, h2⟩ := and2 h
    exact ss_if (sdT c g h1) (sdB a g h2) (sdB b g h3)
  | .for_ t src body, X, sc, fb, s, g, h => by
    simp only [chkS] at h
    obtain ⟨⟨tg, it, bs⟩, e1, h⟩ := optB_ok h
    obtain ⟨p, rfl⟩ := asFor_ok e1
    obtain ⟨h, h3⟩ := and2 h
    obtain ⟨h1, h2⟩ := and2 h
    exact ss_for g.xe g.calm (sdI src g h2).pi (sdG t g h1) (sdB body g h3) ((sdI (wf := wf) src g h2).fs _)
  | .whl c body, X, sc, fb, s, g, h => by
    simp only [chkS] at h
    obtain ⟨⟨c', bs⟩, e1, h⟩ := optB_ok h
    obtain ⟨p, rfl⟩ := asWhile_ok e1
    obtain ⟨h1, h2⟩ := and2 h
    exact ss_while g.xe (sdT c g h1) (sdB body g h2)
  | .brk, X, sc, fb, s, g, h => by
    simp only [chkS] at h
    cases s <;> first | (cases h; done) | exact ss_brk
  | .cnt, X, sc, fb, s, g, h => by
    simp only [chkS] at h
    cases s <;> first | (cases h; done) | exact ss_cnt
  | .pass, X, sc, fb, s, g, h => by
    simp only [chkS] at h
    cases s <;> first | (cases h; done) | exact ss_pass
  | .var _, _, _, _, _, _, h | .fz _, _, _, _, _, _, h | .mv _, _, _, _, _, _, h | .non, _, _, _, _, _, h | .bl _, _, _, _, _, _, h | .int _, _, _, _, _, _, h | .str _, _, _, _, _, _, h | .bin _ _ _, _, _, _, _, _, h | .neg _, _, _, _, _, _, h | .not _, _, _, _, _, _, h | .cmp _ _ _, _, _, _, _, _, h | .chn _ _ _ _ _, _, _, _, _, _, h | .and _ _, _, _, _, _, _, h | .or _ _, _, _, _, _, _, h | .ite _ _ _, _, _, _, _, _, h | .one _, _, _, _, _, _, h | .tst _, _, _, _, _, _, h | .tup _, _, _, _, _, _, h | .lst _, _, _, _, _, _, h | .idx _ _, _, _, _, _, _, h | .isi _ _, _, _, _, _, _, h | .call _ _, _, _, _, _, _, h | .blt _ _, _, _, _, _, _, h | .mut _ _ _, _, _, _, _, _, h | .comp _ _ _ _ _, _, _, _, _, _, h | .nil, _, _, _, _, _, h | .cons _ _, _, _, _, _, _, h | .tnm _, _, _, _, _, _, h | .ttup _, _, _, _, _, _, h | .tsub _ _, _, _, _, _, _, h | .frz _, _, _, _, _, _, h | .lrng1 _, _, _, _, _, _, h | .lrng2 _ _, _, _, _, _, _, h | .ixm _ _, _, _, _, _, _, h | .slc _ _ _, _, _, _, _, _, h | .sseq _, _, _, _, _, _, h | .srng _, _, _, _, _, _, h | .senum _, _, _, _, _, _, h => Bool.noConfusion (show false = true from h)
theorem sdB : ∀ (c : C) {X : Cx} {sc : Scope} {fb : Str → Bool} {ss : List Stmt}, GX N nm Φ k X sc fb → chkB N nm c sc fb ss = true → SB X Φ wf ss c
  | .nil, X, sc, fb, ss, g, h => by
    simp only [chkB] at h
    have := empty_ok h
    subst this
    exact sb_nil
  | .cons a r, X, sc, fb, ss, g, h => by
    simp only [chkB] at h
    obtain ⟨⟨s, ss'⟩, e1, h⟩ := optB_ok h
    have := hdS_ok e1
    subst this
    obtain ⟨h1, h2⟩ := and2 h
    exact sb_cons (sdS a g h1) (sdB r g h2)
  | .var _, _, _, _, _, _, h | .fz _, _, _, _, _, _, h | .mv _, _, _, _, _, _, h | .non, _, _, _, _, _, h | .bl _, _, _, _, _, _, h | .int _, _, _, _, _, _, h | .str _, _, _, _, _, _, h | .bin _ _ _, _, _, _, _, _, h | .neg _, _, _, _, _, _, h | .not _, _, _, _, _, _, h | .cmp _ _ _, _, _, _, _, _, h | .chn _ _ _ _ _, _, _, _, _, _, h | .and _ _, _, _, _, _, _, h | .or _ _, _, _, _, _, _, h | .ite _ _ _, _, _, _, _, _, h | .one _, _, _, _, _, _, h | .tst _, _, _, _, _, _, h | .tup _, _, _, _, _, _, h | .lst _, _, _, _, _, _, h | .idx _ _, _, _, _, _, _, h | .isi _ _, _, _, _, _, _, h | .call _ _, _, _, _, _, _, h | .blt _ _, _, _, _, _, _, h | .mut _ _ _, _, _, _, _, _, h | .comp _ _ _ _ _, _, _, _, _, _, h | .tnm _, _, _, _, _, _, h | .ttup _, _, _, _, _, _, h | .tsub _ _, _, _, _, _, _, h | .sseq _, _, _, _, _, _, h | .srng _, _, _, _, _, _, h | .senum _, _, _, _, _, _, h | .asg _ _, _, _, _, _, _, h | .par _ _ _, _, _, _, _, _, h | .frz _, _, _, _, _, _, h | .slc _ _ _, _, _, _, _, _, h | .exs _, _, _, _, _, _, h | .lrng1 _, _, _, _, _, _, h | .lrng2 _ _, _, _, _, _, _, h | .ixm _ _, _, _, _, _, _, h | .par3 _ _ _ _, _, _, _, _, _, h | .ret _, _, _, _, _, _, h | .retN, _, _, _, _, _, h | .cond _ _ _, _, _, _, _, _, h | .for_ _ _ _, _, _, _, _, _, h | .whl _ _, _, _, _, _, _, h | .brk, _, _, _, _, _, h | .cnt, _, _, _, _, _, h | .pass, _, _, _, _, _, h => Bool.noConfusion (show false = true from h)
end
end
end Co

set_option maxRecDepth 100000
set_option maxHeartbeats 4000000
/-! CoreF: defs, programs -/
namespace Co
open PySem PySem.Spec PyProof.Rows L2

def scopeB (N ps : List Str) (sc : Scope) : Bool := decide (sc.kind = .function) && !sc.isCoroutine && !sc.isGenerator && decide N.Nodup && decide (N.take ps.length = ps) && ps.all (fun x => decide (sc.names.lookup x = some .local) || decide (sc.names.lookup x = some .cell)) && sc.names.all (fun y => decide (y.2 ≠ .free))
theorem scopeB_ok {N ps : List Str} {sc : Scope} (h : scopeB N ps sc = true) : FnScope N ps sc := by
  unfold scopeB at h
  obtain ⟨h, h7⟩ := and2 h
  obtain ⟨h, h6⟩ := and2 h
  obtain ⟨h, h5⟩ := and2 h
  obtain ⟨h, h4⟩ := and2 h
  obtain ⟨h, h3⟩ := and2 h
  obtain ⟨h1, h2⟩ := and2 h
  refine ⟨of_decide_eq_true h1, by simpa using h2, by simpa using h3, of_decide_eq_true h4, of_decide_eq_true h5, fun x hx => ?_, fun y hy => ?_⟩
  · have := List.all_eq_true.mp h6 x hx
    simpa [Bool.or_eq_true, decide_eq_true_eq] using this
  · exact of_decide_eq_true (List.all_eq_true.mp h7 y hy)
/-- a def's text against its core term -/
def chkD (nm : List Str) (N ps : List Str) (Fi : Fn) (scope : Scope) (body : List Stmt) : Bool := scopeB N ps scope && decide (Fi.np = ps.length) && decide (Fi.ns = N.length) && chkB N nm Fi.body scope (fun _ => true) body

section
variable {K : PySem.W.Frag} {F F' : Addr → Prop} {H H' : Hp}
theorem SR.pad : ∀ {as : List Sl} {σ : List (Option V)} {O : List Addr} (n : Nat), SR K F H as σ O → SR K F H (as ++ List.replicate n .no) (σ ++ List.replicate n none) O
  | [], σ, O, n, h => by
    obtain ⟨rfl, rfl⟩ := h
    induction n with
    | zero => exact ⟨rfl, rfl⟩
    | succ n ih => exact ⟨none, _, [], [], by rw [List.replicate_succ]; rfl, rfl, ih, rfl⟩
  | s :: as, σ, O, n, h => by
    obtain ⟨ov, σ', O1, O2, e, h1, h2, e2⟩ := h
    exact ⟨ov, _, O1, O2, by rw [e]; rfl, h1, SR.pad n h2, e2⟩
theorem outs_ok : ∀ {as ρ : List Sl} {ws σ : List (Option V)} {O : List Addr}, SR K F H ρ σ O → ws.length = as.length → as.length ≤ ρ.length →
    (∀ (i : Nat) (d : D), as[i]? = some (Sl.bo d) → (∃ d' : D, ρ[i]? = some (Sl.bo d')) ∧ σ[i]? = ws[i]?) → (∀ (i : Nat) (d : D), as[i]? = some (Sl.lk d) → ρ[i]? = some (Sl.lk d) ∧ σ[i]? = ws[i]?) →
    ∃ O2, SR K F H (outs as ρ) ws O2 ∧ O2.Sublist O ∧ Ko as (outs as ρ)
  | [], ρ, ws, σ, O, sr, hw, hl, hb, hk => by
    cases ws with
    | nil => exact ⟨[], ⟨rfl, rfl⟩, List.nil_sublist _, .nil⟩
    | cons a b => cases hw
  | a :: as, [], ws, σ, O, sr, hw, hl, hb, hk => by simp at hl
  | a :: as, s :: ρ, [], σ, O, sr, hw, hl, hb, hk => by cases hw
  | a :: as, s :: ρ, w :: ws, σ, O, sr, hw, hl, hb, hk => by
    obtain ⟨ov, σ', O1, O2, e, h1, h2, e2⟩ := sr
    subst e
    subst e2
    obtain ⟨O3, q1, q2, q3⟩ := outs_ok (as := as) (ws := ws) h2 (by simpa using hw) (by simpa using hl) (fun i d h => by simpa using hb (i + 1) d (by simpa using h)) (fun i d h => by simpa using hk (i + 1) d (by simpa using h))
    cases a with
    | no => exact ⟨O3, ⟨w, ws, [], O3, rfl, rfl, q1, rfl⟩, q2.trans (List.sublist_append_right _ _), .no q3⟩
    | v d => exact ⟨O3, ⟨w, ws, [], O3, rfl, rfl, q1, rfl⟩, q2.trans (List.sublist_append_right _ _), .v q3⟩
    | bo d =>
      obtain ⟨⟨d', z⟩, y⟩ := hb 0 d rfl
      have z : s = .bo d' := by simpa using z
      have y : ov = w := by simpa using y
      subst z y
      exact ⟨O1 ++ O3, ⟨ov, ws, O1, O3, rfl, h1, q1, rfl⟩, q2.append_left O1, .bo q3⟩
    | lk d =>
      obtain ⟨z, y⟩ := hk 0 d rfl
      have z : s = .lk d := by simpa using z
      have y : ov = w := by simpa using y
      subst z y
      exact ⟨O1 ++ O3, ⟨ov, ws, O1, O3, rfl, h1, q1, rfl⟩, q2.append_left O1, .lk q3⟩
theorem outs_all {as ρ : List Sl} {vs : List V} {n : Nat} {σ : L2.St} {O : List Addr} (sr : SR K F H ρ σ O) (hl : vs.length = as.length) (kp : Kp (as ++ List.replicate n .no) ρ) (ks : Ks (as ++ List.replicate n .no) (vs.map some ++ List.replicate n none) σ) :
    ∃ O2, SR K F H (outs as ρ) (vs.map some) O2 ∧ O2.Sublist O ∧ Ko as (outs as ρ) := by
  have hin : ∀ {i : Nat} {s : Sl}, as[i]? = some s → (as ++ List.replicate n .no)[i]? = some s := fun {i s} h => by
    rw [List.getElem?_append_left (List.getElem?_eq_some_iff.mp h).1]; exact h
  have hi2 : ∀ {i : Nat} {s : Sl}, as[i]? = some s → (vs.map some ++ List.replicate n (none : Option V))[i]? = (vs.map some)[i]? := fun {i s} h => by
    have := (List.getElem?_eq_some_iff.mp h).1
    rw [List.getElem?_append_left (by simp; omega)]
  refine outs_ok sr (by simpa using hl) (by rw [kp.len]; simp) (fun i d h => ?_) fun i d h => ?_
  · exact ⟨kp.bo i d (hin h), (ks i (.inl ⟨d, hin h⟩)).trans (hi2 h)⟩
  · exact ⟨kp.lk i d (hin h), (ks i (.inr ⟨d, hin h⟩)).trans (hi2 h)⟩
theorem Wd.sl {O O2 P : List Addr} (w : Wd F H (O ++ P)) (h : O2.Sublist O) : Wd F H (O2 ++ P) := w.sub (h.append (List.Sublist.refl P))
end

section
variable {P : Program} {w : World} {K : PySem.W.Frag} {mg : Str → Option Value} {base : Heap}
theorem spF_len {np ns : Nat} {body : C} {T : List Fn} {wf k f : Nat} {vs : List V} {H : Hp} {Q : VK} {E : XK} (hT : T[f]? = some ⟨np, ns, body⟩) (h : spF K (evF T wf k f) vs H Q E) : vs.length = np := by
  obtain ⟨F, as, O, d, os, sr, wd, e, _⟩ := h
  have := SR.length sr
  cases k with
  | zero => simp only [evF] at e; cases e
  | succ k =>
    simp only [evF] at e
    rw [hT] at e
    simp only at e
    split at e
    · rename_i hl
      rw [List.length_map] at this
      exact this.trans hl
    · cases e
theorem fn_step {nm : List Str} {T : List Fn} {wf k fi : Nat} {x qual : Str} {params : Arguments} {body : List Stmt} {scope : Scope} {dvs : List V} {kws : List (Str × V)} {f : Addr} {fd : FuncData} (F : FunD K x qual params body scope dvs kws f fd) {N ps : List Str} {Fi : Fn} (hT : T[fi]? = some Fi) (hc : chkD nm N ps Fi scope body = true)
    (hblt : ∀ x ∈ bltNames, mg x = none) (hd : ∀ j y, nm[j]? = some y → ∃ f fd ps, mg y = some (.ref f) ∧ FnOk P w K mg base CX0 (k + 1) f fd ps (spF K (evF T wf k j)) ∧ PySem.W.keepIn K (.ref f) = true ∧ Binds K fd ps []) :
    FnOk P w K mg base CX0 (k + 2) f fd ps (spF K (evF T wf (k + 1) fi)) := by
  obtain ⟨np, ns, bc⟩ := Fi
  unfold chkD at hc
  obtain ⟨hc, h4⟩ := and2 hc
  obtain ⟨hc, h3⟩ := and2 hc
  obtain ⟨h1, h2⟩ := and2 hc
  have S := scopeB_ok h1
  have h2 : np = ps.length := of_decide_eq_true h2
  have h3 : ns = N.length := of_decide_eq_true h3
  refine F.ok S (fun vs H Q E h => (spF_len hT h).trans h2) fun cdv A outer s H vs Q E hr hsp => ?_
  have g : GX N nm (evF T wf k) k (cxOf CX0 P w K mg base N qual scope f cdv A outer s H E).nox scope (fun _ => true) := ⟨rfl, rfl, rfl, rfl, S.nd, fun _ _ => rfl, hr, hblt, fun j y h => ⟨hd j y h⟩⟩
  refine ⟨_, (sdB (wf := wf) bc g h4).nox, ?_⟩
  obtain ⟨Fz, as, O, d, os, sr, wd, e, post⟩ := hsp
  simp only [evF] at e
  rw [hT] at e
  simp only at e
  split at e
  · rename_i hl
    have hvl : vs.length = as.length := by have := SR.length sr; simpa using this
    have est : L2.start N vs = vs.map some ++ List.replicate (ns - np) none := by
      unfold L2.start
      rw [h3, hvl, hl]
    have post2 : ∀ {ρ σ' F' H' O'}, SR K F' H' ρ σ' O' → Kp (as ++ List.replicate (ns - np) .no) ρ → Ks (as ++ List.replicate (ns - np) .no) (L2.start N vs) σ' → os = outs as ρ → ∃ O2, SR K F' H' os (vs.map some) O2 ∧ O2.Sublist O' ∧ Ko as os := by
      intro ρ σ' F' H' O' a b c e
      subst e
      rw [est] at c
      exact outs_all a hvl b c
    split at e
    · rename_i ρ eb
      cases e
      refine ⟨Fz, _, O, _, by rw [est]; exact SR.pad _ sr, wd, eb, fun σ' F' H' O' st sr' wd' kp ks => ?_⟩
      obtain ⟨O2, a, b, c⟩ := post2 sr' kp ks rfl
      refine post .non F' H' O2 [] (Stp.sub st fun x hx => ?_) a nonV (Wd.sl (nil_w wd') b) c
      rw [List.append_nil] at hx
      exact b.subset hx
    · rename_i dd ρ eb
      cases e
      refine ⟨Fz, _, O, _, by rw [est]; exact SR.pad _ sr, wd, eb, fun σ' v F' H' O' P st sr' vr wd' kp ks => ?_⟩
      obtain ⟨O2, a, b, c⟩ := post2 sr' kp ks rfl
      refine post v F' H' O2 P (Stp.sub st fun x hx => ?_) a vr (Wd.sl wd' b) c
      exact (b.append (List.Sublist.refl P)).subset hx
    · cases e
  · cases e
theorem fn_zero {nm : List Str} {T : List Fn} {wf fi : Nat} {x qual : Str} {params : Arguments} {body : List Stmt} {scope : Scope} {dvs : List V} {kws : List (Str × V)} {f : Addr} {fd : FuncData} (F : FunD K x qual params body scope dvs kws f fd) {N ps : List Str} {Fi : Fn} (hc : chkD nm N ps Fi scope body = true) :
    FnOk P w K mg base CX0 1 f fd ps (spF K (evF T wf 0 fi)) := by
  unfold chkD at hc
  obtain ⟨hc, h4⟩ := and2 hc
  obtain ⟨hc, h3⟩ := and2 hc
  obtain ⟨h1, h2⟩ := and2 hc
  have no : ∀ vs H Q E, ¬ spF K (evF T wf 0 fi) vs H Q E := fun vs H Q E h => by
    obtain ⟨Fz, as, O, d, os, sr, wd, e, post⟩ := h
    simp only [evF] at e
    cases e
  exact F.ok (scopeB_ok h1) (fun vs H Q E h => (no _ _ _ _ h).elim) fun cdv A outer s H vs Q E hr hsp => (no _ _ _ _ hsp).elim
/-- a def in the module -/
def InMod (K : PySem.W.Frag) (mg : Str → Option Value) (nm : List Str) (T : List Fn) (j : Nat) (y : Str) : Prop :=
  ∃ x qual params body scope dvs kws f fd N ps Fi, FunD K x qual params body scope dvs kws f fd ∧ T[j]? = some Fi ∧ chkD nm N ps Fi scope body = true ∧ mg y = some (.ref f) ∧ Binds K fd ps []
theorem prog_ok {nm : List Str} {T : List Fn} {wf : Nat} (hblt : ∀ x ∈ bltNames, mg x = none) (all : ∀ j y, nm[j]? = some y → InMod K mg nm T j y) : ∀ k j y, nm[j]? = some y → ∃ f fd ps, mg y = some (.ref f) ∧ FnOk P w K mg base CX0 (k + 1) f fd ps (spF K (evF T wf k j)) ∧ PySem.W.keepIn K (.ref f) = true ∧ Binds K fd ps []
  | 0, j, y, h => by
    obtain ⟨x, qual, params, body, scope, dvs, kws, f, fd, N, ps, Fi, F, hT, hc, hm, hb⟩ := all j y h
    exact ⟨f, fd, ps, hm, fn_zero F hc, F.kp, hb⟩
  | k + 1, j, y, h => by
    obtain ⟨x, qual, params, body, scope, dvs, kws, f, fd, N, ps, Fi, F, hT, hc, hm, hb⟩ := all j y h
    exact ⟨f, fd, ps, hm, fn_step F hT hc hblt (prog_ok hblt all k), F.kp, hb⟩
/-- the law's def -/
theorem law_ok {nm : List Str} {T : List Fn} {wf k fi : Nat} {x qual : Str} {params : Arguments} {body : List Stmt} {scope : Scope} {dvs : List V} {kws : List (Str × V)} {f : Addr} {fd : FuncData} (F : FunD K x qual params body scope dvs kws f fd) {N ps : List Str} {Fi : Fn} (hT : T[fi]? = some Fi) (hc : chkD nm N ps Fi scope body = true)
    (hblt : ∀ x ∈ bltNames, mg x = none) (all : ∀ j y, nm[j]? = some y → InMod K mg nm T j y)
    (h : ∀ (d : D) (ns : List Int), d = .ro (ns.map D.int) ∨ d = .lst (ns.map D.int) → ∃ os, evF T wf (k + 1) fi [.v d] = some (.bl true, os)) :
    FnOk P w K mg base CX0 (k + 2) f fd ps (fun vs H Q _ => ∃ (a : Addr) (ns : List Int), vs = [.ref a] ∧ SqL K H a (ns.map V.int) ∧ ∀ H', Q (.bl true) H') := by
  have FO := fn_step (P := P) (w := w) (base := base) F hT hc hblt (prog_ok (wf := wf) hblt all k)
  have sub : ∀ vs H Q E, (∃ (a : Addr) (ns : List Int), vs = [.ref a] ∧ SqL K H a (ns.map V.int) ∧ ∀ H', Q (.bl true) H') → spF K (evF T wf (k + 1) fi) vs H Q E := by
    rintro vs H Q E ⟨a, ns, rfl, hs, hq⟩
    have hv : ∀ (Fz : Addr → Prop) (ms : List Int), VRL K Fz H (ms.map D.int) (ms.map V.int) [] := by
      intro Fz ms
      induction ms with
      | nil => show VRL K Fz H [] [] []; unfold VRL; exact ⟨rfl, rfl⟩
      | cons m ms ih => simp only [List.map_cons, VRL]; exact ⟨.int m, ms.map V.int, [], [], rfl, by unfold VR; exact ⟨rfl, rfl⟩, ih, rfl⟩
    have fin : ∀ (Fz : Addr → Prop) (d : D), (d = .ro (ns.map D.int) ∨ d = .lst (ns.map D.int)) → (∀ b, Fz b → ∃ xs, H b = some (.lst xs)) → VR K Fz H d (.ref a) [] → spF K (evF T wf (k + 1) fi) [.ref a] H Q E := by
      intro Fz d hd hf hvr
      obtain ⟨os, e⟩ := h d ns hd
      refine ⟨Fz, [.v d], [], .bl true, os, ⟨some (.ref a), [], [], [], rfl, ⟨.ref a, rfl, hvr⟩, ⟨rfl, rfl⟩, rfl⟩, ⟨List.nodup_nil, fun _ z => (nomatch z), fun _ z => (nomatch z), hf⟩, e, fun v F' H' O' P _ _ vr _ _ => ?_⟩
      unfold VR at vr
      rw [vr.1]
      exact hq H'
    rcases hs with (hs | hs) | hs
    · refine fin (fun b => b = a) (.lst (ns.map D.int)) (.inr rfl) (fun b hb => ⟨ns.map V.int, (congrArg H hb).trans hs⟩) ?_
      unfold VR
      exact ⟨a, _, rfl, rfl, hs, hv _ _, rfl⟩
    · refine fin (fun _ => False) (.ro (ns.map D.int)) (.inl rfl) (fun b hb => hb.elim) ?_
      unfold VR
      exact ⟨a, _, rfl, .inl hs, hv _ _, rfl⟩
    · refine fin (fun _ => False) (.ro (ns.map D.int)) (.inl rfl) (fun b hb => hb.elim) ?_
      unfold VR
      exact ⟨a, _, rfl, .inr hs, hv _ _, rfl⟩
  exact ⟨fun vs H Q E z => FO.len vs H Q E (sub vs H Q E z), fun A outer s H args us vs Q E hr e1 e2 e3 e4 => FO.run A outer s H args us vs Q E hr e1 e2 e3 (sub vs H Q E e4)⟩
end
end Co

set_option maxRecDepth 100000
set_option maxHeartbeats 4000000
/-! CoreG: a law's program joined -/
namespace Co
open PySem PySem.Spec PyProof.Rows L2

/-- the j-th def against its core term -/
def chkAt (fn : List He.DefD) (nm : List Str) (T : List Fn) (slots : List (List Str)) (j : Nat) : Bool := match nm[j]?, fn[j]?, T[j]?, slots[j]? with
  | some y, some d, some F, some N => chkD nm N (N.take F.np) F d.scope d.body && d.at_.2.isNone && decide (d.at_.1 = y) && d.dfl.isEmpty && d.kwd.isEmpty
  | _, _, _, _ => false
/-- how the j-th def's arguments bind -/
def BindAt (fn : List He.DefD) (T : List Fn) (slots : List (List Str)) (j : Nat) : Prop := ∀ d F N, fn[j]? = some d → T[j]? = some F → slots[j]? = some N →
  ∀ (kV doc pm : Value) (an : Option Addr) (cdv ct : Value) (us : List Value), us.length = F.np → bindArgs (PySem.W.fnOf d.name d.qual d.params d.body d.scope .none kV doc pm an cdv ct) ⟨us, []⟩ = pure ((N.take F.np).zip us)
def isFree (x : Str) : He.Fa → Bool
  | .free z => decide (z = x)
  | _ => false
def isGlo (x : Str) : He.Fa → Bool
  | .glo z => decide (z = x)
  | _ => false
theorem free_mem {x : Str} {fa : List He.Fa} (h : fa.any (isFree x) = true) : He.Fa.free x ∈ fa := by
  obtain ⟨f, hf, e⟩ := List.any_eq_true.mp h
  cases f <;> first | (cases e; done) | skip
  have := of_decide_eq_true e
  subst this
  exact hf
theorem glo_mem {x : Str} {fa : List He.Fa} (h : fa.any (isGlo x) = true) : He.Fa.glo x ∈ fa := by
  obtain ⟨f, hf, e⟩ := List.any_eq_true.mp h
  cases f <;> first | (cases e; done) | skip
  have := of_decide_eq_true e
  subst this
  exact hf
section
variable {P : Program} {w : World} {K : PySem.W.Frag} {h : Heap} {mg : Str → Option Value} {fa : List He.Fa} {fn : List He.DefD} {nm : List Str} {T : List Fn} {slots : List (List Str)}
theorem def_at {j : Nat} {y : Str} (X : K.In h) (G : h.Ns mainGlobals mg) (c : He.SaysD fa fn K) (hy : nm[j]? = some y) (hc : chkAt fn nm T slots j = true) (hb : BindAt fn T slots j) (hg : He.Fa.glo y ∈ fa) :
    ∃ d fd F N, fn[j]? = some d ∧ T[j]? = some F ∧ slots[j]? = some N ∧ FunD K d.name d.qual d.params d.body d.scope [] (d.kws K) (He.ga K y) fd ∧ chkD nm N (N.take F.np) F d.scope d.body = true ∧ mg y = some (.ref (He.ga K y)) ∧ Binds K fd (N.take F.np) [] ∧
      ∀ (s : Shared) (us : List Value), us.length = F.np → BindsTo s fd ⟨us, []⟩ ((N.take F.np).zip us) := by
  unfold chkAt at hc
  split at hc
  · rename_i y' d F N e1 e2 e3 e4
    rw [hy] at e1
    cases e1
    obtain ⟨hc, h5⟩ := and2 hc
    obtain ⟨hc, h4⟩ := and2 hc
    obtain ⟨hc, h3⟩ := and2 hc
    obtain ⟨h1, h2⟩ := and2 hc
    have h3 := of_decide_eq_true h3
    obtain ⟨fd, FD⟩ := c.def_ j e2
    have ea : He.fAd K d.at_ = He.ga K y := by
      have : d.at_ = (y, none) := by
        rcases hd : d.at_ with ⟨a, b⟩
        rw [hd] at h2 h3
        cases b with
        | none => cases h3; rfl
        | some b => cases h2
      rw [this]
      rfl
    have ed : d.dvs K = [] := by
      unfold He.DefD.dvs
      rw [empty_ok h4]
      rfl
    rw [ea, ed] at FD
    have hlen : (N.take F.np).length = F.np := by
      have := h1
      unfold chkD at this
      obtain ⟨q, _⟩ := and2 this
      obtain ⟨q, _⟩ := and2 q
      exact (of_decide_eq_true (and2 q).2).symm
    refine ⟨d, fd, F, N, e2, e3, e4, FD, h1, He.glo_ok X G (c.facts hg), FD.bindsN fun kV doc pm an cdv ct us hl => hb d F N e2 e3 e4 kV doc pm an cdv ct us (hl.trans hlen), fun s us hl => ?_⟩
    exact FD.bindsA (fun kV doc pm an cdv ct us hl => hb d F N e2 e3 e4 kV doc pm an cdv ct us (hl.trans hlen)) s us (hl.trans hlen.symm)
  · cases hc
theorem facts_of {wf fi k : Nat} {law sname : Str} {f : Addr} (X : K.In h) (G : h.Ns mainGlobals mg) (hfa : mg law = some (.ref f)) (c : He.SaysD fa fn K)
    (hb' : (bltNames.all fun x => fa.any (isFree x)) = true) (hg' : (nm.all fun x => fa.any (isGlo x)) = true) (hc : (List.range nm.length).all (chkAt fn nm T slots) = true) (hbd : ∀ j, j < nm.length → BindAt fn T slots j)
    (hl : nm[fi]? = some law) (hs : ∀ N F, slots[fi]? = some N → T[fi]? = some F → N.take F.np = [sname] ∧ F.np = 1)
    (hev : ∀ (d : D) (ns : List Int), d = .ro (ns.map D.int) ∨ d = .lst (ns.map D.int) → ∃ os, evF T wf (k + 1) fi [.v d] = some (.bl true, os)) :
    ∃ fd : FuncData, (∀ (s : Shared) (v : Value), BindsTo s fd ⟨[v], []⟩ [(sname, v)]) ∧ ∀ base : Heap, K.In base → base.Ns mainGlobals mg → FnOk P w K mg base CX0 (k + 2) f fd [sname] (fun vs H Q _ => ∃ (a : Addr) (ns : List Int), vs = [.ref a] ∧ SqL K H a (ns.map V.int) ∧ ∀ H', Q (.bl true) H') := by
  have hb : ∀ x ∈ bltNames, He.Fa.free x ∈ fa := fun x hx => free_mem (List.all_eq_true.mp hb' x hx)
  have hg : ∀ y ∈ nm, He.Fa.glo y ∈ fa := fun x hx => glo_mem (List.all_eq_true.mp hg' x hx)
  have lt : ∀ {j : Nat} {y : Str}, nm[j]? = some y → j < nm.length := fun e => (List.getElem?_eq_some_iff.mp e).1
  have ck : ∀ {j : Nat} {y : Str}, nm[j]? = some y → chkAt fn nm T slots j = true := fun e => List.all_eq_true.mp hc _ (List.mem_range.mpr (lt e))
  have mem : ∀ {j : Nat} {y : Str}, nm[j]? = some y → y ∈ nm := fun e => List.mem_of_getElem? e
  have all : ∀ j y, nm[j]? = some y → InMod K mg nm T j y := fun j y e => by
    obtain ⟨d, fd, F, N, e1, e2, e3, FD, h1, h2, h3, h4⟩ := def_at X G c e (ck e) (hbd j (lt e)) (hg y (mem e))
    exact ⟨_, _, _, _, _, _, _, _, fd, N, _, F, FD, e2, h1, h2, h3⟩
  obtain ⟨d, fd, F, N, e1, e2, e3, FD, h1, h2, h3, h4⟩ := def_at X G c hl (ck hl) (hbd fi (lt hl)) (hg law (mem hl))
  obtain ⟨q1, q2⟩ := hs N F e3 e2
  have ef : He.ga K law = f := by rw [hfa] at h2; injection h2 with h2; injection h2 with h2; exact h2.symm
  rw [ef] at FD
  rw [q1] at h1 h4
  refine ⟨fd, fun s v => h4 s [v] (by rw [q2]; rfl), fun base _ _ => law_ok (wf := wf) FD e2 h1 (fun x hx => He.free_ok X G (c.facts (hb x hx))) all hev⟩
end
end Co

set_option maxRecDepth 100000
set_option maxHeartbeats 4000000
/-! CoreP: plain tools (no program in sight) -/
namespace Co
open PySem

/-- a slot that may be written -/
def St (s : Sl) : Prop := s = .no ∨ ∃ d, s = .v d
theorem st_no : St .no := .inl rfl
theorem st_v {d : D} : St (.v d) := .inr ⟨d, rfl⟩
theorem store_zero {s : Sl} {ρ : Env} {d : D} (h : St s) : store (s :: ρ) 0 d = some (.v d :: ρ) := by
  rcases h with rfl | ⟨e, rfl⟩ <;> rfl
theorem store_succ {s : Sl} {ρ : Env} {i : Nat} {d : D} : store (s :: ρ) (i + 1) d = (store ρ i d).map (s :: ·) := by
  unfold store
  rw [List.getElem?_cons_succ]
  cases ρ[i]? with
  | none => rfl
  | some x => cases x <;> rfl
theorem bind_congr1 {α β : Type} {o o' : Option α} {f : α → Option β} (h : o = o') : o.bind f = o'.bind f := by rw [h]
theorem ite_congr1 {α : Type} {c c' : Prop} {_ : Decidable c} {_ : Decidable c'} {a b : α} (h : c = c') : (if c then a else b) = if c' then a else b := by subst h; congr
theorem evF_step {T : List Fn} {wf k f np ns : Nat} {body : C} {as : List Sl} (hT : T[f]? = some ⟨np, ns, body⟩) (hl : as.length = np) {d : D} {os : List Sl}
    (h : ∃ o, evB (evF T wf k) wf body (as ++ List.replicate (ns - np) .no) = some o ∧ ((∃ ρ, o = .nx ρ ∧ d = .non ∧ os = outs as ρ) ∨ (∃ ρ, o = .rt d ρ ∧ os = outs as ρ))) : evF T wf (k + 1) f as = some (d, os) := by
  obtain ⟨o, e, h⟩ := h
  simp only [evF, hT, hl, if_true, e]
  rcases h with ⟨ρ, rfl, rfl, rfl⟩ | ⟨ρ, rfl, rfl⟩ <;> rfl
/-- a def's call, by what its body does -/
def Rets (Q : D → List Sl → Prop) (as : List Sl) : Option Out → Prop
  | some (.nx ρ) => Q .non (outs as ρ)
  | some (.rt d ρ) => Q d (outs as ρ)
  | _ => False
theorem rets_rt {Q : D → List Sl → Prop} {as : List Sl} {d : D} {ρ : Env} : Rets Q as (some (.rt d ρ)) ↔ Q d (outs as ρ) := Iff.rfl
theorem rets_nx {Q : D → List Sl → Prop} {as : List Sl} {ρ : Env} : Rets Q as (some (.nx ρ)) ↔ Q .non (outs as ρ) := Iff.rfl
theorem evF_of {T : List Fn} {wf k f np ns : Nat} {body : C} {as : List Sl} {Q : D → List Sl → Prop} (hT : T[f]? = some ⟨np, ns, body⟩) (hl : as.length = np)
    (h : Rets Q as (evB (evF T wf k) wf body (as ++ List.replicate (ns - np) .no))) : ∃ d os, evF T wf (k + 1) f as = some (d, os) ∧ Q d os := by
  simp only [evF, hT, hl, if_true]
  generalize evB (evF T wf k) wf body (as ++ List.replicate (ns - np) .no) = o at h
  cases o with
  | none => exact h.elim
  | some o =>
    cases o with
    | nx ρ => exact ⟨_, _, rfl, h⟩
    | rt d ρ => exact ⟨_, _, rfl, h⟩
    | bk ρ => exact h.elim
    | ct ρ => exact h.elim
end Co
namespace Co
open PySem
theorem eqD_int {a b : Int} : eqD (.int a) (.int b) = some (decide (a = b)) := by
  unfold eqD
  rw [if_pos (by rfl)]
  rfl
theorem rfl_int {a b : Int} : PyData.eqv (.int a) (.int b) = (decide (a = b)) := rfl
theorem atI_pos {l : List D} {i : Int} (h : 0 ≤ i) : L2.atI l i = l[i.toNat]? := by
  unfold L2.atI L2.ixN
  rw [if_pos h]
  split
  · rfl
  · rename_i q
    rw [List.getElem?_eq_none (by omega)]
    rfl
theorem ixN_pos {n : Nat} {i : Int} (h : 0 ≤ i) (h2 : i < n) : L2.ixN n i = some i.toNat := by
  unfold L2.ixN
  rw [if_pos h, if_pos h2]
theorem fzL_ints (l : List Int) : fzL (l.map D.int) = true := by
  induction l with
  | nil => simp only [List.map_nil, fzL]
  | cons a l ih => simp only [List.map_cons, fzL, D.fz, ih, Bool.and_true]
theorem get_ints {l : List Int} {i : Nat} (h : i < l.length) : (l.map D.int)[i]? = some (D.int (l.getD i 0)) := by
  rw [List.getElem?_map, List.getElem?_eq_getElem h, List.getD_eq_getElem?_getD, List.getElem?_eq_getElem h]
  rfl
end Co
namespace Co
open PySem
abbrev big : Int := 1267650600228229401496703205376
theorem addI {a b : Int} : binD .Add (.int a) (.int b) = some (.int (a + b)) := rfl
theorem subI {a b : Int} : binD .Sub (.int a) (.int b) = some (.int (a - b)) := rfl
theorem log_big {n : Nat} (h : n < 1267650600228229401496703205376) : n.log2 ≤ 100 := by
  by_cases h0 : n = 0
  · subst h0; decide
  · have := (Nat.log2_lt h0 (k := 100)).mpr (by simpa using h)
    omega
theorem mulD {a b : Int} (ha : a.natAbs < 1267650600228229401496703205376) (hb : b.natAbs < 1267650600228229401496703205376) : binD .Mult (.int a) (.int b) = some (.int (a * b)) := by
  have h1 := log_big ha
  have h2 := log_big hb
  unfold binD
  simp only
  rw [if_pos (by omega)]
theorem fdivD {a b : Int} (h0 : 0 < b) (hb : b < 1267650600228229401496703205376) : binD .FloorDiv (.int a) (.int b) = some (.int (a / b)) := by
  have h1 := log_big (n := b.natAbs) (by omega)
  unfold binD
  simp only
  rw [if_pos ⟨h0, by omega⟩]
theorem modD {a b : Int} (h0 : 0 < b) : binD .Mod (.int a) (.int b) = some (.int (a % b)) := by
  unfold binD
  simp only
  rw [if_pos h0]
theorem pow18 : binD .Pow (.int 10) (.int 18) = some (.int 1000000000000000000) := by rfl
theorem absD_int {a : Int} : absD [.int a] = some (.int a.natAbs) := by
  have : (if a < 0 then -a else a) = (a.natAbs : Int) := by split <;> omega
  rw [← this]
  rfl
theorem eqD_in {a : Int} : eqD (.int a) .non = some false := by
  unfold eqD
  rw [if_pos (by rfl)]
  rfl
theorem eqD_ni {a : Int} : eqD .non (.int a) = some false := by
  unfold eqD
  rw [if_pos (by rfl)]
  rfl
theorem eqD_nn : eqD .non .non = some true := by
  unfold eqD
  rw [if_pos (by rfl)]
  rfl
theorem eqD_bb {a b : Bool} : eqD (.bl a) (.bl b) = some (a == b) := by
  unfold eqD
  rw [if_pos (by rfl)]
  cases a <;> cases b <;> rfl
theorem lim_lit : lim = 16777216 := rfl
theorem lenD_items {d : D} : lenD [d] = match d with
    | .str z => if z.length ≤ lim then some (.int z.length) else none
    | .tup l => some (.int l.length)
    | .lst l => some (.int l.length)
    | .ro l => some (.int l.length)
    | .own l => some (.int l.length)
    | _ => none := by cases d <;> rfl
end Co
namespace Co
theorem ix50 : L2.ixN 5 0 = some 0 := by rfl
theorem ix51 : L2.ixN 5 1 = some 1 := by rfl
theorem ix52 : L2.ixN 5 2 = some 2 := by rfl
theorem ix53 : L2.ixN 5 3 = some 3 := by rfl
theorem ix54 : L2.ixN 5 4 = some 4 := by rfl
end Co
namespace Co
open PySem
/-- it gives something, of which P holds -/
def Wp {α : Type} (P : α → Prop) (o : Option α) : Prop := ∃ x, o = some x ∧ P x
section
variable {α β : Type}
theorem wp_some {P : α → Prop} {x : α} : Wp P (some x) ↔ P x := ⟨fun ⟨_, e, h⟩ => by cases e; exact h, fun h => ⟨x, rfl, h⟩⟩
theorem wp_b {P : β → Prop} {o : Option α} {F : α → Option β} (h : Wp (fun x => Wp P (F x)) o) : Wp P (o.bind F) := by
  obtain ⟨x, rfl, y, e, h⟩ := h
  exact ⟨y, e, h⟩
theorem wp_mono {P Q : α → Prop} {o : Option α} (h : Wp Q o) (k : ∀ x, Q x → P x) : Wp P o := by
  obtain ⟨x, e, h⟩ := h
  exact ⟨x, e, k x h⟩
end
def RetQ (Q : D × List Sl → Prop) (as : List Sl) : Out → Prop
  | .nx ρ => Q (.non, outs as ρ)
  | .rt d ρ => Q (d, outs as ρ)
  | _ => False
theorem retq_rt {Q : D × List Sl → Prop} {as : List Sl} {d : D} {ρ : Env} : RetQ Q as (.rt d ρ) ↔ Q (d, outs as ρ) := Iff.rfl
theorem retq_nx {Q : D × List Sl → Prop} {as : List Sl} {ρ : Env} : RetQ Q as (.nx ρ) ↔ Q (.non, outs as ρ) := Iff.rfl
theorem evF_wp {T : List Fn} {wf k f np ns : Nat} {body : C} {as : List Sl} {Q : D × List Sl → Prop} (hT : T[f]? = some ⟨np, ns, body⟩) (hl : as.length = np)
    (h : Wp (RetQ Q as) (evB (evF T wf k) wf body (as ++ List.replicate (ns - np) .no))) : Wp Q (evF T wf (k + 1) f as) := by
  obtain ⟨o, e, h⟩ := h
  simp only [evF, hT, hl, if_true, e]
  cases o with
  | nx ρ => exact ⟨_, rfl, h⟩
  | rt d ρ => exact ⟨_, rfl, h⟩
  | bk ρ => exact h.elim
  | ct ρ => exact h.elim
/-- a loop's turn has ended well -/
def Turn (I : Env → Prop) : Out → Prop
  | .nx ρ => I ρ
  | .ct ρ => I ρ
  | _ => False
theorem turn_nx {I : Env → Prop} {ρ : Env} : Turn I (.nx ρ) ↔ I ρ := Iff.rfl
theorem turn_ct {I : Env → Prop} {ρ : Env} : Turn I (.ct ρ) ↔ I ρ := Iff.rfl
theorem wp_for {step : D → Env → Option Out} {P : Out → Prop} (I : Nat → Env → Prop) : ∀ {ds : List D} {ρ : Env} (_ : I 0 ρ) (_ : ∀ i d ρ, ds[i]? = some d → I i ρ → Wp (Turn (I (i + 1))) (step d ρ)) (_ : ∀ ρ', I ds.length ρ' → P (.nx ρ')), Wp P (forL step ds ρ) := by
  intro ds
  induction ds generalizing I with
  | nil => exact fun h0 _ hk => ⟨_, rfl, hk _ h0⟩
  | cons d ds ih =>
    intro ρ h0 hs hk
    obtain ⟨o, e, h⟩ := hs 0 d ρ rfl h0
    have nxt : ∀ ρ', I 1 ρ' → Wp P (forL step ds ρ') := fun ρ' h => ih (fun i => I (i + 1)) h (fun i d' ρ2 hd hI => hs (i + 1) d' ρ2 (by simpa using hd) hI) fun ρ2 h2 => hk ρ2 h2
    unfold forL
    rw [e]
    cases o with
    | nx ρ' => exact nxt ρ' h
    | ct ρ' => exact nxt ρ' h
    | rt d ρ' => exact h.elim
    | bk ρ' => exact h.elim
theorem wp_comp {step : D → Env → Option (Option D × Env)} {P : List D × Env → Prop} (I : Nat → List D → Env → Prop) : ∀ {ds acc : List D} {ρ : Env} (_ : I 0 acc ρ) (_ : acc.length + ds.length ≤ lim) (_ : ∀ i d acc ρ, ds[i]? = some d → I i acc ρ → Wp (fun x => I (i + 1) (acc ++ x.1.toList) x.2) (step d ρ)) (_ : ∀ acc' ρ', I ds.length acc' ρ' → acc'.length ≤ acc.length + ds.length → P (acc', ρ')), Wp P (compL step ds acc ρ) := by
  intro ds
  induction ds generalizing I with
  | nil => exact fun h0 _ _ hk => ⟨_, rfl, hk _ _ h0 (Nat.le_refl _)⟩
  | cons d ds ih =>
    intro acc ρ h0 hl hs hk
    rw [List.length_cons] at hl
    obtain ⟨⟨o, ρ'⟩, e, h⟩ := hs 0 d acc ρ rfl h0
    have nxt : ∀ acc', acc'.length ≤ acc.length + 1 → I 1 acc' ρ' → Wp P (compL step ds acc' ρ') := fun acc' hl' h => ih (fun i => I (i + 1)) h (by omega) (fun i d' a ρ2 hd hI => hs (i + 1) d' a ρ2 (by simpa using hd) hI) fun a ρ2 h2 h3 => hk a ρ2 h2 (by rw [List.length_cons]; omega)
    unfold compL
    rw [e]
    cases o with
    | none =>
      simp only [Option.toList, List.append_nil] at h
      exact nxt acc (by omega) h
    | some x =>
      simp only [Option.toList] at h
      show Wp P (if acc.length < lim then compL step ds (acc ++ [x]) ρ' else none)
      rw [if_pos (by omega)]
      exact nxt _ (by simp) h
theorem rngd_len {a b : Int} : (rngD a b).length = (b - a).toNat := by unfold rngD; simp
theorem rngd_get {a b : Int} {i : Nat} {d : D} (h : (rngD a b)[i]? = some d) : d = .int (a + i) ∧ a + i < b := by
  unfold rngD at h
  rw [List.getElem?_map] at h
  cases hr : (List.range (b - a).toNat)[i]? with
  | none => rw [hr] at h; cases h
  | some j =>
    rw [hr] at h
    obtain ⟨h1, h2⟩ := List.getElem?_eq_some_iff.mp hr
    rw [List.getElem_range] at h2
    subst h2
    cases h
    rw [List.length_range] at h1
    exact ⟨rfl, by omega⟩
theorem rngOf1 {n : Int} (h : 0 ≤ n) (h2 : n < 1267650600228) : rngOf [.int n] = some (rngD 0 n) := by
  unfold rngOf
  simp only
  rw [if_pos (by omega)]
theorem rngOf2 {a n : Int} (h : 0 ≤ n) (h2 : n < 1267650600228) (h3 : 0 ≤ a) (h4 : a < 1267650600228) : rngOf [.int a, .int n] = some (rngD a n) := by
  unfold rngOf
  simp only
  rw [if_pos (by omega)]
/-- a slot that is free for a block -/
def FSt (s : Sl) : Prop := s = .no ∨ ∃ d, s = .v d ∧ d.fz = true
theorem fst_no : FSt .no := .inl rfl
theorem fst_v {d : D} (h : d.fz = true) : FSt (.v d) := .inr ⟨d, rfl, h⟩
theorem FSt.st {s : Sl} (h : FSt s) : St s := h.elim .inl fun ⟨d, e, _⟩ => .inr ⟨d, e⟩
theorem free_zero {s : Sl} {ρ : Env} (h : FSt s) : freeAt (s :: ρ) 0 = true := by
  rcases h with rfl | ⟨d, rfl, h⟩
  · rfl
  · exact h
theorem free_succ {s : Sl} {ρ : Env} {i : Nat} : freeAt (s :: ρ) (i + 1) = freeAt ρ i := by
  unfold freeAt
  rw [List.getElem?_cons_succ]
theorem fz_tup {l : List D} (h : fzL l = true) : D.fz (.tup l) = true := by simp only [D.fz, h]
theorem kit_bb : L2.kitB "bool" "bool" = some true := by rfl
end Co
namespace Co
theorem frz_ints (l : List Int) : frzL (l.map D.int) = l.map D.int := by
  induction l with
  | nil => rfl
  | cons a l ih => simp only [List.map_cons, frzL, D.frz, ih]
end Co
namespace Co
theorem idx_tup {l : List D} {i : Int} : idxD (.tup l) (.int i) = (L2.atI l i).bind fun d => if d.fz then some d else none := rfl
theorem idx_lst {l : List D} {i : Int} : idxD (.lst l) (.int i) = (L2.atI l i).bind fun d => if d.fz then some d else none := rfl
theorem idx_ro {l : List D} {i : Int} : idxD (.ro l) (.int i) = (L2.atI l i).bind fun d => if d.fz then some d else none := rfl
theorem idx_own {l : List D} {i : Int} : idxD (.own l) (.int i) = (L2.atI l i).bind fun d => if d.fz then some d else none := rfl
end Co
namespace Co
theorem le_lim {n : Nat} (h : n ≤ 16777216) : (n ≤ lim) = True := eq_true h
theorem lt_lim {n : Nat} (h : n < 16777216) : (n < lim) = True := eq_true h
theorem le_0 {n : Nat} : (0 ≤ n) = True := eq_true (Nat.zero_le n)
end Co
namespace Co
open PySem
/-- a loop's turn, that may end the loop -/
def TurnP (P : Out → Prop) (I : Env → Prop) : Out → Prop
  | .nx ρ => I ρ
  | .ct ρ => I ρ
  | .rt d ρ => P (.rt d ρ)
  | .bk ρ => P (.nx ρ)
theorem turnp_nx {P : Out → Prop} {I : Env → Prop} {ρ : Env} : TurnP P I (.nx ρ) ↔ I ρ := Iff.rfl
theorem turnp_ct {P : Out → Prop} {I : Env → Prop} {ρ : Env} : TurnP P I (.ct ρ) ↔ I ρ := Iff.rfl
theorem turnp_rt {P : Out → Prop} {I : Env → Prop} {d : D} {ρ : Env} : TurnP P I (.rt d ρ) ↔ P (.rt d ρ) := Iff.rfl
theorem turnp_bk {P : Out → Prop} {I : Env → Prop} {ρ : Env} : TurnP P I (.bk ρ) ↔ P (.nx ρ) := Iff.rfl
theorem wp_forP {step : D → Env → Option Out} {P : Out → Prop} (I : Nat → Env → Prop) : ∀ {ds : List D} {ρ : Env} (_ : I 0 ρ) (_ : ∀ i d ρ, ds[i]? = some d → I i ρ → Wp (TurnP P (I (i + 1))) (step d ρ)) (_ : ∀ ρ', I ds.length ρ' → P (.nx ρ')), Wp P (forL step ds ρ) := by
  intro ds
  induction ds generalizing I with
  | nil => exact fun h0 _ hk => ⟨_, rfl, hk _ h0⟩
  | cons d ds ih =>
    intro ρ h0 hs hk
    obtain ⟨o, e, h⟩ := hs 0 d ρ rfl h0
    have nxt : ∀ ρ', I 1 ρ' → Wp P (forL step ds ρ') := fun ρ' h => ih (fun i => I (i + 1)) h (fun i d' ρ2 hd hI => hs (i + 1) d' ρ2 (by simpa using hd) hI) fun ρ2 h2 => hk ρ2 h2
    unfold forL
    rw [e]
    cases o with
    | nx ρ' => exact nxt ρ' h
    | ct ρ' => exact nxt ρ' h
    | rt d ρ' => exact ⟨_, rfl, h⟩
    | bk ρ' => exact ⟨_, rfl, h⟩
end Co

set_option maxRecDepth 100000
set_option maxHeartbeats 4000000
/-! CoreQ: the evaluator's equations, at a row of slots that is seen -/
namespace Co
open PySem
section
variable {Φ : Nat → List Sl → Option (D × List Sl)} {wf : Nat} {s : Sl} {ρ : Env}
theorem xE_var {i : Nat} : evE Φ wf (.var i) (s :: ρ) = match (s :: ρ)[i]? with
    | some (.v d) => some (if d.fz then .d d else .pl i, s :: ρ)
    | some (.bo d) => some (if d.fz then .d d else .pl i, s :: ρ)
    | some (.lk _) => some (.pl i, s :: ρ)
    | _ => none := by simp only [evE] <;> rfl
theorem xE_fz {i : Nat} : evE Φ wf (.fz i) (s :: ρ) = match (s :: ρ)[i]? with
    | some (.v d) => some (.d d.frz, (s :: ρ).set i (.v d.frz))
    | some (.bo d) => some (.d d.frz, (s :: ρ).set i (.bo d.frz))
    | _ => none := by simp only [evE] <;> rfl
theorem xE_mv {i : Nat} : evE Φ wf (.mv i) (s :: ρ) = match (s :: ρ)[i]? with
    | some (.v d) => some (.d d, (s :: ρ).set i .no)
    | _ => none := by simp only [evE] <;> rfl
theorem xE_non : evE Φ wf .non (s :: ρ) = some (.d .non, s :: ρ) := by simp only [evE] <;> rfl
theorem xE_bl {b : Bool} : evE Φ wf (.bl b) (s :: ρ) = some (.d (.bl b), s :: ρ) := by simp only [evE] <;> rfl
theorem xE_int {b : Int} : evE Φ wf (.int b) (s :: ρ) = some (.d (.int b), s :: ρ) := by simp only [evE] <;> rfl
theorem xE_str {b : Str} : evE Φ wf (.str b) (s :: ρ) = some (.d (.str b), s :: ρ) := by simp only [evE] <;> rfl
theorem xE_bin {o a b} : evE Φ wf (.bin o a b) (s :: ρ) = (evE Φ wf a (s :: ρ)).bind fun (ra, ρ1) => (evE Φ wf b ρ1).bind fun (rb, ρ2) =>
      (rd ρ2 ra).bind fun x => (rd ρ2 rb).bind fun y => (binD o x y).bind fun z => some (.d z, ρ2) := by simp only [evE] <;> rfl
theorem xE_neg {a} : evE Φ wf (.neg a) (s :: ρ) = (evE Φ wf a (s :: ρ)).bind fun (ra, ρ1) => (rd ρ1 ra).bind fun x => (negD x).bind fun z => some (.d z, ρ1) := by simp only [evE] <;> rfl
theorem xE_not {a} : evE Φ wf (.not a) (s :: ρ) = (evE Φ wf a (s :: ρ)).bind fun (ra, ρ1) => match ra with
    | .d (.bl b) => some (.d (.bl (!b)), ρ1)
    | _ => none := by simp only [evE] <;> rfl
theorem xE_cmp {o a b} : evE Φ wf (.cmp o a b) (s :: ρ) = (evE Φ wf a (s :: ρ)).bind fun (ra, ρ1) => (evE Φ wf b ρ1).bind fun (rb, ρ2) =>
      (rd ρ2 ra).bind fun x => (rd ρ2 rb).bind fun y => (cmpD o x y).bind fun z => some (.d (.bl z), ρ2) := by simp only [evE] <;> rfl
theorem xE_chn {o1 o2 a b c} : evE Φ wf (.chn o1 o2 a b c) (s :: ρ) = ((evE Φ wf a (s :: ρ)).bind fun (ra, ρ1) => (evE Φ wf b ρ1).bind fun (rb, ρ2) =>
      (rd ρ2 ra).bind fun x => (rd ρ2 rb).bind fun y => (cmpD o1 x y).bind fun z =>
        if z then (evE Φ wf c ρ2).bind fun (rc, ρ3) => (rd ρ3 rb).bind fun y' => (rd ρ3 rc).bind fun w => (cmpD o2 y' w).bind fun z2 => some (z2, ρ3)
        else some (false, ρ2)).bind fun (z, ρ4) => some (.d (.bl z), ρ4) := by simp only [evE] <;> rfl
theorem xE_and {a b} : evE Φ wf (.and a b) (s :: ρ) = (evE Φ wf a (s :: ρ)).bind fun (ra, ρ1) => match ra with
    | .d (.bl true) => evE Φ wf b ρ1
    | .d (.bl false) => some (.d (.bl false), ρ1)
    | _ => none := by simp only [evE] <;> rfl
theorem xE_or {a b} : evE Φ wf (.or a b) (s :: ρ) = (evE Φ wf a (s :: ρ)).bind fun (ra, ρ1) => match ra with
    | .d (.bl true) => some (.d (.bl true), ρ1)
    | .d (.bl false) => evE Φ wf b ρ1
    | _ => none := by simp only [evE] <;> rfl
theorem xE_one {a} : evE Φ wf (.one a) (s :: ρ) = evE Φ wf a (s :: ρ) := by simp only [evE] <;> rfl
theorem xE_frz {a} : evE Φ wf (.frz a) (s :: ρ) = (evE Φ wf a (s :: ρ)).bind fun (r, ρ1) => match r with
    | .d d => some (.d d.frz, ρ1)
    | .pl _ => none := by simp only [evE] <;> rfl
theorem xE_ite {c a b} : evE Φ wf (.ite c a b) (s :: ρ) = (evT Φ wf c (s :: ρ)).bind fun (t, ρ1) => if t then evE Φ wf a ρ1 else evE Φ wf b ρ1 := by simp only [evE] <;> rfl
theorem xE_tup {es} : evE Φ wf (.tup es) (s :: ρ) = (evA Φ wf es (s :: ρ)).bind fun (rs, ρ1) => (vals rs).bind fun ds => if ds.length ≤ lim then some (.d (.tup ds), ρ1) else none := by simp only [evE] <;> rfl
theorem xE_lst {es} : evE Φ wf (.lst es) (s :: ρ) = (evA Φ wf es (s :: ρ)).bind fun (rs, ρ1) => (vals rs).bind fun ds => if ds.length ≤ lim then some (.d (.own ds), ρ1) else none := by simp only [evE] <;> rfl
theorem xE_idx {a b} : evE Φ wf (.idx a b) (s :: ρ) = (evE Φ wf a (s :: ρ)).bind fun (ra, ρ1) => (evE Φ wf b ρ1).bind fun (rb, ρ2) =>
      (rd ρ2 ra).bind fun x => (rd ρ2 rb).bind fun y => (idxD x y).bind fun z => some (.d z, ρ2) := by simp only [evE] <;> rfl
theorem xE_slc {a lo hi} : evE Φ wf (.slc a lo hi) (s :: ρ) = (evE Φ wf a (s :: ρ)).bind fun (ra, ρ1) => (evO Φ wf lo ρ1).bind fun (l, ρ2) => (evO Φ wf hi ρ2).bind fun (h, ρ3) =>
      (rd ρ3 ra).bind fun x => (slD x l h).bind fun z => some (.d z, ρ3) := by simp only [evE] <;> rfl
theorem xO_nil : evO Φ wf .nil (s :: ρ) = some (none, s :: ρ) := by simp only [evO] <;> rfl
theorem xO_one {a} : evO Φ wf (.one a) (s :: ρ) = (evE Φ wf a (s :: ρ)).bind fun (r, ρ1) => match r with
    | .d (.int i) => some (some i, ρ1)
    | _ => none := by simp only [evO] <;> rfl
theorem xE_isi {a t} : evE Φ wf (.isi a t) (s :: ρ) = (evE Φ wf a (s :: ρ)).bind fun (ra, ρ1) => (rd ρ1 ra).bind fun x => (L2.kitB (tyD x) t).bind fun b => some (.d (.bl b), ρ1) := by simp only [evE] <;> rfl
theorem xE_lrng1 {a} : evE Φ wf (.lrng1 a) (s :: ρ) = (evE Φ wf a (s :: ρ)).bind fun (r, ρ1) => (vals [r]).bind fun ds => (rngOf ds).bind fun l => if l.length ≤ lim then some (.d (.own l), ρ1) else none := by simp only [evE] <;> rfl
theorem xE_lrng2 {a b} : evE Φ wf (.lrng2 a b) (s :: ρ) = (evE Φ wf a (s :: ρ)).bind fun (ra, ρ1) => (evE Φ wf b ρ1).bind fun (rb, ρ2) => (vals [ra, rb]).bind fun ds => (rngOf ds).bind fun l => if l.length ≤ lim then some (.d (.own l), ρ2) else none := by simp only [evE] <;> rfl
theorem xE_ixm {a b} : evE Φ wf (.ixm a b) (s :: ρ) = (evE Φ wf a (s :: ρ)).bind fun (ra, ρ1) => (ixA ρ1 ra).bind fun _ => (evE Φ wf b ρ1).bind fun (rb, ρ2) =>
      (ixA ρ2 ra).bind fun l => (rd ρ2 rb).bind fun y => (indexD l y).bind fun z => some (.d z, ρ2) := by simp only [evE] <;> rfl
theorem xE_call {f es} : evE Φ wf (.call f es) (s :: ρ) = (evA Φ wf es (s :: ρ)).bind fun (rs, ρ1) => if (places rs).Nodup then (argsOf ρ1 rs).bind fun as =>
      (Φ f as).bind fun (d, os) => some (.d d, back ρ1 rs os) else none := by simp only [evE] <;> rfl
theorem xE_blt {n es} : evE Φ wf (.blt n es) (s :: ρ) = (evA Φ wf es (s :: ρ)).bind fun (rs, ρ1) => (rds ρ1 rs).bind fun ds => (bltD n ds).bind fun d => some (.d d, ρ1) := by simp only [evE] <;> rfl
theorem xE_mut {n i es} : evE Φ wf (.mut n i es) (s :: ρ) = (ownAt (s :: ρ) i).bind fun _ => (evA Φ wf es (s :: ρ)).bind fun (rs, ρ1) => (mutArgs n ρ1 rs).bind fun ds => (ownAt ρ1 i).bind fun l => (mutD n l ds).bind fun (d, l') =>
      (setL ρ1 i l').bind fun ρ2 => some (.d d, ρ2) := by simp only [evE] <;> rfl
/-- one turn of a comprehension -/
def compTu (Φ : Nat → List Sl → Option (D × List Sl)) (wf : Nat) (elt tg cond : C) (own : List Nat) (d : D) (ρ : Env) : Option (Option D × Env) :=
  (evG Φ wf tg d ρ).bind fun ρ' => (evT Φ wf cond ρ').bind fun (t, ρ2) =>
        if t then (evE Φ wf elt ρ2).bind fun (r, ρ3) => match r with
          | .d x => some (some x, wipeS ρ3 own)
          | .pl _ => none
        else some (none, wipeS ρ2 own)
theorem xE_comp {elt tg src cond own} : evE Φ wf (.comp elt tg src cond own) (s :: ρ) = (evI Φ wf src (s :: ρ)).bind fun (ds, lk, ρ1) => if own.all (freeAt ρ1) then
      (compL (compTu Φ wf elt tg cond own) ds [] (wipeS (lock ρ1 lk) own)).bind fun (acc, ρ4) => some (.d (.own acc), putBack ρ1 (unlock ρ1 lk ρ4) own) else none := by
  simp only [evE] <;> rfl
theorem xA_nil : evA Φ wf .nil (s :: ρ) = some ([], s :: ρ) := by simp only [evA] <;> rfl
theorem xA_cons {a r} : evA Φ wf (.cons a r) (s :: ρ) = (evE Φ wf a (s :: ρ)).bind fun (ra, ρ1) => (evA Φ wf r ρ1).bind fun (rs, ρ2) => some (ra :: rs, ρ2) := by simp only [evA] <;> rfl
theorem xT_not {a} : evT Φ wf (.not a) (s :: ρ) = (evT Φ wf a (s :: ρ)).bind fun (t, ρ1) => some (!t, ρ1) := by simp only [evT] <;> rfl
theorem xT_and {a b} : evT Φ wf (.and a b) (s :: ρ) = (evT Φ wf a (s :: ρ)).bind fun (t, ρ1) => if t then evT Φ wf b ρ1 else some (false, ρ1) := by simp only [evT] <;> rfl
theorem xT_or {a b} : evT Φ wf (.or a b) (s :: ρ) = (evT Φ wf a (s :: ρ)).bind fun (t, ρ1) => if t then some (true, ρ1) else evT Φ wf b ρ1 := by simp only [evT] <;> rfl
theorem xT_cmp {o a b} : evT Φ wf (.cmp o a b) (s :: ρ) = (evE Φ wf a (s :: ρ)).bind fun (ra, ρ1) => (evE Φ wf b ρ1).bind fun (rb, ρ2) =>
      (rd ρ2 ra).bind fun x => (rd ρ2 rb).bind fun y => (cmpD o x y).bind fun z => some (z, ρ2) := by simp only [evT] <;> rfl
theorem xT_chn {o1 o2 a b c} : evT Φ wf (.chn o1 o2 a b c) (s :: ρ) = (evE Φ wf a (s :: ρ)).bind fun (ra, ρ1) => (evE Φ wf b ρ1).bind fun (rb, ρ2) =>
      (rd ρ2 ra).bind fun x => (rd ρ2 rb).bind fun y => (cmpD o1 x y).bind fun z =>
        if z then (evE Φ wf c ρ2).bind fun (rc, ρ3) => (rd ρ3 rb).bind fun y' => (rd ρ3 rc).bind fun w => (cmpD o2 y' w).bind fun z2 => some (z2, ρ3)
        else some (false, ρ2) := by simp only [evT] <;> rfl
theorem xT_tst {a} : evT Φ wf (.tst a) (s :: ρ) = (evE Φ wf a (s :: ρ)).bind fun (ra, ρ1) => (rd ρ1 ra).bind fun x => (truD x).bind fun b => some (b, ρ1) := by simp only [evT] <;> rfl
theorem xT_bl {b} : evT Φ wf (.bl b) (s :: ρ) = some (b, s :: ρ) := by simp only [evT] <;> rfl
theorem xT_one {a} : evT Φ wf (.one a) (s :: ρ) = evT Φ wf a (s :: ρ) := by simp only [evT] <;> rfl
theorem xG_tnm {i d} : evG Φ wf (.tnm i) d (s :: ρ) = store (s :: ρ) i d := by simp only [evG] <;> rfl
theorem xG_ttup {ts l} : evG Φ wf (.ttup ts) (.tup l) (s :: ρ) = evGs Φ wf ts l (s :: ρ) := by simp only [evG] <;> rfl
theorem xG_tsub {i k d} : evG Φ wf (.tsub i k) d (s :: ρ) = (ownAt (s :: ρ) i).bind fun _ => (evE Φ wf k (s :: ρ)).bind fun (rk, ρ1) => match rk with
    | .d (.int j) => (ownAt ρ1 i).bind fun l => (L2.ixN l.length j).bind fun n => setL ρ1 i (l.set n d)
    | _ => none := by simp only [evG] <;> rfl
theorem xGs_nil : evGs Φ wf .nil [] (s :: ρ) = some (s :: ρ) := by simp only [evGs] <;> rfl
theorem xGs_cons {t ts d l} : evGs Φ wf (.cons t ts) (d :: l) (s :: ρ) = (evG Φ wf t d (s :: ρ)).bind fun ρ1 => evGs Φ wf ts l ρ1 := by simp only [evGs] <;> rfl
theorem xI_seq {e} : evI Φ wf (.sseq e) (s :: ρ) = (evE Φ wf e (s :: ρ)).bind fun (r, ρ1) => (srcOf ρ1 r).bind fun (l, k) => some (l, k, ρ1) := by simp only [evI] <;> rfl
theorem xI_enum {e} : evI Φ wf (.senum e) (s :: ρ) = (evE Φ wf e (s :: ρ)).bind fun (r, ρ1) => (srcOf ρ1 r).bind fun (l, k) => some (enumL 0 l, k, ρ1) := by simp only [evI] <;> rfl
theorem xI_rng {es} : evI Φ wf (.srng es) (s :: ρ) = (evA Φ wf es (s :: ρ)).bind fun (rs, ρ1) => (vals rs).bind fun ds => (rngOf ds).bind fun l => some (l, none, ρ1) := by simp only [evI] <;> rfl
theorem xS_asg {t e} : evS Φ wf (.asg t e) (s :: ρ) = (evE Φ wf e (s :: ρ)).bind fun (r, ρ1) => match r with
    | .d d => (evG Φ wf t d ρ1).bind fun ρ2 => some (.nx ρ2)
    | .pl _ => none := by simp only [evS] <;> rfl
theorem xS_par {i j es} : evS Φ wf (.par i j es) (s :: ρ) = (evA Φ wf es (s :: ρ)).bind fun (rs, ρ1) => parS ρ1 i j rs := by simp only [evS] <;> rfl
theorem xS_par3 {i j l es} : evS Φ wf (.par3 i j l es) (s :: ρ) = (evA Φ wf es (s :: ρ)).bind fun (rs, ρ1) => parS3 ρ1 i j l rs := by simp only [evS] <;> rfl
theorem xS_exs {e} : evS Φ wf (.exs e) (s :: ρ) = (evE Φ wf e (s :: ρ)).bind fun (_, ρ1) => some (.nx ρ1) := by simp only [evS] <;> rfl
theorem xS_ret {e} : evS Φ wf (.ret e) (s :: ρ) = (evE Φ wf e (s :: ρ)).bind fun (r, ρ1) => match r with
    | .d d => some (.rt d ρ1)
    | .pl _ => none := by simp only [evS] <;> rfl
theorem xS_retN : evS Φ wf .retN (s :: ρ) = some (.rt .non (s :: ρ)) := by simp only [evS] <;> rfl
theorem xS_cond {c a b} : evS Φ wf (.cond c a b) (s :: ρ) = (evT Φ wf c (s :: ρ)).bind fun (t, ρ1) => if t then evB Φ wf a ρ1 else evB Φ wf b ρ1 := by simp only [evS] <;> rfl
/-- one turn of a for -/
def forTu (Φ : Nat → List Sl → Option (D × List Sl)) (wf : Nat) (t body : C) (d : D) (ρ : Env) : Option Out := (evG Φ wf t d ρ).bind fun ρ' => evB Φ wf body ρ'
theorem xS_for {t src body} : evS Φ wf (.for_ t src body) (s :: ρ) = (evI Φ wf src (s :: ρ)).bind fun (ds, lk, ρ1) =>
      (forL (forTu Φ wf t body) ds (lock ρ1 lk)).bind fun o => some (o.map (unlock ρ1 lk)) := by
  simp only [evS] <;> rfl
theorem xS_whl {c body} : evS Φ wf (.whl c body) (s :: ρ) = whileL (evT Φ wf c) (evB Φ wf body) wf (s :: ρ) := by simp only [evS] <;> rfl
theorem xS_brk : evS Φ wf .brk (s :: ρ) = some (.bk (s :: ρ)) := by simp only [evS] <;> rfl
theorem xS_cnt : evS Φ wf .cnt (s :: ρ) = some (.ct (s :: ρ)) := by simp only [evS] <;> rfl
theorem xS_pass : evS Φ wf .pass (s :: ρ) = some (.nx (s :: ρ)) := by simp only [evS] <;> rfl
theorem xB_nil : evB Φ wf .nil (s :: ρ) = some (.nx (s :: ρ)) := by simp only [evB] <;> rfl
theorem xB_cons {a r} : evB Φ wf (.cons a r) (s :: ρ) = (evS Φ wf a (s :: ρ)).bind fun o => match o with
    | .nx ρ1 => evB Φ wf r ρ1
    | o => some o := by simp only [evB] <;> rfl
end
def xs1 := And.intro @xE_var <| And.intro @xE_fz <| And.intro @xE_mv <| And.intro @xE_non <| And.intro @xE_bl <| And.intro @xE_int <| And.intro @xE_str <| And.intro @xE_bin <| And.intro @xE_neg <| And.intro @xE_not <| And.intro @xE_cmp <| And.intro @xE_chn <| And.intro @xE_and <| And.intro @xE_or <| And.intro @xE_one <| And.intro @xE_frz <| And.intro @xE_ite <| And.intro @xE_tup <| And.intro @xE_lst <| And.intro @xE_idx <| And.intro @xE_isi <| And.intro @xE_slc <| And.intro @xE_lrng1 <| And.intro @xE_lrng2 <| And.intro @xE_ixm <| And.intro @xO_nil <| And.intro @xO_one <| And.intro @xE_call <| And.intro @xE_blt <| And.intro @xE_mut <| And.intro @xE_comp <| And.intro @xA_nil @xA_cons
def xs2 := And.intro @xT_not <| And.intro @xT_and <| And.intro @xT_or <| And.intro @xT_cmp <| And.intro @xT_chn <| And.intro @xT_tst <| And.intro @xT_bl <| And.intro @xT_one <| And.intro @xG_tnm <| And.intro @xG_ttup <| And.intro @xG_tsub <| And.intro @xGs_nil <| And.intro @xGs_cons <| And.intro @xI_seq <| And.intro @xI_enum @xI_rng
def xs3 := And.intro @xS_asg <| And.intro @xS_par <| And.intro @xS_par3 <| And.intro @xS_exs <| And.intro @xS_ret <| And.intro @xS_retN <| And.intro @xS_cond <| And.intro @xS_for <| And.intro @xS_whl <| And.intro @xS_brk <| And.intro @xS_cnt <| And.intro @xS_pass <| And.intro @xB_nil @xB_cons
end Co

set_option maxRecDepth 100000
set_option maxHeartbeats 4000000
/-! CoreR: == of data, typed data, a tactic for the run -/
namespace Co
open PySem
/-- fit for ==, at most n deep -/
def Lay (n : Nat) (d : D) : Prop := d.py.canLay0 = true ∧ d.py.depth ≤ n
theorem Lay.mono {n m : Nat} {d : D} (h : Lay n d) (hm : n ≤ m) : Lay m d := ⟨h.1, Nat.le_trans h.2 hm⟩
theorem lay_non {n : Nat} : Lay n .non := ⟨rfl, Nat.zero_le _⟩
theorem lay_bl {n : Nat} {b : Bool} : Lay n (.bl b) := ⟨rfl, Nat.zero_le _⟩
theorem lay_int {n : Nat} {i : Int} : Lay n (.int i) := ⟨rfl, Nat.zero_le _⟩
theorem lay_str {n : Nat} {x : Str} (h : PyData.strOk x = true) : Lay n (.str x) := ⟨h, Nat.zero_le _⟩
theorem lay_all {n : Nat} : ∀ {l : List D}, (∀ d ∈ l, Lay n d) → PyData.canLayAll0 (pyL l) = true ∧ PyData.depthAll (pyL l) ≤ n
  | [], _ => ⟨rfl, Nat.zero_le _⟩
  | d :: l, h => by
    obtain ⟨h1, h2⟩ := h d (by simp)
    obtain ⟨h3, h4⟩ := lay_all (fun x hx => h x (List.mem_cons_of_mem _ hx))
    simp only [pyL]
    refine ⟨?_, ?_⟩
    · rw [PyData.canLayAll0, h1, h3]; rfl
    · rw [PyData.depthAll]; omega
theorem lay_tup {n : Nat} {l : List D} (h : ∀ d ∈ l, Lay n d) : Lay (n + 1) (.tup l) := by
  obtain ⟨h1, h2⟩ := lay_all h
  refine ⟨?_, ?_⟩
  · show PyData.canLay0 (.tuple (pyL l)) = true
    rw [PyData.canLay0]; exact h1
  · show PyData.depth (.tuple (pyL l)) ≤ _
    rw [PyData.depth]; omega
theorem lay_own {n : Nat} {l : List D} (h : ∀ d ∈ l, Lay n d) : Lay (n + 1) (.own l) := by
  obtain ⟨h1, h2⟩ := lay_all h
  refine ⟨?_, ?_⟩
  · show PyData.canLay0 (.list (pyL l)) = true
    rw [PyData.canLay0]; exact h1
  · show PyData.depth (.list (pyL l)) ≤ _
    rw [PyData.depth]; omega
theorem eqD_self {d : D} (h : Lay 64 d) : eqD d d = some true := by
  unfold eqD
  have sh : SeqAt.shaped d.py = true := Bool.and_eq_true_iff.mpr ⟨h.1, decide_eq_true h.2⟩
  rw [if_pos (Bool.and_eq_true_iff.mpr ⟨sh, sh⟩), SeqAt.eqv_refl _ h.1]
theorem lay_map {α : Type} {n : Nat} {f : α → D} (hf : ∀ a, Lay n (f a)) (l : List α) : ∀ d ∈ l.map f, Lay n d := by
  intro d hd
  obtain ⟨a, _, rfl⟩ := List.mem_map.mp hd
  exact hf a
end Co

set_option maxRecDepth 100000
set_option maxHeartbeats 4000000
/-! CoreS: the run's tactic; loops and comprehensions without a heap of words -/
namespace Co
open PySem
theorem ite_t {α : Type} {c : Prop} {_ : Decidable c} {a b : α} (h : c) : (if c then a else b) = a := if_pos h
theorem ite_f {α : Type} {c : Prop} {_ : Decidable c} {a b : α} (h : ¬ c) : (if c then a else b) = b := if_neg h
theorem dec_t {c : Prop} {_ : Decidable c} (h : c) : decide c = true := decide_eq_true h
theorem dec_f {c : Prop} {_ : Decidable c} (h : ¬ c) : decide c = false := decide_eq_false h
theorem mulI {a b : Int} (h : a.natAbs < 1267650600228229401496703205376 ∧ b.natAbs < 1267650600228229401496703205376) : binD .Mult (.int a) (.int b) = some (.int (a * b)) := mulD h.1 h.2
theorem fdivI {a b : Int} (h : 0 < b ∧ b < 1267650600228229401496703205376) : binD .FloorDiv (.int a) (.int b) = some (.int (a / b)) := fdivD h.1 h.2
theorem rngI1 {n : Int} (h : 0 ≤ n ∧ n < 1267650600228) : rngOf [.int n] = some (rngD 0 n) := rngOf1 h.1 h.2
theorem rngI2 {a n : Int} (h : 0 ≤ n ∧ n < 1267650600228 ∧ 0 ≤ a ∧ a < 1267650600228) : rngOf [.int a, .int n] = some (rngD a n) := rngOf2 h.1 h.2.1 h.2.2.1 h.2.2.2
/-- a comprehension that leaves the slots as they are -/
theorem comp_fm {step : D → Env → Option (Option D × Env)} {ρ : Env} (g : D → Option D) : ∀ {ds acc : List D}, acc.length + ds.length ≤ lim → (∀ d ∈ ds, step d ρ = some (g d, ρ)) → compL step ds acc ρ = some (acc ++ ds.filterMap g, ρ)
  | [], acc, _, _ => by rw [List.filterMap_nil, List.append_nil]; rfl
  | d :: ds, acc, hl, h => by
    rw [List.length_cons] at hl
    unfold compL
    rw [h d (by simp)]
    cases e : g d with
    | none =>
      rw [List.filterMap_cons_none e]
      exact comp_fm g (by omega) fun x hx => h x (List.mem_cons_of_mem _ hx)
    | some x =>
      rw [List.filterMap_cons_some e]
      simp only
      rw [if_pos (by omega), comp_fm g (by rw [List.length_append]; simp; omega) fun x hx => h x (List.mem_cons_of_mem _ hx), List.append_assoc]
      rfl
theorem coMap {step : D → Env → Option (Option D × Env)} {ρ : Env} (g : D → D) {ds : List D} (hl : ds.length ≤ lim) (h : ∀ d ∈ ds, step d ρ = some (some (g d), ρ)) : compL step ds [] ρ = some (ds.map g, ρ) := by
  rw [comp_fm (fun d => some (g d)) (by simpa using hl) h, List.nil_append, show (fun d => some (g d)) = some ∘ g from rfl, List.filterMap_eq_map]
theorem all_bl {l : List D} {p : D → Bool} : allD [.own (l.map fun d => .bl (p d))] = some (.bl (l.all p)) := by
  have h : ∀ l : List D, allBl (l.map fun d => .bl (p d)) = some (l.map p) := by
    intro l
    induction l with
    | nil => rfl
    | cons d l ih => simp only [List.map_cons]; unfold allBl; rw [ih]; rfl
  show ((allBl (l.map fun d => .bl (p d))).map fun bs => D.bl (bs.all id)) = _
  rw [h]
  show some (D.bl _) = _
  rw [List.all_map]
  rfl
theorem fzL_mem {l : List D} (h : ∀ d ∈ l, d.fz = true) : fzL l = true := by
  induction l with
  | nil => rfl
  | cons d l ih => unfold fzL; rw [h d (by simp), ih fun x hx => h x (List.mem_cons_of_mem _ hx)]; rfl
theorem mem_fzL {l : List D} (h : fzL l = true) : ∀ d ∈ l, d.fz = true := by
  induction l with
  | nil => intro d hd; cases hd
  | cons d l ih =>
    unfold fzL at h
    rw [Bool.and_eq_true] at h
    intro x hx
    rcases List.mem_cons.mp hx with rfl | hx
    · exact h.1
    · exact ih h.2 x hx
theorem str_ne {d : D} {w : Str} (h : Lay 64 d) (hw : PyData.strOk w = true) (e : ∀ x, d ≠ .str x) : eqD d (.str w) = some false := by
  unfold eqD
  have s1 : SeqAt.shaped d.py = true := Bool.and_eq_true_iff.mpr ⟨h.1, decide_eq_true h.2⟩
  have s2 : SeqAt.shaped (D.str w).py = true := Bool.and_eq_true_iff.mpr ⟨hw, rfl⟩
  rw [if_pos (Bool.and_eq_true_iff.mpr ⟨s1, s2⟩)]
  congr 1
  cases d <;> first | (exact absurd rfl (e _)) | (simp only [D.py]; rw [PyData.eqv])
theorem str_eq {x w : Str} (hx : PyData.strOk x = true) (hw : PyData.strOk w = true) : eqD (.str x) (.str w) = some (x == w) := by
  unfold eqD
  have s1 : SeqAt.shaped (D.str x).py = true := Bool.and_eq_true_iff.mpr ⟨hx, rfl⟩
  have s2 : SeqAt.shaped (D.str w).py = true := Bool.and_eq_true_iff.mpr ⟨hw, rfl⟩
  rw [if_pos (Bool.and_eq_true_iff.mpr ⟨s1, s2⟩)]
  congr 1
theorem addO {a b : List D} (h : fzL a = true ∧ fzL b = true ∧ a.length + b.length ≤ 16777216) : binD .Add (.own a) (.own b) = some (.own (a ++ b)) := by
  show (if fzL a && fzL b && decide (a.length + b.length ≤ lim) then _ else _) = _
  rw [if_pos (by rw [h.1, h.2.1, decide_eq_true (show a.length + b.length ≤ lim from h.2.2)]; rfl)]
theorem addT {a b : List D} (h : fzL a = true ∧ fzL b = true ∧ a.length + b.length ≤ 16777216) : binD .Add (.tup a) (.tup b) = some (.tup (a ++ b)) := by
  show (if fzL a && fzL b && decide (a.length + b.length ≤ lim) then _ else _) = _
  rw [if_pos (by rw [h.1, h.2.1, decide_eq_true (show a.length + b.length ≤ lim from h.2.2)]; rfl)]
theorem kits : L2.kitB "NoneType" "tuple" = some false ∧ L2.kitB "NoneType" "int" = some false ∧ L2.kitB "NoneType" "bool" = some false ∧ L2.kitB "NoneType" "str" = some false ∧ L2.kitB "NoneType" "list" = some false ∧ L2.kitB "bool" "tuple" = some false ∧ L2.kitB "bool" "bool" = some true ∧ L2.kitB "bool" "str" = some false ∧ L2.kitB "bool" "list" = some false ∧ L2.kitB "int" "tuple" = some false ∧ L2.kitB "int" "int" = some true ∧ L2.kitB "int" "bool" = some false ∧ L2.kitB "int" "str" = some false ∧ L2.kitB "int" "list" = some false ∧ L2.kitB "str" "tuple" = some false ∧ L2.kitB "str" "int" = some false ∧ L2.kitB "str" "bool" = some false ∧ L2.kitB "str" "str" = some true ∧ L2.kitB "str" "list" = some false ∧ L2.kitB "tuple" "tuple" = some true ∧ L2.kitB "tuple" "int" = some false ∧ L2.kitB "tuple" "bool" = some false ∧ L2.kitB "tuple" "str" = some false ∧ L2.kitB "tuple" "list" = some false ∧ L2.kitB "list" "tuple" = some false ∧ L2.kitB "list" "int" = some false ∧ L2.kitB "list" "bool" = some false ∧ L2.kitB "list" "str" = some false ∧ L2.kitB "list" "list" = some true := ⟨rfl, rfl, rfl, rfl, rfl, rfl, rfl, rfl, rfl, rfl, rfl, rfl, rfl, rfl, rfl, rfl, rfl, rfl, rfl, rfl, rfl, rfl, rfl, rfl, rfl, rfl, rfl, rfl, rfl⟩
end Co

set_option maxRecDepth 100000
set_option maxHeartbeats 4000000
/-! CoreU: the drawer, typed loops and comprehensions, small facts -/
namespace Co
open PySem
theorem giv {p q : Prop} (h : p) (k : p → q) : q := k h
section
variable {α β : Type}
theorem wp_eq {o : Option α} {x : α} : Wp (fun r => r = x) o ↔ o = some x := ⟨fun ⟨y, e, h⟩ => by rw [e, h], fun h => ⟨x, h, rfl⟩⟩
theorem wp_if {P : α → Prop} {c : Prop} {_ : Decidable c} {a b : Option α} (h1 : c → Wp P a) (h2 : ¬ c → Wp P b) : Wp P (if c then a else b) := by
  split
  · exact h1 ‹_›
  · exact h2 ‹_›
theorem get_map {f : α → D} {l : List α} {i : Nat} {v : D} (h : (l.map f)[i]? = some v) : ∃ a, l[i]? = some a ∧ a ∈ l ∧ v = f a := by
  rw [List.getElem?_map] at h
  cases e : l[i]? with
  | none => rw [e] at h; cases h
  | some a => rw [e] at h; cases h; exact ⟨a, rfl, List.mem_of_getElem? e, rfl⟩
theorem map_at {f : α → D} {l : List α} {i : Nat} {a : α} (h : l[i]? = some a) : (l.map f)[i]? = some (f a) := by
  rw [List.getElem?_map, h]; rfl
theorem fz_map {f : α → D} (hf : ∀ a, (f a).fz = true) (l : List α) : fzL (l.map f) = true := fzL_mem fun d hd => by
  obtain ⟨a, _, rfl⟩ := List.mem_map.mp hd
  exact hf a
theorem fzL_app {a b : List D} (ha : fzL a = true) (hb : fzL b = true) : fzL (a ++ b) = true := fzL_mem fun d hd => (List.mem_append.mp hd).elim (mem_fzL ha d) (mem_fzL hb d)
theorem fzL_one {a : D} (ha : a.fz = true) : fzL [a] = true := by simp only [fzL, ha, Bool.and_true]
theorem fzL_take {a : List D} {n : Nat} (ha : fzL a = true) : fzL (a.take n) = true := fzL_mem fun d hd => mem_fzL ha d (List.mem_of_mem_take hd)
theorem fzL_drop {a : List D} {n : Nat} (ha : fzL a = true) : fzL (a.drop n) = true := fzL_mem fun d hd => mem_fzL ha d (List.mem_of_mem_drop hd)
theorem fzL_perm {a b : List D} (h : a.Perm b) (hb : fzL b = true) : fzL a = true := fzL_mem fun d hd => mem_fzL hb d (h.mem_iff.mp hd)
/-! ### typed loops -/
theorem wp_forM {f : α → D} {l : List α} {step : D → Env → Option Out} {P : Out → Prop} {ρ : Env} (I : Nat → Env → Prop) (h0 : I 0 ρ) (hs : ∀ i a ρ, l[i]? = some a → i < l.length → a ∈ l → I i ρ → Wp (TurnP P (I (i + 1))) (step (f a) ρ)) (hk : ∀ ρ', I l.length ρ' → P (.nx ρ')) : Wp P (forL step (l.map f) ρ) := by
  refine wp_forP I h0 (fun i d ρ hi hI => ?_) (fun ρ' h => hk ρ' (by rwa [List.length_map] at h))
  obtain ⟨a, e, hm, rfl⟩ := get_map hi
  exact hs i a ρ e (List.getElem?_eq_some_iff.mp e).1 hm hI
theorem wp_forR {n : Int} {step : D → Env → Option Out} {P : Out → Prop} {ρ : Env} (I : Nat → Env → Prop) (h0 : I 0 ρ) (hs : ∀ (i : Nat) ρ, (i : Int) < n → I i ρ → Wp (TurnP P (I (i + 1))) (step (.int i) ρ)) (hk : ∀ ρ', I n.toNat ρ' → P (.nx ρ')) : Wp P (forL step (rngD 0 n) ρ) := by
  refine wp_forP I h0 (fun i d ρ hi hI => ?_) (fun ρ' h => hk ρ' (by rwa [rngd_len, Int.sub_zero] at h))
  obtain ⟨rfl, hlt⟩ := rngd_get hi
  rw [Int.zero_add] at hlt ⊢
  exact hs i ρ hlt hI
theorem enum_at {l : List D} {i : Nat} {d : D} (h : (enumL 0 l)[i]? = some d) : ∃ x, l[i]? = some x ∧ d = .tup [.int (i : Nat), x] := by
  have hl : i < l.length := by
    have := (List.getElem?_eq_some_iff.mp h).1
    rwa [enum_len] at this
  have q := enum_get (k := 0) (i := i) (d := l[i]) (List.getElem?_eq_getElem hl)
  rw [h] at q
  cases q
  exact ⟨l[i], List.getElem?_eq_getElem hl, by simp⟩
theorem wp_forE {f : α → D} {l : List α} {step : D → Env → Option Out} {P : Out → Prop} {ρ : Env} (I : Nat → Env → Prop) (h0 : I 0 ρ) (hs : ∀ i a ρ, l[i]? = some a → i < l.length → a ∈ l → I i ρ → Wp (TurnP P (I (i + 1))) (step (.tup [.int (i : Nat), f a]) ρ)) (hk : ∀ ρ', I l.length ρ' → P (.nx ρ')) : Wp P (forL step (enumL 0 (l.map f)) ρ) := by
  refine wp_forP I h0 (fun i d ρ hi hI => ?_) (fun ρ' h => hk ρ' (by rwa [enum_len, List.length_map] at h))
  obtain ⟨x, hx, rfl⟩ := enum_at hi
  obtain ⟨a, e, hm, rfl⟩ := get_map hx
  exact hs i a ρ e (List.getElem?_eq_some_iff.mp e).1 hm hI
/-! ### comprehensions that leave the slots -/
theorem wp_cmap {f : α → D} {l : List α} {step : D → Env → Option (Option D × Env)} {ρ : Env} (g : α → D) (hl : l.length ≤ 16777216) (h : ∀ a ∈ l, step (f a) ρ = some (some (g a), ρ)) : Wp (fun r => r = (l.map g, ρ)) (compL step (l.map f) [] ρ) := by
  have : ∀ (l : List α) (acc : List D), acc.length + l.length ≤ lim → (∀ a ∈ l, step (f a) ρ = some (some (g a), ρ)) → compL step (l.map f) acc ρ = some (acc ++ l.map g, ρ) := by
    intro l
    induction l with
    | nil => intro acc _ _; simp [compL]
    | cons a l ih =>
      intro acc hl h
      rw [List.length_cons] at hl
      rw [List.map_cons]
      unfold compL
      rw [h a (by simp)]
      simp only
      rw [if_pos (by omega), ih _ (by rw [List.length_append]; simp; omega) fun x hx => h x (List.mem_cons_of_mem _ hx)]
      simp
  exact wp_eq.mpr (this l [] (by simpa [lim_lit] using hl) h)
theorem wp_cfm {f : α → D} {l : List α} {step : D → Env → Option (Option D × Env)} {ρ : Env} (g : α → Option D) (hl : l.length ≤ 16777216) (h : ∀ a ∈ l, step (f a) ρ = some (g a, ρ)) : Wp (fun r => r = (l.filterMap g, ρ)) (compL step (l.map f) [] ρ) := by
  have : ∀ (l : List α) (acc : List D), acc.length + l.length ≤ lim → (∀ a ∈ l, step (f a) ρ = some (g a, ρ)) → compL step (l.map f) acc ρ = some (acc ++ l.filterMap g, ρ) := by
    intro l
    induction l with
    | nil => intro acc _ _; simp [compL]
    | cons a l ih =>
      intro acc hl h
      rw [List.length_cons] at hl
      rw [List.map_cons]
      unfold compL
      rw [h a (by simp)]
      cases e : g a with
      | none => simp only; rw [ih _ (by omega) fun x hx => h x (List.mem_cons_of_mem _ hx), List.filterMap_cons_none e]
      | some y =>
        simp only
        rw [if_pos (by omega), ih _ (by rw [List.length_append]; simp; omega) fun x hx => h x (List.mem_cons_of_mem _ hx), List.filterMap_cons_some e]
        simp
  exact wp_eq.mpr (this l [] (by simpa [lim_lit] using hl) h)
/-- a filter: [f a for a in .. if p a], then mapped -/
theorem wp_cfil {f : α → D} {l : List α} {step : D → Env → Option (Option D × Env)} {ρ : Env} (p : α → Bool) (g : α → D) (hl : l.length ≤ 16777216) (h : ∀ a ∈ l, step (f a) ρ = some (if p a then some (g a) else none, ρ)) : Wp (fun r => r = ((l.filter p).map g, ρ)) (compL step (l.map f) [] ρ) := by
  refine wp_mono (wp_cfm (fun a => if p a then some (g a) else none) hl h) ?_
  rintro _ rfl
  congr 1
  clear hl h
  induction l with
  | nil => rfl
  | cons a l ih =>
    cases e : p a with
    | true => rw [List.filterMap_cons_some (by rw [e]; rfl), List.filter_cons_of_pos e, List.map_cons, ih]
    | false => rw [List.filterMap_cons_none (by rw [e]; rfl), List.filter_cons_of_neg (by simp [e]), ih]
/-- .. over a range -/
theorem wp_crng {n : Int} {step : D → Env → Option (Option D × Env)} {ρ : Env} (g : Nat → D) (hl : n ≤ 16777216) (h : ∀ i : Nat, (i : Int) < n → step (.int i) ρ = some (some (g i), ρ)) : Wp (fun r => r = ((List.range n.toNat).map g, ρ)) (compL step (rngD 0 n) [] ρ) := by
  have e : rngD 0 n = (List.range n.toNat).map fun (k : Nat) => D.int (k : Int) := by unfold rngD; rw [Int.sub_zero]; congr 1; funext k; rw [Int.zero_add]
  rw [e]
  exact wp_cmap g (by rw [List.length_range]; omega) fun a ha => h a (by have := List.mem_range.mp ha; omega)
end
/-! ### the drawer -/
def Dd (B : Nat) (d : D) : Prop := ∃ (l : List Int) (p v s c : Int), d = .own [.lst (l.map D.int), .int p, .int v, .int s, .int c] ∧ 0 ≤ p ∧ 0 ≤ v ∧ 0 ≤ s ∧ s < 2305843009213693951 ∧ 0 ≤ c ∧ c ≤ B
theorem Dd.mono {B B' : Nat} {d : D} (h : Dd B d) (hb : B ≤ B') : Dd B' d := by
  obtain ⟨l, p, v, s, c, e, h1, h2, h3, h4, h5, h6⟩ := h
  exact ⟨l, p, v, s, c, e, h1, h2, h3, h4, h5, by omega⟩
theorem Dd.fz {B : Nat} {d : D} (h : Dd B d) : d.fz = false := by
  obtain ⟨l, p, v, s, c, rfl, _⟩ := h
  rfl
def DrawQ (B : Nat) (m : Int) (r : D × List Sl) : Prop := ∃ x d', r = (.int x, [.bo d', .no]) ∧ 0 ≤ x ∧ (1 ≤ m → x < m) ∧ Dd (B + 1) d'
theorem drawQ_mk {B : Nat} {m x : Int} {l : List Int} {p v s c : Int} (h0 : 0 ≤ x) (h1 : 1 ≤ m → x < m) (h2 : 0 ≤ p) (h3 : 0 ≤ v) (h4 : 0 ≤ s) (h5 : s < 2305843009213693951) (h6 : 0 ≤ c) (h7 : c ≤ B + 1) :
    DrawQ B m (.int x, [.bo (.own [.lst (l.map D.int), .int p, .int v, .int s, .int c]), .no]) := ⟨x, _, rfl, h0, h1, l, p, v, s, c, rfl, h2, h3, h4, h5, h6, by omega⟩
/-- n items drawn, c draws each at most -/
theorem wp_cdraw {α : Type} {step : D → Env → Option (Option D × Env)} (ρf : D → Env) (f : α → D) (P : α → Prop) (c : Nat) {n B : Nat} {d : D} {ds : List D} (hd : Dd B d) (hl : ds.length = n) (hn : n ≤ 1000000)
    (hstep : ∀ i d' v, i < n → ds[i]? = some v → Dd (B + c * i) d' → Wp (fun x => ∃ y d2, x = (some (f y), ρf d2) ∧ P y ∧ Dd (B + c * i + c) d2) (step v (ρf d'))) :
    Wp (fun r => ∃ (l : List α) (d2 : D), r = (l.map f, ρf d2) ∧ (∀ y ∈ l, P y) ∧ l.length = n ∧ Dd (B + c * n) d2) (compL step ds [] (ρf d)) := by
  refine wp_comp (fun i acc ρ => ∃ (l : List α) (d' : D), ρ = ρf d' ∧ acc = l.map f ∧ (∀ y ∈ l, P y) ∧ l.length = i ∧ Dd (B + c * i) d') ?_ ?_ ?_ ?_
  · exact ⟨[], d, rfl, rfl, fun y z => (nomatch z), rfl, by simpa using hd⟩
  · rw [hl, lim_lit]; simp; omega
  · rintro i v acc _ hi ⟨l, d', rfl, rfl, hp, hal, hd'⟩
    have hi2 : i < n := by rw [← hl]; exact (List.getElem?_eq_some_iff.mp hi).1
    refine wp_mono (hstep i d' v hi2 hi hd') ?_
    rintro _ ⟨y, d2, rfl, hy, hd2⟩
    refine ⟨l ++ [y], d2, rfl, by simp, fun y' z => ?_, by rw [List.length_append, hal]; rfl, by rw [Nat.mul_succ, ← Nat.add_assoc]; exact hd2⟩
    rcases List.mem_append.mp z with z | z
    · exact hp y' z
    · have z' : y' = y := by simpa using z
      rw [z']; exact hy
  · rintro acc _ ⟨l, d', rfl, rfl, hp, hal, hd'⟩ _
    rw [hl] at hal hd'
    exact ⟨l, d', rfl, hp, hal, hd'⟩
/-! ### small facts -/
theorem popI {l : List D} {i : Int} {n : Nat} (h : i = n) (hn : n < l.length) (hl : l.length ≤ 16777216) (hf : fzL l = true) : popD l [.int i] = some (l.getD n .non, l.eraseIdx n) := by
  subst h
  unfold popD
  simp only
  rw [if_pos (by omega), ixN_pos (by omega) (by omega), Int.toNat_natCast, Option.bind_some, List.getElem?_eq_getElem hn, Option.bind_some, if_pos (mem_fzL hf _ (List.getElem_mem hn)), List.getD_eq_getElem?_getD, List.getElem?_eq_getElem hn]
  rfl
theorem minI {i j : Int} : minD [.int i, .int j] = some (.int (min i j)) := by
  show some (D.int (if j < i then j else i)) = _
  congr 2
  split <;> omega
theorem maxI {i j : Int} : maxD [.int i, .int j] = some (.int (max i j)) := by
  show some (D.int (if j > i then j else i)) = _
  congr 2
  split <;> omega
theorem cut_take {l : List D} {p : Nat} (h : p ≤ l.length) : cutD l none (some (p : Int)) = l.take p := by
  unfold cutD
  rw [HT.sIx_nat, HT.sIx_none, Nat.min_eq_left h]
  simp
theorem cut_drop {l : List D} {p : Nat} (h : p ≤ l.length) : cutD l (some (p : Int)) none = l.drop p := by
  unfold cutD
  rw [HT.sIx_nat, HT.sIx_none, Nat.min_eq_left h]
  exact List.take_of_length_le (by simp)
theorem cut_takeA {l : List D} {p : Nat} : cutD l none (some (p : Int)) = l.take p := by
  unfold cutD
  rw [HT.sIx_nat, HT.sIx_none, Nat.sub_zero, List.drop_zero]
  by_cases h : p ≤ l.length
  · rw [Nat.min_eq_left h]
  · rw [Nat.min_eq_right (by omega), List.take_length, List.take_of_length_le (by omega)]
theorem cut_dropA {l : List D} {p : Nat} : cutD l (some (p : Int)) none = l.drop p := by
  unfold cutD
  rw [HT.sIx_nat, HT.sIx_none]
  by_cases h : p ≤ l.length
  · rw [Nat.min_eq_left h]; exact List.take_of_length_le (by simp)
  · rw [Nat.min_eq_right (by omega), List.drop_length, List.drop_of_length_le (by omega)]; simp
theorem slT_take {l : List D} {p : Nat} (hf : fzL l = true) : slD (.tup l) none (some (p : Int)) = some (.tup (l.take p)) := by
  show (if fzL l then some (D.tup (cutD l none (some (p : Int)))) else none) = _
  rw [if_pos hf, cut_takeA]
theorem slT_drop {l : List D} {p : Nat} (hf : fzL l = true) : slD (.tup l) (some (p : Int)) none = some (.tup (l.drop p)) := by
  show (if fzL l then some (D.tup (cutD l (some (p : Int)) none)) else none) = _
  rw [if_pos hf, cut_dropA]
theorem slO_take {l : List D} {p : Nat} (hf : fzL l = true) : slD (.own l) none (some (p : Int)) = some (.own (l.take p)) := by
  show (if fzL l then some (D.own (cutD l none (some (p : Int)))) else none) = _
  rw [if_pos hf, cut_takeA]
theorem slO_drop {l : List D} {p : Nat} (hf : fzL l = true) : slD (.own l) (some (p : Int)) none = some (.own (l.drop p)) := by
  show (if fzL l then some (D.own (cutD l (some (p : Int)) none)) else none) = _
  rw [if_pos hf, cut_dropA]
theorem erase_perm {α : Type} : ∀ {l : List α} {n : Nat} (h : n < l.length), (l[n] :: l.eraseIdx n).Perm l
  | a :: l, 0, _ => by simp
  | a :: l, n + 1, h => by
    simp only [List.getElem_cons_succ, List.eraseIdx_cons_succ]
    exact (List.Perm.swap a _ _).trans ((erase_perm (l := l) (n := n) (by simpa using h)).cons a)
theorem map_erase {α : Type} {f : α → D} : ∀ {l : List α} {n : Nat}, (l.map f).eraseIdx n = (l.eraseIdx n).map f
  | [], _ => rfl
  | a :: l, 0 => rfl
  | a :: l, n + 1 => by simp only [List.map_cons, List.eraseIdx_cons_succ, map_erase]
theorem eq_some {a b : D} (ha : Lay 64 a) (hb : Lay 64 b) : eqD a b = some (PyData.eqv a.py b.py) := by
  unfold eqD
  have s1 : SeqAt.shaped a.py = true := Bool.and_eq_true_iff.mpr ⟨ha.1, decide_eq_true ha.2⟩
  have s2 : SeqAt.shaped b.py = true := Bool.and_eq_true_iff.mpr ⟨hb.1, decide_eq_true hb.2⟩
  exact if_pos (Bool.and_eq_true_iff.mpr ⟨s1, s2⟩)
theorem idxF_some {y : D} : ∀ {l : List D}, (∃ d ∈ l, eqF d y = true) → ∃ n, idxF y l = some n ∧ n < l.length
  | [], ⟨d, hd, _⟩ => nomatch hd
  | a :: l, ⟨d, hd, he⟩ => by
    unfold idxF
    by_cases h : eqF a y = true
    · exact ⟨0, by rw [if_pos h], by simp⟩
    · rcases List.mem_cons.mp hd with rfl | hd
      · exact absurd he h
      · obtain ⟨n, e, hn⟩ := idxF_some (l := l) ⟨d, hd, he⟩
        exact ⟨n + 1, by rw [if_neg h, e]; rfl, by simp; omega⟩
theorem index_some {y : D} {l : List D} (hy : y.flat = true) (hl : l.all D.flat = true) (h : ∃ d ∈ l, eqF d y = true) : ∃ n : Nat, indexD l y = some (.int n) ∧ n < l.length := by
  obtain ⟨n, e, hn⟩ := idxF_some h
  exact ⟨n, by unfold indexD; rw [hy, hl, e]; rfl, hn⟩
theorem flat_map {α : Type} {f : α → D} (hf : ∀ a, (f a).flat = true) (l : List α) : (l.map f).all D.flat = true := by
  rw [List.all_map]
  exact List.all_eq_true.mpr fun a _ => hf a
theorem sum_ints {l : List Int} : sumD [.own (l.map D.int)] = some (.int l.sum) := by
  have h : allInt (l.map D.int) = some l := by
    induction l with
    | nil => rfl
    | cons a l ih => simp only [List.map_cons]; unfold allInt; rw [ih]; rfl
  show ((allInt (l.map D.int)).map fun ns => D.int ns.sum) = _
  rw [h]
  rfl
theorem atI_nat {l : List D} {i : Nat} : L2.atI l (i : Int) = l[i]? := by rw [atI_pos (by omega), Int.toNat_natCast]
theorem getD_mem {l : List D} {n : Nat} (h : n < l.length) : l.getD n .non ∈ l := by
  rw [List.getD_eq_getElem?_getD, List.getElem?_eq_getElem h]
  exact List.getElem_mem h
theorem getD_at {l : List D} {n : Nat} (h : n < l.length) : l[n]? = some (l.getD n .non) := by
  rw [List.getD_eq_getElem?_getD, List.getElem?_eq_getElem h]; rfl
theorem getD_map {α : Type} {f : α → D} {l : List α} {n : Nat} (h : n < l.length) : (l.map f).getD n .non = f l[n] := by
  rw [List.getD_eq_getElem?_getD, List.getElem?_map, List.getElem?_eq_getElem h]; rfl
theorem tupI {l : List D} {i : Nat} {d : D} (h : l[i]? = some d) (hf : fzL l = true) : idxD (.tup l) (.int (i : Nat)) = some d := by
  show ((L2.atI l (i : Int)).bind fun d => if d.fz then some d else none) = _
  rw [atI_nat, h]
  show (if d.fz then some d else none) = _
  rw [if_pos (mem_fzL hf d (List.mem_of_getElem? h))]
theorem ownI {l : List D} {i : Nat} {d : D} (h : l[i]? = some d) (hf : fzL l = true) : idxD (.own l) (.int (i : Nat)) = some d := by
  show ((L2.atI l (i : Int)).bind fun d => if d.fz then some d else none) = _
  rw [atI_nat, h]
  show (if d.fz then some d else none) = _
  rw [if_pos (mem_fzL hf d (List.mem_of_getElem? h))]
end Co
namespace Co
open PySem
/-! ### strings -/
def OkS (l : List Str) : Prop := ∀ x ∈ l, PyData.strOk x = true
theorem fz_str (l : List Str) : fzL (l.map D.str) = true := fz_map (fun _ => rfl) l
theorem OkS.perm {a b : List Str} (h : a.Perm b) (hb : OkS b) : OkS a := fun x hx => hb x (h.mem_iff.mp hx)
theorem OkS.tail {x : Str} {l : List Str} (h : OkS (x :: l)) : OkS l := fun y hy => h y (List.mem_cons_of_mem _ hy)
theorem OkS.app {a : List Str} {x : Str} (h : OkS a) (hx : PyData.strOk x = true) : OkS (a ++ [x]) := fun y hy => by
  rcases List.mem_append.mp hy with hy | hy
  · exact h y hy
  · have : y = x := by simpa using hy
    rw [this]; exact hx
theorem OkS.nil : OkS [] := fun _ z => nomatch z
end Co
namespace Co
open PySem
theorem frz_str (l : List Str) : frzL (l.map D.str) = l.map D.str := by
  induction l with
  | nil => rfl
  | cons a l ih => simp only [List.map_cons, frzL, D.frz, ih]
theorem perm_unmap {α : Type} {f : α → D} : ∀ {l : List α} {m : List D}, m.Perm (l.map f) → ∃ p : List α, m = p.map f ∧ p.Perm l
  | [], m, h => ⟨[], List.Perm.eq_nil h, List.Perm.refl _⟩
  | a :: l, m, h => by
    have hm : f a ∈ m := h.mem_iff.mpr (by simp)
    obtain ⟨s, t, rfl⟩ := List.append_of_mem hm
    have h2 : (s ++ t).Perm (l.map f) := (List.perm_cons (f a)).mp (List.perm_middle.symm.trans h)
    obtain ⟨p, e, hp⟩ := perm_unmap h2
    obtain ⟨p1, p2, rfl, rfl, rfl⟩ := List.map_eq_append_iff.mp e.symm
    exact ⟨p1 ++ a :: p2, by simp, List.perm_middle.trans (hp.cons a)⟩
theorem rngd_map {n : Int} : rngD 0 n = ((List.range n.toNat).map fun (k : Nat) => (k : Int)).map D.int := by
  unfold rngD
  rw [Int.sub_zero, List.map_map]
  congr 1
  funext k
  simp
theorem allInt_map (l : List Int) : allInt (l.map D.int) = some l := by
  induction l with
  | nil => rfl
  | cons a l ih => simp only [List.map_cons]; unfold allInt; rw [ih]; rfl
theorem most_mem : ∀ {l : List Int}, l ≠ [] → ∃ m, mostI l = some m ∧ m ∈ l ∧ ∀ x ∈ l, x ≤ m
  | [], h => absurd rfl h
  | [a], _ => ⟨a, rfl, by simp, by simp⟩
  | a :: b :: l, _ => by
    obtain ⟨m, e, hm, hx⟩ := most_mem (l := b :: l) (by simp)
    refine ⟨if a < m then m else a, by unfold mostI; rw [e]; rfl, ?_, fun x h => ?_⟩
    · split
      · exact List.mem_cons_of_mem _ hm
      · simp
    · rcases List.mem_cons.mp h with rfl | h
      · split <;> omega
      · have := hx x h; split <;> omega
theorem least_mem : ∀ {l : List Int}, l ≠ [] → ∃ m, leastI l = some m ∧ m ∈ l ∧ ∀ x ∈ l, m ≤ x
  | [], h => absurd rfl h
  | [a], _ => ⟨a, rfl, by simp, by simp⟩
  | a :: b :: l, _ => by
    obtain ⟨m, e, hm, hx⟩ := least_mem (l := b :: l) (by simp)
    refine ⟨if m < a then m else a, by unfold leastI; rw [e]; rfl, ?_, fun x h => ?_⟩
    · split
      · exact List.mem_cons_of_mem _ hm
      · simp
    · rcases List.mem_cons.mp h with rfl | h
      · split <;> omega
      · have := hx x h; split <;> omega
theorem max_ints {l : List Int} (h : l ≠ []) : ∃ m, maxD [.own (l.map D.int)] = some (.int m) ∧ m ∈ l ∧ ∀ x ∈ l, x ≤ m := by
  obtain ⟨m, e, h1, h2⟩ := most_mem h
  refine ⟨m, ?_, h1, h2⟩
  show ((allInt (l.map D.int)).bind fun ns => (mostI ns).map D.int) = _
  rw [allInt_map, Option.bind_some, e]; rfl
theorem min_ints {l : List Int} (h : l ≠ []) : ∃ m, minD [.own (l.map D.int)] = some (.int m) ∧ m ∈ l ∧ ∀ x ∈ l, m ≤ x := by
  obtain ⟨m, e, h1, h2⟩ := least_mem h
  refine ⟨m, ?_, h1, h2⟩
  show ((allInt (l.map D.int)).bind fun ns => (leastI ns).map D.int) = _
  rw [allInt_map, Option.bind_some, e]; rfl
theorem sum_le {l : List Int} {a b : Int} (h : ∀ x ∈ l, a ≤ x ∧ x ≤ b) : a * l.length ≤ l.sum ∧ l.sum ≤ b * l.length := by
  induction l with
  | nil => simp
  | cons x l ih =>
    have h1 := h x (by simp)
    have h2 := ih fun y hy => h y (List.mem_cons_of_mem _ hy)
    have e1 : a * ((l.length + 1 : Nat) : Int) = a * l.length + a := by rw [Int.natCast_add, Int.mul_add]; simp
    have e2 : b * ((l.length + 1 : Nat) : Int) = b * l.length + b := by rw [Int.natCast_add, Int.mul_add]; simp
    rw [List.sum_cons, List.length_cons, e1, e2]
    omega
end Co
namespace Co
open PySem
theorem enum_map {α : Type} [Inhabited α] {f : α → D} {l : List α} : enumL 0 (l.map f) = (List.range l.length).map fun (i : Nat) => .tup [.int (i : Int), f l[i]!] := by
  apply List.ext_getElem?
  intro i
  by_cases h : i < l.length
  · rw [enum_get (d := f l[i]) (by rw [List.getElem?_map, List.getElem?_eq_getElem h]; rfl), List.getElem?_map, List.getElem?_range h]
    simp [h]
  · rw [List.getElem?_eq_none (by rw [enum_len, List.length_map]; omega), List.getElem?_eq_none (by simp; omega)]
theorem rngd_nat {n : Nat} : rngD 0 (n : Int) = (List.range n).map fun (k : Nat) => D.int (k : Int) := by
  unfold rngD
  rw [Int.sub_zero, Int.toNat_natCast]
  congr 1
  funext k
  rw [Int.zero_add]
theorem lay_ints {l : List Int} : ∀ d ∈ l.map D.int, Lay 0 d := lay_map (fun _ => lay_int) l
theorem lay_tint {l : List Int} : Lay 64 (.tup (l.map D.int)) := (lay_tup lay_ints).mono (by omega)
theorem lay_oint {l : List Int} : Lay 64 (.own (l.map D.int)) := (lay_own lay_ints).mono (by omega)
end Co
namespace Co
/-- a block's rest -/
def tailOf : Nat → C → C
  | 0, c => c
  | n + 1, .cons _ r => tailOf n r
  | _, c => c
end Co

set_option maxRecDepth 100000
set_option maxHeartbeats 4000000
namespace K09
open PySem PySem.Spec PyProof.Rows L2 Co
abbrev nm : List Str := [("work_number" : Str), ("minutes_of" : Str), ("is_kept" : Str), ("broken_promises" : Str), ("_law_begin" : Str), ("_law_draw" : Str), ("_law_pick" : Str), ("_law_pop" : Str), ("_law_rare" : Str), ("_law_between" : Str), ("_law_shuffled" : Str), ("_law_is_int" : Str), ("_law_ints" : Str), ("_law_pool" : Str), ("_law_pair" : Str), ("_law_number" : Str), ("_law_rounds" : Str), ("_law_day_spans" : Str), ("_law_is_log" : Str), ("_law_keeps_promise" : Str), ("_law_put" : Str), ("_law_frame" : Str), ("_law_linked_log" : Str), ("_law_moved_log" : Str), ("_law_near" : Str), ("_law_near_promise" : Str), ("law" : Str)]
abbrev slots : List (List Str) := [
  [("day" : Str), ("name" : Str), ("number" : Str), ("work" : Str)],
  [("day" : Str), ("log" : Str), ("name" : Str)],
  [("day" : Str), ("promise" : Str), ("log" : Str), ("word" : Str), ("after" : Str), ("start" : Str), ("end" : Str), ("other_start" : Str), ("other_end" : Str)],
  [("day" : Str), ("log" : Str), ("k" : Str), ("promise" : Str)],
  [("script" : Str)],
  [("d" : Str), ("many" : Str), ("value" : Str), ("number" : Str), ("step" : Str), ("mixed" : Str)],
  [("d" : Str), ("row" : Str)],
  [("d" : Str), ("row" : Str)],
  [("d" : Str), ("many" : Str)],
  [("d" : Str), ("low" : Str), ("high" : Str)],
  [("d" : Str), ("row" : Str), ("left" : Str), ("found" : Str), ("place" : Str)],
  [("thing" : Str)],
  [("thing" : Str), ("many" : Str), ("one" : Str)],
  [],
  [("d" : Str), ("works" : Str), ("first" : Str), ("second" : Str)],
  [("day" : Str), ("name" : Str), ("one" : Str)],
  [("row" : Str), ("tracks" : Str), ("breaks" : Str), ("turn" : Str), ("power" : Str), ("rounds" : Str), ("v" : Str)],
  [("day" : Str), ("found" : Str), ("one" : Str), ("more" : Str), ("hump" : Str)],
  [("day" : Str), ("log" : Str), ("spans" : Str), ("k" : Str)],
  [("day" : Str), ("promise" : Str), ("log" : Str), ("word" : Str), ("first" : Str), ("second" : Str), ("base" : Str)],
  [("row" : Str), ("place" : Str), ("thing" : Str)],
  [("d" : Str), ("many" : Str), ("longest" : Str), ("pool" : Str), ("yards" : Str), ("works" : Str), ("turn" : Str), ("humps" : Str), ("one" : Str), ("day" : Str), ("leasts" : Str), ("horizon" : Str), ("least" : Str), ("most" : Str), ("row" : Str), ("span" : Str)],
  [("d" : Str), ("day" : Str), ("found" : Str), ("span" : Str), ("length" : Str), ("start" : Str), ("mate" : Str)],
  [("d" : Str), ("day" : Str), ("log" : Str), ("turn" : Str), ("place" : Str), ("start" : Str), ("later" : Str)],
  [("d" : Str), ("value" : Str), ("low" : Str), ("high" : Str)],
  [("d" : Str), ("day" : Str), ("log" : Str), ("names" : Str), ("word" : Str), ("gap" : Str), ("low" : Str), ("way" : Str), ("place" : Str), ("i" : Str), ("j" : Str), ("one" : Str)],
  [("script" : Str), ("d" : Str), ("log" : Str), ("day" : Str), ("turn" : Str), ("many" : Str), ("longest" : Str), ("promises" : Str), ("pool" : Str), ("due" : Str), ("actual" : Str), ("k" : Str)]]
/-- work_number: 0=day 1=name 2=number 3=work -/
def b_work_number : C := (.cons (.for_ (.ttup (.cons (.tnm 2) (.cons (.tnm 3) .nil))) (.senum (.idx (.var 0) (.int 3))) (.cons (.cond (.cmp .Eq (.idx (.var 3) (.int 0)) (.var 1)) (.cons (.ret (.var 2)) .nil) .nil) .nil)) (.cons (.ret .non) .nil))
/-- minutes_of: 0=day 1=log 2=name -/
def b_minutes_of : C := (.cons (.ret (.idx (.var 1) (.call 0 (.cons (.var 0) (.cons (.var 2) .nil))))) .nil)
/-- is_kept: 0=day 1=promise 2=log 3=word 4=after 5=start 6=end 7=other_start 8=other_end -/
def b_is_kept : C := (.cons (.asg (.tnm 3) (.idx (.var 1) (.int 0))) (.cons (.asg (.ttup (.cons (.tnm 5) (.cons (.tnm 6) .nil))) (.call 1 (.cons (.var 0) (.cons (.var 2) (.cons (.idx (.var 1) (.int 1)) .nil))))) (.cons (.cond (.cmp .Eq (.var 3) (.str "from")) (.cons (.ret (.cmp .GtE (.var 5) (.idx (.var 1) (.int 2)))) .nil) .nil) (.cons (.cond (.cmp .Eq (.var 3) (.str "by")) (.cons (.ret (.cmp .LtE (.var 6) (.idx (.var 1) (.int 2)))) .nil) .nil) (.cons (.asg (.ttup (.cons (.tnm 7) (.cons (.tnm 8) .nil))) (.call 1 (.cons (.var 0) (.cons (.var 2) (.cons (.idx (.var 1) (.int 2)) .nil))))) (.cons (.cond (.cmp .Eq (.var 3) (.str "hold")) (.cons (.ret (.cmp .GtE (.var 7) (.blt .min (.cons (.var 6) (.cons (.bin .Add (.var 5) (.idx (.var 1) (.int 3))) .nil))))) .nil) .nil) (.cons (.cond (.cmp .Eq (.var 3) (.str "meet")) (.cons (.ret (.cmp .LtE (.blt .abs (.cons (.bin .Sub (.var 6) (.var 8)) .nil)) (.idx (.var 1) (.int 3)))) .nil) .nil) (.cons (.asg (.tnm 4) (.bin .Sub (.var 7) (.var 5))) (.cons (.cond (.cmp .Eq (.var 3) (.str "after")) (.cons (.asg (.tnm 4) (.bin .Sub (.var 7) (.var 6))) .nil) .nil) (.cons (.ret (.and (.cmp .GtE (.var 4) (.idx (.var 1) (.int 3))) (.one (.or (.cmp .Is (.idx (.var 1) (.int 4)) .non) (.one (.cmp .LtE (.var 4) (.idx (.var 1) (.int 4)))))))) .nil))))))))))
/-- broken_promises: 0=day 1=log 2=k 3=promise -/
def b_broken_promises : C := (.cons (.ret (.blt .tuple (.cons (.comp (.var 2) (.ttup (.cons (.tnm 2) (.cons (.tnm 3) .nil))) (.senum (.idx (.var 0) (.int 4))) (.one (.not (.tst (.call 2 (.cons (.var 0) (.cons (.var 3) (.cons (.var 1) .nil))))))) [2, 3]) .nil))) .nil)
/-- _law_begin: 0=script -/
def b__law_begin : C := (.cons (.ret (.lst (.cons (.frz (.blt .list (.cons (.var 0) .nil))) (.cons (.int 0) (.cons (.int 0) (.cons (.int 7) (.cons (.int 0) .nil))))))) .nil)
/-- _law_draw: 0=d 1=many 2=value 3=number 4=step 5=mixed -/
def b__law_draw : C := (.cons (.cond (.cmp .Lt (.var 1) (.int 2)) (.cons (.ret (.int 0)) .nil) .nil) (.cons (.cond (.cmp .Eq (.idx (.var 0) (.int 2)) (.int 0)) (.cons (.asg (.tsub 0 (.int 4)) (.bin .Add (.idx (.var 0) (.int 4)) (.int 1))) (.cons (.asg (.tnm 3) (.bin .Mult (.int 12345) (.idx (.var 0) (.int 4)))) (.cons (.cond (.cmp .Lt (.idx (.var 0) (.int 1)) (.blt .len (.cons (.idx (.var 0) (.int 0)) .nil))) (.cons (.asg (.tnm 3) (.idx (.idx (.var 0) (.int 0)) (.idx (.var 0) (.int 1)))) (.cons (.asg (.tsub 0 (.int 1)) (.bin .Add (.idx (.var 0) (.int 1)) (.int 1))) (.cons (.cond (.cmp .GtE (.blt .abs (.cons (.var 3) .nil)) (.bin .Pow (.int 10) (.int 18))) (.cons (.asg (.tsub 0 (.int 2)) (.blt .abs (.cons (.var 3) .nil))) .nil) .nil) .nil))) .nil) (.cons (.cond (.cmp .Eq (.idx (.var 0) (.int 2)) (.int 0)) (.cons (.asg (.tnm 4) (.bin .Add (.bin .Add (.bin .Add (.bin .Mult (.idx (.var 0) (.int 3)) (.int 1103515245)) (.bin .Mult (.var 3) (.int 69069))) (.int 12345)) (.bin .Mult (.int 7919) (.idx (.var 0) (.int 4))))) (.cons (.asg (.tsub 0 (.int 3)) (.bin .Mod (.blt .int (.cons (.var 4) .nil)) (.int 2305843009213693951))) (.cons (.asg (.tnm 5) (.bin .Add (.bin .Mult (.idx (.var 0) (.int 3)) (.int 48271)) (.bin .FloorDiv (.idx (.var 0) (.int 3)) (.int 8191)))) (.cons (.ret (.bin .Mod (.blt .int (.cons (.bin .FloorDiv (.var 5) (.int 33554393)) .nil)) (.var 1))) .nil)))) .nil) .nil)))) .nil) (.cons (.asg (.tnm 2) (.bin .Mod (.blt .int (.cons (.idx (.var 0) (.int 2)) .nil)) (.var 1))) (.cons (.asg (.tsub 0 (.int 2)) (.bin .FloorDiv (.idx (.var 0) (.int 2)) (.var 1))) (.cons (.ret (.var 2)) .nil)))))
/-- _law_pick: 0=d 1=row -/
def b__law_pick : C := (.cons (.ret (.idx (.var 1) (.call 5 (.cons (.var 0) (.cons (.blt .len (.cons (.var 1) .nil)) .nil))))) .nil)
/-- _law_pop: 0=d 1=row -/
def b__law_pop : C := (.cons (.ret (.mut .pop 1 (.cons (.call 5 (.cons (.var 0) (.cons (.blt .len (.cons (.var 1) .nil)) .nil))) .nil))) .nil)
/-- _law_rare: 0=d 1=many -/
def b__law_rare : C := (.cons (.ret (.cmp .Eq (.call 5 (.cons (.var 0) (.cons (.var 1) .nil))) (.bin .Add (.bin .Mult (.bin .FloorDiv (.bin .FloorDiv (.var 1) (.int 2)) (.int 2)) (.int 2)) (.int 1)))) .nil)
/-- _law_between: 0=d 1=low 2=high -/
def b__law_between : C := (.cons (.ret (.bin .Add (.var 1) (.call 5 (.cons (.var 0) (.cons (.bin .Add (.bin .Sub (.var 2) (.var 1)) (.int 1)) .nil))))) .nil)
/-- _law_shuffled: 0=d 1=row 2=left 3=found 4=place -/
def b__law_shuffled : C := (.cons (.asg (.tnm 2) (.blt .list (.cons (.var 1) .nil))) (.cons (.asg (.tnm 3) (.lst .nil)) (.cons (.for_ (.tnm 4) (.srng (.cons (.blt .len (.cons (.var 1) .nil)) .nil)) (.cons (.exs (.mut .append 3 (.cons (.call 7 (.cons (.var 0) (.cons (.var 2) .nil))) .nil))) .nil)) (.cons (.ret (.mv 3)) .nil))))
/-- _law_is_int: 0=thing -/
def b__law_is_int : C := (.cons (.ret (.and (.isi (.var 0) "int") (.one (.not (.isi (.var 0) "bool"))))) .nil)
/-- _law_ints: 0=thing 1=many 2=one -/
def b__law_ints : C := (.cons (.cond (.or (.not (.tst (.isi (.var 0) "tuple"))) (.one (.and (.cmp .IsNot (.var 1) .non) (.one (.cmp .NotEq (.blt .len (.cons (.var 0) .nil)) (.var 1)))))) (.cons (.ret (.bl false)) .nil) .nil) (.cons (.ret (.blt .all (.cons (.comp (.call 11 (.cons (.var 2) .nil)) (.tnm 2) (.sseq (.var 0)) (.bl true) [2]) .nil))) .nil))
/-- _law_pool:  -/
def b__law_pool : C := (.cons (.ret (.lst (.cons (.str "w") (.cons (.str "run") (.cons (.str "m7") (.cons (.str "e") (.cons (.str "feeder") (.cons (.str "north12") (.cons (.str "b2b") (.cons (.str "k") (.cons (.str "loads") (.cons (.str "slow9") (.cons (.str "q") (.cons (.str "unload") (.cons (.str "ab") (.cons (.str "main") (.cons (.str "x1") (.cons (.str "express") (.cons (.str "z") (.cons (.str "turn2") (.cons (.str "cargo") (.cons (.str "p") (.cons (.str "oil") (.cons (.str "y0") (.cons (.str "timber") (.cons (.str "grain4") (.cons (.str "d") (.cons (.str "ore") (.cons (.str "c3") (.cons (.str "empties") (.cons (.str "g") (.cons (.str "steel77") (.cons (.str "post") (.cons (.str "j") (.cons (.str "milk") (.cons (.str "t8") (.cons (.str "quarry") (.cons (.str "v") (.cons (.str "sand") (.cons (.str "o") (.cons (.str "coal") (.cons (.str "n5") (.cons (.str "f") (.cons (.str "lime") (.cons (.str "u2") (.cons (.str "beet") (.cons (.str "i") (.cons (.str "scrap") (.cons (.str "h4") (.cons (.str "salt") (.cons (.str "l") (.cons (.str "zinc") (.cons (.str "r6") (.cons (.str "s") (.cons (.str "coalmine") (.cons (.str "a1b2c3d4") (.cons (.str "hub") .nil))))))))))))))))))))))))))))))))))))))))))))))))))))))))) .nil)
/-- _law_pair: 0=d 1=works 2=first 3=second -/
def b__law_pair : C := (.cons (.asg (.tnm 2) (.call 5 (.cons (.var 0) (.cons (.var 1) .nil)))) (.cons (.asg (.tnm 3) (.call 5 (.cons (.var 0) (.cons (.bin .Sub (.var 1) (.int 1)) .nil)))) (.cons (.cond (.cmp .GtE (.var 3) (.var 2)) (.cons (.asg (.tnm 3) (.bin .Add (.var 3) (.int 1))) .nil) .nil) (.cons (.ret (.tup (.cons (.var 2) (.cons (.var 3) .nil)))) .nil))))
/-- _law_number: 0=day 1=name 2=one -/
def b__law_number : C := (.cons (.ret (.ixm (.comp (.idx (.var 2) (.int 0)) (.tnm 2) (.sseq (.idx (.var 0) (.int 3))) (.bl true) [2]) (.var 1))) .nil)
/-- _law_rounds: 0=row 1=tracks 2=breaks 3=turn 4=power 5=rounds 6=v -/
def b__law_rounds : C := (.cons (.asg (.tnm 2) (.blt .len (.cons (.comp (.var 6) (.tnm 6) (.srng (.cons (.bin .Sub (.blt .len (.cons (.var 0) .nil)) (.int 1)) .nil)) (.one (.cmp .Lt (.ixm (.var 0) (.bin .Add (.var 6) (.int 1))) (.ixm (.var 0) (.var 6)))) [6]) .nil))) (.cons (.asg (.ttup (.cons (.tnm 4) (.cons (.tnm 5) .nil))) (.tup (.cons (.int 1) (.cons (.int 0) .nil)))) (.cons (.for_ (.tnm 3) (.srng (.cons (.int 8) .nil)) (.cons (.cond (.cmp .LtE (.var 4) (.var 2)) (.cons (.asg (.tnm 4) (.bin .Mult (.var 4) (.var 1))) (.cons (.asg (.tnm 5) (.bin .Add (.var 5) (.int 1))) .nil)) .nil) .nil)) (.cons (.ret (.var 5)) .nil))))
/-- _law_day_spans: 0=day 1=found 2=one 3=more 4=hump -/
def b__law_day_spans : C := (.cons (.asg (.tnm 1) (.lst .nil)) (.cons (.for_ (.tnm 2) (.sseq (.idx (.var 0) (.int 3))) (.cons (.asg (.tnm 3) (.blt .sum (.cons (.comp (.bin .Mult (.idx (.var 4) (.int 2)) (.call 16 (.cons (.idx (.var 4) (.int 3)) (.cons (.idx (.var 4) (.int 1)) .nil)))) (.tnm 4) (.sseq (.idx (.var 0) (.int 9))) (.one (.cmp .Eq (.idx (.var 4) (.int 0)) (.idx (.var 2) (.int 0)))) [4]) .nil))) (.cons (.exs (.mut .append 1 (.cons (.tup (.cons (.bin .Add (.idx (.var 2) (.int 4)) (.var 3)) (.cons (.bin .Add (.idx (.var 2) (.int 5)) (.var 3)) .nil))) .nil))) .nil))) (.cons (.ret (.blt .tuple (.cons (.var 1) .nil))) .nil)))
/-- _law_is_log: 0=day 1=log 2=spans 3=k -/
def b__law_is_log : C := (.cons (.cond (.or (.not (.tst (.isi (.var 1) "tuple"))) (.one (.cmp .NotEq (.blt .len (.cons (.var 1) .nil)) (.blt .len (.cons (.idx (.var 0) (.int 3)) .nil))))) (.cons (.ret (.bl false)) .nil) .nil) (.cons (.asg (.tnm 2) (.call 17 (.cons (.var 0) .nil))) (.cons (.for_ (.tnm 3) (.srng (.cons (.blt .len (.cons (.var 1) .nil)) .nil)) (.cons (.cond (.or (.not (.tst (.call 12 (.cons (.idx (.var 1) (.var 3)) (.cons (.int 2) .nil))))) (.or (.cmp .Lt (.idx (.idx (.var 1) (.var 3)) (.int 0)) (.int 0)) (.one (.cmp .Gt (.idx (.idx (.var 1) (.var 3)) (.int 1)) (.idx (.var 0) (.int 1)))))) (.cons (.ret (.bl false)) .nil) .nil) (.cons (.cond (.not (.chn .LtE .LtE (.idx (.idx (.var 2) (.var 3)) (.int 0)) (.bin .Sub (.idx (.idx (.var 1) (.var 3)) (.int 1)) (.idx (.idx (.var 1) (.var 3)) (.int 0))) (.idx (.idx (.var 2) (.var 3)) (.int 1)))) (.cons (.ret (.bl false)) .nil) .nil) .nil))) (.cons (.ret (.bl true)) .nil))))
/-- _law_keeps_promise: 0=day 1=promise 2=log 3=word 4=first 5=second 6=base -/
def b__law_keeps_promise : C := (.cons (.asg (.tnm 3) (.idx (.var 1) (.int 0))) (.cons (.asg (.tnm 4) (.idx (.var 2) (.call 15 (.cons (.var 0) (.cons (.idx (.var 1) (.int 1)) .nil))))) (.cons (.cond (.cmp .Eq (.var 3) (.str "from")) (.cons (.ret (.cmp .GtE (.idx (.var 4) (.int 0)) (.idx (.var 1) (.int 2)))) .nil) .nil) (.cons (.cond (.cmp .Eq (.var 3) (.str "by")) (.cons (.ret (.cmp .LtE (.idx (.var 4) (.int 1)) (.idx (.var 1) (.int 2)))) .nil) .nil) (.cons (.asg (.tnm 5) (.idx (.var 2) (.call 15 (.cons (.var 0) (.cons (.idx (.var 1) (.int 2)) .nil))))) (.cons (.cond (.cmp .Eq (.var 3) (.str "hold")) (.cons (.ret (.or (.cmp .GtE (.idx (.var 5) (.int 0)) (.idx (.var 4) (.int 1))) (.one (.cmp .GtE (.idx (.var 5) (.int 0)) (.bin .Add (.idx (.var 4) (.int 0)) (.idx (.var 1) (.int 3))))))) .nil) .nil) (.cons (.cond (.cmp .Eq (.var 3) (.str "meet")) (.cons (.ret (.cmp .LtE (.blt .abs (.cons (.bin .Sub (.idx (.var 4) (.int 1)) (.idx (.var 5) (.int 1))) .nil)) (.idx (.var 1) (.int 3)))) .nil) .nil) (.cons (.asg (.tnm 6) (.ite (.cmp .Eq (.var 3) (.str "after")) (.idx (.var 4) (.int 1)) (.idx (.var 4) (.int 0)))) (.cons (.ret (.and (.cmp .GtE (.idx (.var 5) (.int 0)) (.bin .Add (.var 6) (.idx (.var 1) (.int 3)))) (.one (.or (.cmp .Is (.idx (.var 1) (.int 4)) .non) (.one (.cmp .LtE (.idx (.var 5) (.int 0)) (.bin .Add (.var 6) (.idx (.var 1) (.int 4))))))))) .nil)))))))))
/-- _law_put: 0=row 1=place 2=thing -/
def b__law_put : C := (.cons (.ret (.bin .Add (.bin .Add (.slc (.var 0) .nil (.one (.var 1))) (.tup (.cons (.var 2) .nil))) (.slc (.var 0) (.one (.bin .Add (.var 1) (.int 1))) .nil))) .nil)
/-- _law_frame: 0=d 1=many 2=longest 3=pool 4=yards 5=works 6=turn 7=humps 8=one 9=day 10=leasts 11=horizon 12=least 13=most 14=row 15=span -/
def b__law_frame : C := (.cons (.asg (.tnm 3) (.call 13 .nil)) (.cons (.asg (.tnm 4) (.comp (.call 7 (.cons (.var 0) (.cons (.var 3) .nil))) (.tnm 6) (.srng (.cons (.bin .Add (.int 1) (.call 5 (.cons (.var 0) (.cons (.int 2) .nil)))) .nil)) (.bl true) [6])) (.cons (.asg (.tnm 5) (.lst .nil)) (.cons (.for_ (.tnm 6) (.srng (.cons (.var 1) .nil)) (.cons (.asg (.tnm 12) (.call 9 (.cons (.var 0) (.cons (.int 1) (.cons (.var 2) .nil))))) (.cons (.asg (.tnm 13) (.bin .Add (.var 12) (.call 5 (.cons (.var 0) (.cons (.blt .min (.cons (.var 2) (.cons (.bin .Sub (.int 61) (.var 12)) .nil))) .nil))))) (.cons (.exs (.mut .append 5 (.cons (.tup (.cons (.call 7 (.cons (.var 0) (.cons (.var 3) .nil))) (.cons (.call 6 (.cons (.var 0) (.cons (.var 4) .nil))) (.cons (.call 6 (.cons (.var 0) (.cons (.var 4) .nil))) (.cons (.call 7 (.cons (.var 0) (.cons (.var 3) .nil))) (.cons (.var 12) (.cons (.var 13) .nil))))))) .nil))) .nil)))) (.cons (.asg (.tnm 7) (.lst .nil)) (.cons (.for_ (.tnm 8) (.sseq (.var 5)) (.cons (.cond (.and (.cmp .Lt (.blt .len (.cons (.var 7) .nil)) (.int 3)) (.one (.cmp .Eq (.call 5 (.cons (.var 0) (.cons (.int 5) .nil))) (.int 1)))) (.cons (.asg (.tnm 14) (.call 10 (.cons (.var 0) (.cons (.lrng1 (.bin .Add (.int 1) (.call 5 (.cons (.var 0) (.cons (.int 12) .nil))))) .nil)))) (.cons (.exs (.mut .append 7 (.cons (.tup (.cons (.idx (.var 8) (.int 0)) (.cons (.bin .Add (.int 2) (.call 5 (.cons (.var 0) (.cons (.int 5) .nil)))) (.cons (.call 5 (.cons (.var 0) (.cons (.bin .Add (.int 1) (.bin .FloorDiv (.var 2) (.int 3))) .nil))) (.cons (.blt .tuple (.cons (.var 14) .nil)) .nil))))) .nil))) .nil)) .nil) .nil)) (.cons (.asg (.tnm 9) (.tup (.cons (.str "day") (.cons (.int 240) (.cons (.blt .tuple (.cons (.var 4) .nil)) (.cons (.blt .tuple (.cons (.var 5) .nil)) (.cons (.tup .nil) (.cons (.tup .nil) (.cons (.tup .nil) (.cons (.tup .nil) (.cons (.tup .nil) (.cons (.blt .tuple (.cons (.var 7) .nil)) (.cons (.tup .nil) .nil))))))))))))) (.cons (.asg (.tnm 10) (.comp (.idx (.var 15) (.int 0)) (.tnm 15) (.sseq (.call 17 (.cons (.var 9) .nil))) (.bl true) [15])) (.cons (.asg (.tnm 11) (.blt .min (.cons (.int 240) (.cons (.bin .Add (.blt .max (.cons (.var 10) .nil)) (.call 5 (.cons (.var 0) (.cons (.bin .Add (.int 2) (.blt .sum (.cons (.var 10) .nil))) .nil)))) .nil)))) (.cons (.ret (.tup (.cons (.call 20 (.cons (.var 9) (.cons (.int 1) (.cons (.var 11) .nil)))) (.cons (.fz 3) .nil)))) .nil))))))))))
/-- _law_linked_log: 0=d 1=day 2=found 3=span 4=length 5=start 6=mate -/
def b__law_linked_log : C := (.cons (.asg (.tnm 2) (.lst .nil)) (.cons (.for_ (.tnm 3) (.sseq (.call 17 (.cons (.var 1) .nil))) (.cons (.asg (.tnm 4) (.call 9 (.cons (.var 0) (.cons (.idx (.var 3) (.int 0)) (.cons (.blt .min (.cons (.idx (.var 3) (.int 1)) (.cons (.idx (.var 1) (.int 1)) .nil))) .nil))))) (.cons (.asg (.tnm 5) (.call 5 (.cons (.var 0) (.cons (.bin .Add (.bin .Sub (.idx (.var 1) (.int 1)) (.var 4)) (.int 1)) .nil)))) (.cons (.cond (.and (.cmp .Gt (.blt .len (.cons (.var 2) .nil)) (.int 0)) (.one (.cmp .NotEq (.call 5 (.cons (.var 0) (.cons (.int 3) .nil))) (.int 1)))) (.cons (.asg (.tnm 6) (.call 6 (.cons (.var 0) (.cons (.var 2) .nil)))) (.cons (.asg (.tnm 5) (.bin .Sub (.bin .Add (.idx (.var 6) (.call 5 (.cons (.var 0) (.cons (.int 2) .nil)))) (.call 5 (.cons (.var 0) (.cons (.int 4) .nil)))) (.int 1))) .nil)) .nil) (.cons (.asg (.tnm 5) (.blt .max (.cons (.int 0) (.cons (.blt .min (.cons (.var 5) (.cons (.bin .Sub (.idx (.var 1) (.int 1)) (.var 4)) .nil))) .nil)))) (.cons (.exs (.mut .append 2 (.cons (.tup (.cons (.var 5) (.cons (.bin .Add (.var 5) (.var 4)) .nil))) .nil))) .nil)))))) (.cons (.ret (.blt .tuple (.cons (.var 2) .nil))) .nil)))
/-- _law_moved_log: 0=d 1=day 2=log 3=turn 4=place 5=start 6=later -/
def b__law_moved_log : C := (.cons (.for_ (.tnm 3) (.srng (.cons (.int 6) .nil)) (.cons (.asg (.tnm 4) (.call 5 (.cons (.var 0) (.cons (.blt .len (.cons (.var 2) .nil)) .nil)))) (.cons (.asg (.tnm 5) (.bin .Sub (.bin .Add (.idx (.idx (.var 2) (.var 4)) (.int 0)) (.call 5 (.cons (.var 0) (.cons (.int 3) .nil)))) (.int 1))) (.cons (.asg (.tnm 6) (.call 20 (.cons (.var 2) (.cons (.var 4) (.cons (.tup (.cons (.var 5) (.cons (.bin .Sub (.bin .Add (.idx (.idx (.var 2) (.var 4)) (.int 1)) (.call 5 (.cons (.var 0) (.cons (.int 3) .nil)))) (.int 1)) .nil))) .nil))))) (.cons (.cond (.and (.cmp .NotEq (.var 6) (.var 2)) (.one (.tst (.call 18 (.cons (.var 1) (.cons (.var 6) .nil)))))) (.cons (.ret (.var 6)) .nil) .nil) .nil))))) (.cons (.ret (.call 22 (.cons (.var 0) (.cons (.var 1) .nil)))) .nil))
/-- _law_near: 0=d 1=value 2=low 3=high -/
def b__law_near : C := (.cons (.ret (.blt .max (.cons (.var 2) (.cons (.blt .min (.cons (.var 3) (.cons (.bin .Sub (.bin .Add (.var 1) (.call 5 (.cons (.var 0) (.cons (.int 3) .nil)))) (.int 1)) .nil))) .nil)))) .nil)
/-- _law_near_promise: 0=d 1=day 2=log 3=names 4=word 5=gap 6=low 7=way 8=place 9=i 10=j 11=one -/
def b__law_near_promise : C := (.cons (.asg (.tnm 3) (.comp (.idx (.var 11) (.int 0)) (.tnm 11) (.sseq (.idx (.var 1) (.int 3))) (.bl true) [11])) (.cons (.asg (.tnm 4) (.call 6 (.cons (.var 0) (.cons (.lst (.cons (.str "from") (.cons (.str "by") (.cons (.str "after") (.cons (.str "lead") (.cons (.str "hold") (.cons (.str "meet") (.cons (.str "after") (.cons (.str "hold") .nil))))))))) .nil)))) (.cons (.cond (.or (.cmp .Lt (.blt .len (.cons (.var 3) .nil)) (.int 2)) (.one (.cmp .In (.var 4) (.lst (.cons (.str "from") (.cons (.str "by") .nil)))))) (.cons (.asg (.tnm 8) (.call 5 (.cons (.var 0) (.cons (.blt .len (.cons (.var 3) .nil)) .nil)))) (.cons (.cond (.cmp .Eq (.var 4) (.str "by")) (.cons (.ret (.tup (.cons (.var 4) (.cons (.idx (.var 3) (.var 8)) (.cons (.call 24 (.cons (.var 0) (.cons (.idx (.idx (.var 2) (.var 8)) (.int 1)) (.cons (.int 1) (.cons (.int 240) .nil))))) .nil))))) .nil) .nil) (.cons (.ret (.tup (.cons (.str "from") (.cons (.idx (.var 3) (.var 8)) (.cons (.call 24 (.cons (.var 0) (.cons (.idx (.idx (.var 2) (.var 8)) (.int 0)) (.cons (.int 0) (.cons (.int 240) .nil))))) .nil))))) .nil))) .nil) (.cons (.asg (.ttup (.cons (.tnm 9) (.cons (.tnm 10) .nil))) (.call 14 (.cons (.var 0) (.cons (.blt .len (.cons (.var 3) .nil)) .nil)))) (.cons (.cond (.cmp .Eq (.var 4) (.str "hold")) (.cons (.ret (.tup (.cons (.var 4) (.cons (.idx (.var 3) (.var 9)) (.cons (.idx (.var 3) (.var 10)) (.cons (.call 24 (.cons (.var 0) (.cons (.bin .Sub (.idx (.idx (.var 2) (.var 10)) (.int 0)) (.idx (.idx (.var 2) (.var 9)) (.int 0))) (.cons (.int 1) (.cons (.int 240) .nil))))) .nil)))))) .nil) .nil) (.cons (.cond (.cmp .Eq (.var 4) (.str "meet")) (.cons (.ret (.tup (.cons (.var 4) (.cons (.idx (.var 3) (.var 9)) (.cons (.idx (.var 3) (.var 10)) (.cons (.call 24 (.cons (.var 0) (.cons (.blt .abs (.cons (.bin .Sub (.idx (.idx (.var 2) (.var 9)) (.int 1)) (.idx (.idx (.var 2) (.var 10)) (.int 1))) .nil)) (.cons (.int 0) (.cons (.int 240) .nil))))) .nil)))))) .nil) .nil) (.cons (.asg (.tnm 5) (.bin .Sub (.idx (.idx (.var 2) (.var 10)) (.int 0)) (.idx (.idx (.var 2) (.var 9)) (.blt .int (.cons (.cmp .Eq (.var 4) (.str "after")) .nil))))) (.cons (.asg (.tnm 6) (.call 24 (.cons (.var 0) (.cons (.var 5) (.cons (.int 0) (.cons (.int 240) .nil)))))) (.cons (.asg (.tnm 7) (.call 5 (.cons (.var 0) (.cons (.int 4) .nil)))) (.cons (.cond (.cmp .Eq (.var 7) (.int 0)) (.cons (.ret (.tup (.cons (.var 4) (.cons (.idx (.var 3) (.var 9)) (.cons (.idx (.var 3) (.var 10)) (.cons (.var 6) (.cons .non .nil))))))) .nil) .nil) (.cons (.cond (.cmp .Eq (.var 7) (.int 1)) (.cons (.asg (.tnm 6) (.call 5 (.cons (.var 0) (.cons (.bin .Add (.int 1) (.var 6)) .nil)))) .nil) .nil) (.cons (.cond (.cmp .Eq (.var 7) (.int 2)) (.cons (.ret (.tup (.cons (.var 4) (.cons (.idx (.var 3) (.var 9)) (.cons (.idx (.var 3) (.var 10)) (.cons (.var 6) (.cons (.call 9 (.cons (.var 0) (.cons (.var 6) (.cons (.int 240) .nil)))) .nil))))))) .nil) .nil) (.cons (.ret (.tup (.cons (.var 4) (.cons (.idx (.var 3) (.var 9)) (.cons (.idx (.var 3) (.var 10)) (.cons (.var 6) (.cons (.call 24 (.cons (.var 0) (.cons (.var 5) (.cons (.var 6) (.cons (.int 240) .nil))))) .nil))))))) .nil)))))))))))))
/-- law: 0=script 1=d 2=log 3=day 4=turn 5=many 6=longest 7=promises 8=pool 9=due 10=actual 11=k -/
def b_law : C := (.cons (.asg (.tnm 1) (.call 4 (.cons (.var 0) .nil))) (.cons (.par3 5 6 7 (.cons (.bin .Add (.int 1) (.call 5 (.cons (.var 1) (.cons (.int 4) .nil)))) (.cons (.bin .Add (.int 1) (.call 5 (.cons (.var 1) (.cons (.int 6) .nil)))) (.cons (.call 5 (.cons (.var 1) (.cons (.int 9) .nil))) .nil)))) (.cons (.cond (.tst (.call 8 (.cons (.var 1) (.cons (.int 8) .nil)))) (.cons (.asg (.ttup (.cons (.tnm 5) (.cons (.tnm 6) (.cons (.tnm 7) .nil)))) (.tup (.cons (.int 10) (.cons (.int 60) (.cons (.int 30) .nil))))) .nil) .nil) (.cons (.asg (.ttup (.cons (.tnm 3) (.cons (.tnm 8) .nil))) (.call 21 (.cons (.var 1) (.cons (.var 5) (.cons (.var 6) .nil))))) (.cons (.asg (.tnm 2) (.call 22 (.cons (.var 1) (.cons (.var 3) .nil)))) (.cons (.asg (.tnm 3) (.call 20 (.cons (.var 3) (.cons (.int 4) (.cons (.blt .tuple (.cons (.comp (.call 25 (.cons (.var 1) (.cons (.var 3) (.cons (.var 2) .nil)))) (.tnm 4) (.srng (.cons (.var 7) .nil)) (.bl true) [4]) .nil)) .nil))))) (.cons (.for_ (.tnm 4) (.srng (.cons (.int 5) .nil)) (.cons (.asg (.tnm 9) (.comp (.var 11) (.tnm 11) (.srng (.cons (.var 7) .nil)) (.one (.not (.tst (.call 19 (.cons (.var 3) (.cons (.idx (.idx (.var 3) (.int 4)) (.var 11)) (.cons (.var 2) .nil))))))) [11])) (.cons (.asg (.tnm 10) (.call 3 (.cons (.var 3) (.cons (.var 2) .nil)))) (.cons (.cond (.or (.not (.tst (.call 12 (.cons (.var 10) (.cons (.blt .len (.cons (.var 9) .nil)) .nil))))) (.or (.cmp .NotEq (.blt .list (.cons (.var 10) .nil)) (.var 9)) (.one (.cmp .NotEq (.call 3 (.cons (.var 3) (.cons (.var 2) .nil))) (.var 10))))) (.cons (.ret (.bl false)) .nil) .nil) (.cons (.asg (.tnm 2) (.call 23 (.cons (.var 1) (.cons (.var 3) (.cons (.var 2) .nil))))) .nil))))) (.cons (.ret (.bl true)) .nil))))))))
def T : List Fn := [⟨2, 4, b_work_number⟩, ⟨3, 3, b_minutes_of⟩, ⟨3, 9, b_is_kept⟩, ⟨2, 4, b_broken_promises⟩, ⟨1, 1, b__law_begin⟩, ⟨2, 6, b__law_draw⟩, ⟨2, 2, b__law_pick⟩, ⟨2, 2, b__law_pop⟩, ⟨2, 2, b__law_rare⟩, ⟨3, 3, b__law_between⟩, ⟨2, 5, b__law_shuffled⟩, ⟨1, 1, b__law_is_int⟩, ⟨2, 3, b__law_ints⟩, ⟨0, 0, b__law_pool⟩, ⟨2, 4, b__law_pair⟩, ⟨2, 3, b__law_number⟩, ⟨2, 7, b__law_rounds⟩, ⟨1, 5, b__law_day_spans⟩, ⟨2, 4, b__law_is_log⟩, ⟨3, 7, b__law_keeps_promise⟩, ⟨3, 3, b__law_put⟩, ⟨3, 16, b__law_frame⟩, ⟨2, 7, b__law_linked_log⟩, ⟨3, 7, b__law_moved_log⟩, ⟨4, 4, b__law_near⟩, ⟨3, 12, b__law_near_promise⟩, ⟨1, 12, b_law⟩]
theorem T_work_number : T[0]? = some ⟨2, 4, b_work_number⟩ := rfl
theorem T_minutes_of : T[1]? = some ⟨3, 3, b_minutes_of⟩ := rfl
theorem T_is_kept : T[2]? = some ⟨3, 9, b_is_kept⟩ := rfl
theorem T_broken_promises : T[3]? = some ⟨2, 4, b_broken_promises⟩ := rfl
theorem T__law_begin : T[4]? = some ⟨1, 1, b__law_begin⟩ := rfl
theorem T__law_draw : T[5]? = some ⟨2, 6, b__law_draw⟩ := rfl
theorem T__law_pick : T[6]? = some ⟨2, 2, b__law_pick⟩ := rfl
theorem T__law_pop : T[7]? = some ⟨2, 2, b__law_pop⟩ := rfl
theorem T__law_rare : T[8]? = some ⟨2, 2, b__law_rare⟩ := rfl
theorem T__law_between : T[9]? = some ⟨3, 3, b__law_between⟩ := rfl
theorem T__law_shuffled : T[10]? = some ⟨2, 5, b__law_shuffled⟩ := rfl
theorem T__law_is_int : T[11]? = some ⟨1, 1, b__law_is_int⟩ := rfl
theorem T__law_ints : T[12]? = some ⟨2, 3, b__law_ints⟩ := rfl
theorem T__law_pool : T[13]? = some ⟨0, 0, b__law_pool⟩ := rfl
theorem T__law_pair : T[14]? = some ⟨2, 4, b__law_pair⟩ := rfl
theorem T__law_number : T[15]? = some ⟨2, 3, b__law_number⟩ := rfl
theorem T__law_rounds : T[16]? = some ⟨2, 7, b__law_rounds⟩ := rfl
theorem T__law_day_spans : T[17]? = some ⟨1, 5, b__law_day_spans⟩ := rfl
theorem T__law_is_log : T[18]? = some ⟨2, 4, b__law_is_log⟩ := rfl
theorem T__law_keeps_promise : T[19]? = some ⟨3, 7, b__law_keeps_promise⟩ := rfl
theorem T__law_put : T[20]? = some ⟨3, 3, b__law_put⟩ := rfl
theorem T__law_frame : T[21]? = some ⟨3, 16, b__law_frame⟩ := rfl
theorem T__law_linked_log : T[22]? = some ⟨2, 7, b__law_linked_log⟩ := rfl
theorem T__law_moved_log : T[23]? = some ⟨3, 7, b__law_moved_log⟩ := rfl
theorem T__law_near : T[24]? = some ⟨4, 4, b__law_near⟩ := rfl
theorem T__law_near_promise : T[25]? = some ⟨3, 12, b__law_near_promise⟩ := rfl
theorem T_law : T[26]? = some ⟨1, 12, b_law⟩ := rfl
end K09

set_option maxRecDepth 100000
set_option maxHeartbeats 4000000
namespace K09
open PySem Co
theorem draw_ok {k B : Nat} {d : D} {m : Int} (hd : Dd B d) (hB : B ≤ 1000000000) (hm : m ≤ 1000000000) : Wp (DrawQ B m) (evF T 1000 (k + 1) 5 [.bo d, .v (.int m)]) := by
  obtain ⟨l, p, v, s, c, rfl, h1, h2, h3, h4, h5, h6⟩ := hd
  refine evF_wp T__law_draw rfl ?_
  by_cases hm2 : m < 2
  · simp -implicitDefEqProofs only [xs1, xs2, xs3, rd, rds, vals, cont, Sl.cont, D.fz, fzL, cmpD, ordD, eqD_int, eqD_in, eqD_ni, eqD_nn, eqD_bb, isD, D.isNon, idx_tup, idx_lst, idx_ro, idx_own, addI, subI, fdivD, modD, negD, truD, bltD, lenD_items, listD, tupleD, absD_int, intD, tyD, D.items, D.isL, mutD, appD, extD, mutArgs, argsOf, argOf, lentS, places, back, backOne, outs, setL, ownAt, parS, lock, unlock, wipeS, putBack, free_zero, free_succ, fst_no, fst_v, rngOf1, rngOf2, srcOf, kit_bb, wp_some, retq_rt, retq_nx, turn_nx, turn_ct, turnp_nx, turnp_ct, turnp_rt, turnp_bk, Option.toList, Int.zero_add, Int.sub_zero, List.getElem?_cons_succ, List.getElem?_cons_zero, List.set_cons_succ, List.set_cons_zero, Option.bind_some, Option.map_some, if_true, if_false, decide_true, decide_false, Bool.false_eq_true, store_zero, store_succ, st_no, st_v, atI_pos, ix50, ix51, ix52, ix53, ix54, ixN_pos, Option.bind_some, List.nodup_nil, List.nodup_cons, List.mem_cons, List.not_mem_nil, or_false, or_true, false_or, not_false_eq_true, not_true, and_self, and_true, true_and, Bool.and_true, Bool.true_and, Bool.and_self, Bool.and_false, Bool.false_and, Bool.not_true, Bool.not_false, List.length_cons, List.length_nil, List.cons_append, List.nil_append, List.replicate, Out.map, List.append_eq, List.all_cons, List.all_nil, decide_not, ne_eq, lim_lit, List.length_map, Int.reduceLE, Int.reduceLT, Int.reduceToNat, Nat.reduceAdd, Nat.reduceSub, Nat.reduceLeDiff, Nat.reduceEqDiff, Int.reduceNeg, Int.reduceEq, Nat.reduceLT, Nat.reduceMul, b__law_draw, hm2]
    exact drawQ_mk (by omega) (by omega) h1 h2 h3 h4 h5 (by omega)
  have hm0 : 0 < m := by omega
  have hm3 : m < 1267650600228229401496703205376 := by omega
  by_cases hv : v = 0
  · subst hv
    have e1 : binD .Mult (.int 12345) (.int (c + 1)) = _ := mulD (by omega) (by omega)
    have e2 : binD .Mult (.int 7919) (.int (c + 1)) = _ := mulD (by omega) (by omega)
    have e3 : binD .Mult (.int s) (.int 1103515245) = _ := mulD (by omega) (by omega)
    have fin : ∀ n : Int, n.natAbs < 1000000000000000000000 → ∃ q, 0 ≤ q ∧ q < 2305843009213693951 ∧ q = (s * 1103515245 + n * 69069 + 12345 + 7919 * (c + 1)) % 2305843009213693951 := fun n _ => ⟨_, Int.emod_nonneg _ (by decide), Int.emod_lt_of_pos _ (by decide), rfl⟩
    by_cases hp : p < l.length
    · have hp2 : p.toNat < l.length := by omega
      have e4 : (l.map D.int)[p.toNat]? = _ := get_ints hp2
      by_cases hn : 1000000000000000000 ≤ ((l.getD p.toNat 0).natAbs : Int)
      · have hz : ¬ ((l.getD p.toNat 0).natAbs : Int) = 0 := by omega
        simp -implicitDefEqProofs only [xs1, xs2, xs3, rd, rds, vals, cont, Sl.cont, D.fz, fzL, cmpD, ordD, eqD_int, eqD_in, eqD_ni, eqD_nn, eqD_bb, isD, D.isNon, idx_tup, idx_lst, idx_ro, idx_own, addI, subI, fdivD, modD, negD, truD, bltD, lenD_items, listD, tupleD, absD_int, intD, tyD, D.items, D.isL, mutD, appD, extD, mutArgs, argsOf, argOf, lentS, places, back, backOne, outs, setL, ownAt, parS, lock, unlock, wipeS, putBack, free_zero, free_succ, fst_no, fst_v, rngOf1, rngOf2, srcOf, kit_bb, wp_some, retq_rt, retq_nx, turn_nx, turn_ct, turnp_nx, turnp_ct, turnp_rt, turnp_bk, Option.toList, Int.zero_add, Int.sub_zero, List.getElem?_cons_succ, List.getElem?_cons_zero, List.set_cons_succ, List.set_cons_zero, Option.bind_some, Option.map_some, if_true, if_false, decide_true, decide_false, Bool.false_eq_true, store_zero, store_succ, st_no, st_v, atI_pos, ix50, ix51, ix52, ix53, ix54, ixN_pos, Option.bind_some, List.nodup_nil, List.nodup_cons, List.mem_cons, List.not_mem_nil, or_false, or_true, false_or, not_false_eq_true, not_true, and_self, and_true, true_and, Bool.and_true, Bool.true_and, Bool.and_self, Bool.and_false, Bool.false_and, Bool.not_true, Bool.not_false, List.length_cons, List.length_nil, List.cons_append, List.nil_append, List.replicate, Out.map, List.append_eq, List.all_cons, List.all_nil, decide_not, ne_eq, lim_lit, List.length_map, Int.reduceLE, Int.reduceLT, Int.reduceToNat, Nat.reduceAdd, Nat.reduceSub, Nat.reduceLeDiff, Nat.reduceEqDiff, Int.reduceNeg, Int.reduceEq, Nat.reduceLT, Nat.reduceMul, b__law_draw, hm2, e1, h1, hp, e4, pow18, hn, hz, hm0, hm3, fzL_ints]
        exact drawQ_mk (Int.emod_nonneg _ (by omega)) (fun _ => Int.emod_lt_of_pos _ hm0) (by omega) (Int.ediv_nonneg (by omega) (by omega)) h3 h4 (by omega) (by omega)
      · obtain ⟨q, q1, q2, q3⟩ := fin (l.getD p.toNat 0) (by omega)
        have e5 : binD .Mult (.int (l.getD p.toNat 0)) (.int 69069) = _ := mulD (by omega) (by omega)
        have e6 : binD .Mult (.int q) (.int 48271) = _ := mulD (by omega) (by omega)
        simp -implicitDefEqProofs only [xs1, xs2, xs3, rd, rds, vals, cont, Sl.cont, D.fz, fzL, cmpD, ordD, eqD_int, eqD_in, eqD_ni, eqD_nn, eqD_bb, isD, D.isNon, idx_tup, idx_lst, idx_ro, idx_own, addI, subI, fdivD, modD, negD, truD, bltD, lenD_items, listD, tupleD, absD_int, intD, tyD, D.items, D.isL, mutD, appD, extD, mutArgs, argsOf, argOf, lentS, places, back, backOne, outs, setL, ownAt, parS, lock, unlock, wipeS, putBack, free_zero, free_succ, fst_no, fst_v, rngOf1, rngOf2, srcOf, kit_bb, wp_some, retq_rt, retq_nx, turn_nx, turn_ct, turnp_nx, turnp_ct, turnp_rt, turnp_bk, Option.toList, Int.zero_add, Int.sub_zero, List.getElem?_cons_succ, List.getElem?_cons_zero, List.set_cons_succ, List.set_cons_zero, Option.bind_some, Option.map_some, if_true, if_false, decide_true, decide_false, Bool.false_eq_true, store_zero, store_succ, st_no, st_v, atI_pos, ix50, ix51, ix52, ix53, ix54, ixN_pos, Option.bind_some, List.nodup_nil, List.nodup_cons, List.mem_cons, List.not_mem_nil, or_false, or_true, false_or, not_false_eq_true, not_true, and_self, and_true, true_and, Bool.and_true, Bool.true_and, Bool.and_self, Bool.and_false, Bool.false_and, Bool.not_true, Bool.not_false, List.length_cons, List.length_nil, List.cons_append, List.nil_append, List.replicate, Out.map, List.append_eq, List.all_cons, List.all_nil, decide_not, ne_eq, lim_lit, List.length_map, Int.reduceLE, Int.reduceLT, Int.reduceToNat, Nat.reduceAdd, Nat.reduceSub, Nat.reduceLeDiff, Nat.reduceEqDiff, Int.reduceNeg, Int.reduceEq, Nat.reduceLT, Nat.reduceMul, b__law_draw, hm2, e1, e2, e3, e5, ←q3, e6, h1, hp, e4, pow18, hn, hm0, hm3, fzL_ints]
        exact drawQ_mk (Int.emod_nonneg _ (by omega)) (fun _ => Int.emod_lt_of_pos _ hm0) (by omega) (by omega) q1 q2 (by omega) (by omega)
    · obtain ⟨q, q1, q2, q3⟩ := fin (12345 * (c + 1)) (by omega)
      have e5 : binD .Mult (.int (12345 * (c + 1))) (.int 69069) = _ := mulD (by omega) (by omega)
      have e6 : binD .Mult (.int q) (.int 48271) = _ := mulD (by omega) (by omega)
      simp -implicitDefEqProofs only [xs1, xs2, xs3, rd, rds, vals, cont, Sl.cont, D.fz, fzL, cmpD, ordD, eqD_int, eqD_in, eqD_ni, eqD_nn, eqD_bb, isD, D.isNon, idx_tup, idx_lst, idx_ro, idx_own, addI, subI, fdivD, modD, negD, truD, bltD, lenD_items, listD, tupleD, absD_int, intD, tyD, D.items, D.isL, mutD, appD, extD, mutArgs, argsOf, argOf, lentS, places, back, backOne, outs, setL, ownAt, parS, lock, unlock, wipeS, putBack, free_zero, free_succ, fst_no, fst_v, rngOf1, rngOf2, srcOf, kit_bb, wp_some, retq_rt, retq_nx, turn_nx, turn_ct, turnp_nx, turnp_ct, turnp_rt, turnp_bk, Option.toList, Int.zero_add, Int.sub_zero, List.getElem?_cons_succ, List.getElem?_cons_zero, List.set_cons_succ, List.set_cons_zero, Option.bind_some, Option.map_some, if_true, if_false, decide_true, decide_false, Bool.false_eq_true, store_zero, store_succ, st_no, st_v, atI_pos, ix50, ix51, ix52, ix53, ix54, ixN_pos, Option.bind_some, List.nodup_nil, List.nodup_cons, List.mem_cons, List.not_mem_nil, or_false, or_true, false_or, not_false_eq_true, not_true, and_self, and_true, true_and, Bool.and_true, Bool.true_and, Bool.and_self, Bool.and_false, Bool.false_and, Bool.not_true, Bool.not_false, List.length_cons, List.length_nil, List.cons_append, List.nil_append, List.replicate, Out.map, List.append_eq, List.all_cons, List.all_nil, decide_not, ne_eq, lim_lit, List.length_map, Int.reduceLE, Int.reduceLT, Int.reduceToNat, Nat.reduceAdd, Nat.reduceSub, Nat.reduceLeDiff, Nat.reduceEqDiff, Int.reduceNeg, Int.reduceEq, Nat.reduceLT, Nat.reduceMul, b__law_draw, hm2, e1, e2, e3, e5, ←q3, e6, h1, hp, hm0, hm3, fzL_ints]
      exact drawQ_mk (Int.emod_nonneg _ (by omega)) (fun _ => Int.emod_lt_of_pos _ hm0) (by omega) (by omega) q1 q2 (by omega) (by omega)
  · simp -implicitDefEqProofs only [xs1, xs2, xs3, rd, rds, vals, cont, Sl.cont, D.fz, fzL, cmpD, ordD, eqD_int, eqD_in, eqD_ni, eqD_nn, eqD_bb, isD, D.isNon, idx_tup, idx_lst, idx_ro, idx_own, addI, subI, fdivD, modD, negD, truD, bltD, lenD_items, listD, tupleD, absD_int, intD, tyD, D.items, D.isL, mutD, appD, extD, mutArgs, argsOf, argOf, lentS, places, back, backOne, outs, setL, ownAt, parS, lock, unlock, wipeS, putBack, free_zero, free_succ, fst_no, fst_v, rngOf1, rngOf2, srcOf, kit_bb, wp_some, retq_rt, retq_nx, turn_nx, turn_ct, turnp_nx, turnp_ct, turnp_rt, turnp_bk, Option.toList, Int.zero_add, Int.sub_zero, List.getElem?_cons_succ, List.getElem?_cons_zero, List.set_cons_succ, List.set_cons_zero, Option.bind_some, Option.map_some, if_true, if_false, decide_true, decide_false, Bool.false_eq_true, store_zero, store_succ, st_no, st_v, atI_pos, ix50, ix51, ix52, ix53, ix54, ixN_pos, Option.bind_some, List.nodup_nil, List.nodup_cons, List.mem_cons, List.not_mem_nil, or_false, or_true, false_or, not_false_eq_true, not_true, and_self, and_true, true_and, Bool.and_true, Bool.true_and, Bool.and_self, Bool.and_false, Bool.false_and, Bool.not_true, Bool.not_false, List.length_cons, List.length_nil, List.cons_append, List.nil_append, List.replicate, Out.map, List.append_eq, List.all_cons, List.all_nil, decide_not, ne_eq, lim_lit, List.length_map, Int.reduceLE, Int.reduceLT, Int.reduceToNat, Nat.reduceAdd, Nat.reduceSub, Nat.reduceLeDiff, Nat.reduceEqDiff, Int.reduceNeg, Int.reduceEq, Nat.reduceLT, Nat.reduceMul, b__law_draw, hm2, hv, hm0, hm3]
    exact drawQ_mk (Int.emod_nonneg _ (by omega)) (fun _ => Int.emod_lt_of_pos _ hm0) h1 (Int.ediv_nonneg h2 (by omega)) h3 h4 h5 (by omega)


/-! ### simple ones -/
theorem begin_ok {k : Nat} {d : D} {l : List Int} (hd : d = .ro (l.map D.int) ∨ d = .lst (l.map D.int)) : Wp (fun r => ∃ d', r = (d', [.no]) ∧ Dd 0 d') (evF T 1000 (k + 1) 4 [.v d]) := by
  refine evF_wp T__law_begin rfl ?_
  have fin : Dd 0 (.own [.lst (l.map D.int), .int 0, .int 0, .int 7, .int 0]) := ⟨l, 0, 0, 7, 0, rfl, by decide, by decide, by decide, by decide, by decide, by decide⟩
  rcases hd with rfl | rfl
  · simp -implicitDefEqProofs only [xs1, xs2, xs3, rd, rds, vals, cont, Sl.cont, D.fz, fzL, cmpD, ordD, eqD_int, eqD_in, eqD_ni, eqD_nn, eqD_bb, isD, D.isNon, idx_tup, idx_lst, idx_ro, idx_own, addI, subI, fdivD, modD, negD, truD, bltD, lenD_items, listD, tupleD, absD_int, intD, tyD, D.items, D.isL, mutD, appD, extD, mutArgs, argsOf, argOf, lentS, places, back, backOne, outs, setL, ownAt, parS, lock, unlock, wipeS, putBack, free_zero, free_succ, fst_no, fst_v, rngOf1, rngOf2, srcOf, kit_bb, wp_some, retq_rt, retq_nx, turn_nx, turn_ct, turnp_nx, turnp_ct, turnp_rt, turnp_bk, Option.toList, Int.zero_add, Int.sub_zero, List.getElem?_cons_succ, List.getElem?_cons_zero, List.set_cons_succ, List.set_cons_zero, Option.bind_some, Option.map_some, if_true, if_false, decide_true, decide_false, Bool.false_eq_true, store_zero, store_succ, st_no, st_v, atI_pos, ix50, ix51, ix52, ix53, ix54, ixN_pos, Option.bind_some, List.nodup_nil, List.nodup_cons, List.mem_cons, List.not_mem_nil, or_false, or_true, false_or, not_false_eq_true, not_true, and_self, and_true, true_and, Bool.and_true, Bool.true_and, Bool.and_self, Bool.and_false, Bool.false_and, Bool.not_true, Bool.not_false, List.length_cons, List.length_nil, List.cons_append, List.nil_append, List.replicate, Out.map, List.append_eq, List.all_cons, List.all_nil, decide_not, ne_eq, lim_lit, List.length_map, Int.reduceLE, Int.reduceLT, Int.reduceToNat, Nat.reduceAdd, Nat.reduceSub, Nat.reduceLeDiff, Nat.reduceEqDiff, Int.reduceNeg, Int.reduceEq, Nat.reduceLT, Nat.reduceMul, b__law_begin, fzL_ints, Option.bind, D.frz, frz_ints]
    exact ⟨_, rfl, fin⟩
  · simp -implicitDefEqProofs only [xs1, xs2, xs3, rd, rds, vals, cont, Sl.cont, D.fz, fzL, cmpD, ordD, eqD_int, eqD_in, eqD_ni, eqD_nn, eqD_bb, isD, D.isNon, idx_tup, idx_lst, idx_ro, idx_own, addI, subI, fdivD, modD, negD, truD, bltD, lenD_items, listD, tupleD, absD_int, intD, tyD, D.items, D.isL, mutD, appD, extD, mutArgs, argsOf, argOf, lentS, places, back, backOne, outs, setL, ownAt, parS, lock, unlock, wipeS, putBack, free_zero, free_succ, fst_no, fst_v, rngOf1, rngOf2, srcOf, kit_bb, wp_some, retq_rt, retq_nx, turn_nx, turn_ct, turnp_nx, turnp_ct, turnp_rt, turnp_bk, Option.toList, Int.zero_add, Int.sub_zero, List.getElem?_cons_succ, List.getElem?_cons_zero, List.set_cons_succ, List.set_cons_zero, Option.bind_some, Option.map_some, if_true, if_false, decide_true, decide_false, Bool.false_eq_true, store_zero, store_succ, st_no, st_v, atI_pos, ix50, ix51, ix52, ix53, ix54, ixN_pos, Option.bind_some, List.nodup_nil, List.nodup_cons, List.mem_cons, List.not_mem_nil, or_false, or_true, false_or, not_false_eq_true, not_true, and_self, and_true, true_and, Bool.and_true, Bool.true_and, Bool.and_self, Bool.and_false, Bool.false_and, Bool.not_true, Bool.not_false, List.length_cons, List.length_nil, List.cons_append, List.nil_append, List.replicate, Out.map, List.append_eq, List.all_cons, List.all_nil, decide_not, ne_eq, lim_lit, List.length_map, Int.reduceLE, Int.reduceLT, Int.reduceToNat, Nat.reduceAdd, Nat.reduceSub, Nat.reduceLeDiff, Nat.reduceEqDiff, Int.reduceNeg, Int.reduceEq, Nat.reduceLT, Nat.reduceMul, b__law_begin, fzL_ints, Option.bind, D.frz, frz_ints]
    exact ⟨_, rfl, fin⟩
end K09


set_option maxRecDepth 100000
set_option maxHeartbeats 4000000
namespace K09
open PySem Co
theorem wp_eq {α : Type} {o : Option α} {x : α} : Wp (fun r => r = x) o ↔ o = some x := ⟨fun ⟨y, e, h⟩ => by rw [e, h], fun h => ⟨x, h, rfl⟩⟩
theorem popI {l : List D} {i : Int} {n : Nat} (h : i = n) (hn : n < l.length) (hl : l.length ≤ 16777216) (hf : fzL l = true) : popD l [.int i] = some (l.getD n .non, l.eraseIdx n) := by
  subst h
  unfold popD
  simp only
  rw [if_pos (by omega), ixN_pos (by omega) (by omega), Int.toNat_natCast, Option.bind_some, List.getElem?_eq_getElem hn, Option.bind_some, if_pos (mem_fzL hf _ (List.getElem_mem hn)), List.getD_eq_getElem?_getD, List.getElem?_eq_getElem hn]
  rfl
section
variable {k B : Nat} {d : D}
theorem pop_ok {l : List D} (hd : Dd B d) (hB : B ≤ 900000000) (hf : fzL l = true) (h1 : 1 ≤ l.length) (h2 : l.length ≤ 1000) :
    Wp (fun r => ∃ n d', r = (l.getD n .non, [.bo d', .bo (.own (l.eraseIdx n))]) ∧ n < l.length ∧ Dd (B + 1) d') (evF T 1000 (k + 2) 7 [.bo d, .bo (.own l)]) := by
  refine evF_wp T__law_pop rfl ?_
  have hfd := hd.fz
  simp -implicitDefEqProofs (disch := first | assumption | exact st_no | exact st_v | exact fst_no | omega) only [xs1, xs2, xs3, rd, rds, vals, cont, Sl.cont, D.fz, fzL, cmpD, ordD, eqD_int, eqD_in, eqD_ni, eqD_nn, eqD_bb, isD, D.isNon, idx_tup, idx_lst, idx_ro, idx_own, addI, subI, fdivD, modD, negD, truD, bltD, lenD_items, listD, tupleD, absD_int, intD, tyD, D.items, D.isL, mutD, appD, extD, mutArgs, argsOf, argOf, lentS, places, back, backOne, outs, setL, ownAt, parS, lock, unlock, wipeS, putBack, free_zero, free_succ, fst_no, fst_v, rngOf1, rngOf2, srcOf, kit_bb, wp_some, retq_rt, retq_nx, turn_nx, turn_ct, turnp_nx, turnp_ct, turnp_rt, turnp_bk, Option.toList, Int.zero_add, Int.sub_zero, List.getElem?_cons_succ, List.getElem?_cons_zero, List.set_cons_succ, List.set_cons_zero, Option.bind_some, Option.map_some, if_true, if_false, decide_true, decide_false, Bool.false_eq_true, store_zero, store_succ, st_no, st_v, atI_pos, ix50, ix51, ix52, ix53, ix54, ixN_pos, Option.bind_some, List.nodup_nil, List.nodup_cons, List.mem_cons, List.not_mem_nil, or_false, or_true, false_or, not_false_eq_true, not_true, and_self, and_true, true_and, Bool.and_true, Bool.true_and, Bool.and_self, Bool.and_false, Bool.false_and, Bool.not_true, Bool.not_false, List.length_cons, List.length_nil, List.cons_append, List.nil_append, List.replicate, Out.map, List.append_eq, List.all_cons, List.all_nil, decide_not, ne_eq, lim_lit, List.length_map, Int.reduceLE, Int.reduceLT, Int.reduceToNat, Nat.reduceAdd, Nat.reduceSub, Nat.reduceLeDiff, Nat.reduceEqDiff, Int.reduceNeg, Int.reduceEq, Nat.reduceLT, Nat.reduceMul, mulI, fdivI, rngI1, rngI2, Int.cast_ofNat_Int, Int.toNat_natCast, Option.bind_none, Option.map_none, Int.reduceAdd, Int.reduceSub, b__law_pop, hfd]
  repeat with_reducible refine wp_b ?_
  refine wp_mono (draw_ok hd (by omega) (by omega)) ?_
  rintro _ ⟨x, d1, rfl, x0, x1, hd1⟩
  have hf1 := hd1.fz
  have x1 := x1 (by omega)
  obtain ⟨n, rfl⟩ := Int.eq_ofNat_of_zero_le x0
  have hp := popI (l := l) (i := (n : Int)) (n := n) rfl (by omega) (by omega) hf
  simp -implicitDefEqProofs (disch := first | assumption | exact st_no | exact st_v | exact fst_no | omega) only [xs1, xs2, xs3, rd, rds, vals, cont, Sl.cont, D.fz, fzL, cmpD, ordD, eqD_int, eqD_in, eqD_ni, eqD_nn, eqD_bb, isD, D.isNon, idx_tup, idx_lst, idx_ro, idx_own, addI, subI, fdivD, modD, negD, truD, bltD, lenD_items, listD, tupleD, absD_int, intD, tyD, D.items, D.isL, mutD, appD, extD, mutArgs, argsOf, argOf, lentS, places, back, backOne, outs, setL, ownAt, parS, lock, unlock, wipeS, putBack, free_zero, free_succ, fst_no, fst_v, rngOf1, rngOf2, srcOf, kit_bb, wp_some, retq_rt, retq_nx, turn_nx, turn_ct, turnp_nx, turnp_ct, turnp_rt, turnp_bk, Option.toList, Int.zero_add, Int.sub_zero, List.getElem?_cons_succ, List.getElem?_cons_zero, List.set_cons_succ, List.set_cons_zero, Option.bind_some, Option.map_some, if_true, if_false, decide_true, decide_false, Bool.false_eq_true, store_zero, store_succ, st_no, st_v, atI_pos, ix50, ix51, ix52, ix53, ix54, ixN_pos, Option.bind_some, List.nodup_nil, List.nodup_cons, List.mem_cons, List.not_mem_nil, or_false, or_true, false_or, not_false_eq_true, not_true, and_self, and_true, true_and, Bool.and_true, Bool.true_and, Bool.and_self, Bool.and_false, Bool.false_and, Bool.not_true, Bool.not_false, List.length_cons, List.length_nil, List.cons_append, List.nil_append, List.replicate, Out.map, List.append_eq, List.all_cons, List.all_nil, decide_not, ne_eq, lim_lit, List.length_map, Int.reduceLE, Int.reduceLT, Int.reduceToNat, Nat.reduceAdd, Nat.reduceSub, Nat.reduceLeDiff, Nat.reduceEqDiff, Int.reduceNeg, Int.reduceEq, Nat.reduceLT, Nat.reduceMul, mulI, fdivI, rngI1, rngI2, Int.cast_ofNat_Int, Int.toNat_natCast, Option.bind_none, Option.map_none, Int.reduceAdd, Int.reduceSub, hf1, hp]
  exact ⟨n, d1, rfl, by omega, hd1⟩
theorem rare_ok (hd : Dd B d) (hB : B ≤ 900000000) : Wp (fun r => ∃ b d', r = (.bl b, [.bo d', .no]) ∧ Dd (B + 1) d') (evF T 1000 (k + 2) 8 [.bo d, .v (.int 8)]) := by
  refine evF_wp T__law_rare rfl ?_
  have hf := hd.fz
  simp -implicitDefEqProofs (disch := first | assumption | exact st_no | exact st_v | exact fst_no | omega) only [xs1, xs2, xs3, rd, rds, vals, cont, Sl.cont, D.fz, fzL, cmpD, ordD, eqD_int, eqD_in, eqD_ni, eqD_nn, eqD_bb, isD, D.isNon, idx_tup, idx_lst, idx_ro, idx_own, addI, subI, fdivD, modD, negD, truD, bltD, lenD_items, listD, tupleD, absD_int, intD, tyD, D.items, D.isL, mutD, appD, extD, mutArgs, argsOf, argOf, lentS, places, back, backOne, outs, setL, ownAt, parS, lock, unlock, wipeS, putBack, free_zero, free_succ, fst_no, fst_v, rngOf1, rngOf2, srcOf, kit_bb, wp_some, retq_rt, retq_nx, turn_nx, turn_ct, turnp_nx, turnp_ct, turnp_rt, turnp_bk, Option.toList, Int.zero_add, Int.sub_zero, List.getElem?_cons_succ, List.getElem?_cons_zero, List.set_cons_succ, List.set_cons_zero, Option.bind_some, Option.map_some, if_true, if_false, decide_true, decide_false, Bool.false_eq_true, store_zero, store_succ, st_no, st_v, atI_pos, ix50, ix51, ix52, ix53, ix54, ixN_pos, Option.bind_some, List.nodup_nil, List.nodup_cons, List.mem_cons, List.not_mem_nil, or_false, or_true, false_or, not_false_eq_true, not_true, and_self, and_true, true_and, Bool.and_true, Bool.true_and, Bool.and_self, Bool.and_false, Bool.false_and, Bool.not_true, Bool.not_false, List.length_cons, List.length_nil, List.cons_append, List.nil_append, List.replicate, Out.map, List.append_eq, List.all_cons, List.all_nil, decide_not, ne_eq, lim_lit, List.length_map, Int.reduceLE, Int.reduceLT, Int.reduceToNat, Nat.reduceAdd, Nat.reduceSub, Nat.reduceLeDiff, Nat.reduceEqDiff, Int.reduceNeg, Int.reduceEq, Nat.reduceLT, Nat.reduceMul, mulI, fdivI, rngI1, rngI2, Int.cast_ofNat_Int, Int.toNat_natCast, Option.bind_none, Option.map_none, Int.reduceAdd, Int.reduceSub, b__law_rare, hf]
  repeat with_reducible refine wp_b ?_
  refine wp_mono (draw_ok hd (by omega) (by omega)) ?_
  rintro _ ⟨x, d1, rfl, x0, x1, hd1⟩
  have hf1 := hd1.fz
  have x1 := x1 (by omega)
  simp -implicitDefEqProofs (disch := first | assumption | exact st_no | exact st_v | exact fst_no | omega) only [xs1, xs2, xs3, rd, rds, vals, cont, Sl.cont, D.fz, fzL, cmpD, ordD, eqD_int, eqD_in, eqD_ni, eqD_nn, eqD_bb, isD, D.isNon, idx_tup, idx_lst, idx_ro, idx_own, addI, subI, fdivD, modD, negD, truD, bltD, lenD_items, listD, tupleD, absD_int, intD, tyD, D.items, D.isL, mutD, appD, extD, mutArgs, argsOf, argOf, lentS, places, back, backOne, outs, setL, ownAt, parS, lock, unlock, wipeS, putBack, free_zero, free_succ, fst_no, fst_v, rngOf1, rngOf2, srcOf, kit_bb, wp_some, retq_rt, retq_nx, turn_nx, turn_ct, turnp_nx, turnp_ct, turnp_rt, turnp_bk, Option.toList, Int.zero_add, Int.sub_zero, List.getElem?_cons_succ, List.getElem?_cons_zero, List.set_cons_succ, List.set_cons_zero, Option.bind_some, Option.map_some, if_true, if_false, decide_true, decide_false, Bool.false_eq_true, store_zero, store_succ, st_no, st_v, atI_pos, ix50, ix51, ix52, ix53, ix54, ixN_pos, Option.bind_some, List.nodup_nil, List.nodup_cons, List.mem_cons, List.not_mem_nil, or_false, or_true, false_or, not_false_eq_true, not_true, and_self, and_true, true_and, Bool.and_true, Bool.true_and, Bool.and_self, Bool.and_false, Bool.false_and, Bool.not_true, Bool.not_false, List.length_cons, List.length_nil, List.cons_append, List.nil_append, List.replicate, Out.map, List.append_eq, List.all_cons, List.all_nil, decide_not, ne_eq, lim_lit, List.length_map, Int.reduceLE, Int.reduceLT, Int.reduceToNat, Nat.reduceAdd, Nat.reduceSub, Nat.reduceLeDiff, Nat.reduceEqDiff, Int.reduceNeg, Int.reduceEq, Nat.reduceLT, Nat.reduceMul, mulI, fdivI, rngI1, rngI2, Int.cast_ofNat_Int, Int.toNat_natCast, Option.bind_none, Option.map_none, Int.reduceAdd, Int.reduceSub, hf1]
  exact ⟨_, _, rfl, hd1⟩
theorem between_ok {a b : Int} (hd : Dd B d) (hB : B ≤ 900000000) (hab : b - a < 900000000) : Wp (fun r => ∃ x d', r = (.int x, [.bo d', .no, .no]) ∧ a ≤ x ∧ (a ≤ b → x ≤ b) ∧ Dd (B + 1) d') (evF T 1000 (k + 2) 9 [.bo d, .v (.int a), .v (.int b)]) := by
  refine evF_wp T__law_between rfl ?_
  have hf := hd.fz
  simp -implicitDefEqProofs (disch := first | assumption | exact st_no | exact st_v | exact fst_no | omega) only [xs1, xs2, xs3, rd, rds, vals, cont, Sl.cont, D.fz, fzL, cmpD, ordD, eqD_int, eqD_in, eqD_ni, eqD_nn, eqD_bb, isD, D.isNon, idx_tup, idx_lst, idx_ro, idx_own, addI, subI, fdivD, modD, negD, truD, bltD, lenD_items, listD, tupleD, absD_int, intD, tyD, D.items, D.isL, mutD, appD, extD, mutArgs, argsOf, argOf, lentS, places, back, backOne, outs, setL, ownAt, parS, lock, unlock, wipeS, putBack, free_zero, free_succ, fst_no, fst_v, rngOf1, rngOf2, srcOf, kit_bb, wp_some, retq_rt, retq_nx, turn_nx, turn_ct, turnp_nx, turnp_ct, turnp_rt, turnp_bk, Option.toList, Int.zero_add, Int.sub_zero, List.getElem?_cons_succ, List.getElem?_cons_zero, List.set_cons_succ, List.set_cons_zero, Option.bind_some, Option.map_some, if_true, if_false, decide_true, decide_false, Bool.false_eq_true, store_zero, store_succ, st_no, st_v, atI_pos, ix50, ix51, ix52, ix53, ix54, ixN_pos, Option.bind_some, List.nodup_nil, List.nodup_cons, List.mem_cons, List.not_mem_nil, or_false, or_true, false_or, not_false_eq_true, not_true, and_self, and_true, true_and, Bool.and_true, Bool.true_and, Bool.and_self, Bool.and_false, Bool.false_and, Bool.not_true, Bool.not_false, List.length_cons, List.length_nil, List.cons_append, List.nil_append, List.replicate, Out.map, List.append_eq, List.all_cons, List.all_nil, decide_not, ne_eq, lim_lit, List.length_map, Int.reduceLE, Int.reduceLT, Int.reduceToNat, Nat.reduceAdd, Nat.reduceSub, Nat.reduceLeDiff, Nat.reduceEqDiff, Int.reduceNeg, Int.reduceEq, Nat.reduceLT, Nat.reduceMul, mulI, fdivI, rngI1, rngI2, Int.cast_ofNat_Int, Int.toNat_natCast, Option.bind_none, Option.map_none, Int.reduceAdd, Int.reduceSub, b__law_between, hf]
  repeat with_reducible refine wp_b ?_
  refine wp_mono (draw_ok hd (by omega) (by omega)) ?_
  rintro _ ⟨x, d1, rfl, x0, x1, hd1⟩
  have hf1 := hd1.fz
  simp -implicitDefEqProofs (disch := first | assumption | exact st_no | exact st_v | exact fst_no | omega) only [xs1, xs2, xs3, rd, rds, vals, cont, Sl.cont, D.fz, fzL, cmpD, ordD, eqD_int, eqD_in, eqD_ni, eqD_nn, eqD_bb, isD, D.isNon, idx_tup, idx_lst, idx_ro, idx_own, addI, subI, fdivD, modD, negD, truD, bltD, lenD_items, listD, tupleD, absD_int, intD, tyD, D.items, D.isL, mutD, appD, extD, mutArgs, argsOf, argOf, lentS, places, back, backOne, outs, setL, ownAt, parS, lock, unlock, wipeS, putBack, free_zero, free_succ, fst_no, fst_v, rngOf1, rngOf2, srcOf, kit_bb, wp_some, retq_rt, retq_nx, turn_nx, turn_ct, turnp_nx, turnp_ct, turnp_rt, turnp_bk, Option.toList, Int.zero_add, Int.sub_zero, List.getElem?_cons_succ, List.getElem?_cons_zero, List.set_cons_succ, List.set_cons_zero, Option.bind_some, Option.map_some, if_true, if_false, decide_true, decide_false, Bool.false_eq_true, store_zero, store_succ, st_no, st_v, atI_pos, ix50, ix51, ix52, ix53, ix54, ixN_pos, Option.bind_some, List.nodup_nil, List.nodup_cons, List.mem_cons, List.not_mem_nil, or_false, or_true, false_or, not_false_eq_true, not_true, and_self, and_true, true_and, Bool.and_true, Bool.true_and, Bool.and_self, Bool.and_false, Bool.false_and, Bool.not_true, Bool.not_false, List.length_cons, List.length_nil, List.cons_append, List.nil_append, List.replicate, Out.map, List.append_eq, List.all_cons, List.all_nil, decide_not, ne_eq, lim_lit, List.length_map, Int.reduceLE, Int.reduceLT, Int.reduceToNat, Nat.reduceAdd, Nat.reduceSub, Nat.reduceLeDiff, Nat.reduceEqDiff, Int.reduceNeg, Int.reduceEq, Nat.reduceLT, Nat.reduceMul, mulI, fdivI, rngI1, rngI2, Int.cast_ofNat_Int, Int.toNat_natCast, Option.bind_none, Option.map_none, Int.reduceAdd, Int.reduceSub, hf1]
  exact ⟨_, d1, rfl, by omega, fun h => by have := x1 (by omega); omega, hd1⟩
/-- one of a list that is read -/
theorem pick_ok {l : List D} {s s' : Sl} (hs : (s = .bo (.own l) ∧ s' = .bo (.own l)) ∨ ∃ r, (r = .tup l ∨ r = .own l ∨ r = .lst l) ∧ s = .v r ∧ s' = .no) (hd : Dd B d) (hB : B ≤ 900000000) (hf : fzL l = true) (h1 : 1 ≤ l.length) (h2 : l.length ≤ 1000) :
    Wp (fun r => ∃ n d', r = (l.getD n .non, [.bo d', s']) ∧ n < l.length ∧ Dd (B + 1) d') (evF T 1000 (k + 2) 6 [.bo d, s]) := by
  refine evF_wp T__law_pick rfl ?_
  have hfd := hd.fz
  have at' : ∀ n : Nat, n < l.length → l[n]? = some (l.getD n .non) := fun n hn => by rw [List.getD_eq_getElem?_getD, List.getElem?_eq_getElem hn]; rfl
  have fz' : ∀ n : Nat, n < l.length → (l.getD n .non).fz = true := fun n hn => by
    rw [List.getD_eq_getElem?_getD, List.getElem?_eq_getElem hn]
    exact mem_fzL hf _ (List.getElem_mem hn)
  rcases hs with ⟨rfl, rfl⟩ | ⟨r, rfl | rfl | rfl, rfl, rfl⟩ <;>
  · simp -implicitDefEqProofs (disch := first | assumption | exact st_no | exact st_v | exact fst_no | omega) only [xs1, xs2, xs3, rd, rds, vals, cont, Sl.cont, D.fz, fzL, cmpD, ordD, eqD_int, eqD_in, eqD_ni, eqD_nn, eqD_bb, isD, D.isNon, idx_tup, idx_lst, idx_ro, idx_own, addI, subI, fdivD, modD, negD, truD, bltD, lenD_items, listD, tupleD, absD_int, intD, tyD, D.items, D.isL, mutD, appD, extD, mutArgs, argsOf, argOf, lentS, places, back, backOne, outs, setL, ownAt, parS, lock, unlock, wipeS, putBack, free_zero, free_succ, fst_no, fst_v, rngOf1, rngOf2, srcOf, kit_bb, wp_some, retq_rt, retq_nx, turn_nx, turn_ct, turnp_nx, turnp_ct, turnp_rt, turnp_bk, Option.toList, Int.zero_add, Int.sub_zero, List.getElem?_cons_succ, List.getElem?_cons_zero, List.set_cons_succ, List.set_cons_zero, Option.bind_some, Option.map_some, if_true, if_false, decide_true, decide_false, Bool.false_eq_true, store_zero, store_succ, st_no, st_v, atI_pos, ix50, ix51, ix52, ix53, ix54, ixN_pos, Option.bind_some, List.nodup_nil, List.nodup_cons, List.mem_cons, List.not_mem_nil, or_false, or_true, false_or, not_false_eq_true, not_true, and_self, and_true, true_and, Bool.and_true, Bool.true_and, Bool.and_self, Bool.and_false, Bool.false_and, Bool.not_true, Bool.not_false, List.length_cons, List.length_nil, List.cons_append, List.nil_append, List.replicate, Out.map, List.append_eq, List.all_cons, List.all_nil, decide_not, ne_eq, lim_lit, List.length_map, Int.reduceLE, Int.reduceLT, Int.reduceToNat, Nat.reduceAdd, Nat.reduceSub, Nat.reduceLeDiff, Nat.reduceEqDiff, Int.reduceNeg, Int.reduceEq, Nat.reduceLT, Nat.reduceMul, mulI, fdivI, rngI1, rngI2, Int.cast_ofNat_Int, Int.toNat_natCast, Option.bind_none, Option.map_none, Int.reduceAdd, Int.reduceSub, b__law_pick, hfd, hf]
    repeat with_reducible refine wp_b ?_
    refine wp_mono (draw_ok hd (by omega) (by omega)) ?_
    rintro _ ⟨x, d1, rfl, x0, x1, hd1⟩
    have hf1 := hd1.fz
    have x1 := x1 (by omega)
    obtain ⟨n, rfl⟩ := Int.eq_ofNat_of_zero_le x0
    have hn : n < l.length := by omega
    have e1 := at' n hn
    have e2 := fz' n hn
    simp -implicitDefEqProofs (disch := first | assumption | exact st_no | exact st_v | exact fst_no | omega) only [xs1, xs2, xs3, rd, rds, vals, cont, Sl.cont, D.fz, fzL, cmpD, ordD, eqD_int, eqD_in, eqD_ni, eqD_nn, eqD_bb, isD, D.isNon, idx_tup, idx_lst, idx_ro, idx_own, addI, subI, fdivD, modD, negD, truD, bltD, lenD_items, listD, tupleD, absD_int, intD, tyD, D.items, D.isL, mutD, appD, extD, mutArgs, argsOf, argOf, lentS, places, back, backOne, outs, setL, ownAt, parS, lock, unlock, wipeS, putBack, free_zero, free_succ, fst_no, fst_v, rngOf1, rngOf2, srcOf, kit_bb, wp_some, retq_rt, retq_nx, turn_nx, turn_ct, turnp_nx, turnp_ct, turnp_rt, turnp_bk, Option.toList, Int.zero_add, Int.sub_zero, List.getElem?_cons_succ, List.getElem?_cons_zero, List.set_cons_succ, List.set_cons_zero, Option.bind_some, Option.map_some, if_true, if_false, decide_true, decide_false, Bool.false_eq_true, store_zero, store_succ, st_no, st_v, atI_pos, ix50, ix51, ix52, ix53, ix54, ixN_pos, Option.bind_some, List.nodup_nil, List.nodup_cons, List.mem_cons, List.not_mem_nil, or_false, or_true, false_or, not_false_eq_true, not_true, and_self, and_true, true_and, Bool.and_true, Bool.true_and, Bool.and_self, Bool.and_false, Bool.false_and, Bool.not_true, Bool.not_false, List.length_cons, List.length_nil, List.cons_append, List.nil_append, List.replicate, Out.map, List.append_eq, List.all_cons, List.all_nil, decide_not, ne_eq, lim_lit, List.length_map, Int.reduceLE, Int.reduceLT, Int.reduceToNat, Nat.reduceAdd, Nat.reduceSub, Nat.reduceLeDiff, Nat.reduceEqDiff, Int.reduceNeg, Int.reduceEq, Nat.reduceLT, Nat.reduceMul, mulI, fdivI, rngI1, rngI2, Int.cast_ofNat_Int, Int.toNat_natCast, Option.bind_none, Option.map_none, Int.reduceAdd, Int.reduceSub, hf1, e1, e2, hf]
    exact ⟨n, d1, rfl, hn, hd1⟩
end
end K09


set_option maxRecDepth 100000
set_option maxHeartbeats 4000000
namespace K09
open PySem Co
theorem erase_perm {α : Type} : ∀ {l : List α} {n : Nat} (h : n < l.length), (l[n] :: l.eraseIdx n).Perm l
  | a :: l, 0, _ => by simp
  | a :: l, n + 1, h => by
    simp only [List.getElem_cons_succ, List.eraseIdx_cons_succ]
    exact (List.Perm.swap a _ _).trans ((erase_perm (l := l) (n := n) (by simpa using h)).cons a)
theorem idxF_some {y : D} : ∀ {l : List D}, (∃ d ∈ l, eqF d y = true) → ∃ n, idxF y l = some n ∧ n < l.length
  | [], ⟨d, hd, _⟩ => nomatch hd
  | a :: l, ⟨d, hd, he⟩ => by
    unfold idxF
    by_cases h : eqF a y = true
    · exact ⟨0, by rw [if_pos h], by simp⟩
    · rcases List.mem_cons.mp hd with rfl | hd
      · exact absurd he h
      · obtain ⟨n, e, hn⟩ := idxF_some (l := l) ⟨d, hd, he⟩
        exact ⟨n + 1, by rw [if_neg h, e]; rfl, by simp; omega⟩
theorem index_some {y : D} {l : List D} (hy : y.flat = true) (hl : l.all D.flat = true) (h : ∃ d ∈ l, eqF d y = true) : ∃ n : Nat, indexD l y = some (.int n) ∧ n < l.length := by
  obtain ⟨n, e, hn⟩ := idxF_some h
  exact ⟨n, by unfold indexD; rw [hy, hl, e]; rfl, hn⟩
theorem flat_ints (p : List Int) : (p.map D.int).all D.flat = true := by
  rw [List.all_map]
  exact List.all_eq_true.mpr fun _ _ => rfl
theorem index_int {p : List Int} {x : Int} (h : x ∈ p) : ∃ n : Nat, indexD (p.map D.int) (.int x) = some (.int n) ∧ n < p.length := by
  obtain ⟨n, e, hn⟩ := index_some (y := .int x) rfl (flat_ints p) ⟨.int x, List.mem_map.mpr ⟨x, h, rfl⟩, by simp [eqF]⟩
  exact ⟨n, e, by simpa using hn⟩
section
variable {k B : Nat} {d : D}
theorem shuffled_ok {l : List D} (hd : Dd B d) (hB : B ≤ 800000000) (hf : fzL l = true) (h2 : l.length ≤ 1000) :
    Wp (fun r => ∃ m d', r = (.own m, [.bo d', .no]) ∧ m.Perm l ∧ Dd (B + l.length) d') (evF T 1000 (k + 3) 10 [.bo d, .v (.own l)]) := by
  refine evF_wp T__law_shuffled rfl ?_
  have hfd := hd.fz
  have hlen : (rngD 0 (l.length : Int)).length = l.length := by rw [rngd_len]; omega
  simp -implicitDefEqProofs (disch := first | assumption | exact st_no | exact st_v | exact fst_no | omega) only [xs1, xs2, xs3, rd, rds, vals, cont, Sl.cont, D.fz, fzL, cmpD, ordD, eqD_int, eqD_in, eqD_ni, eqD_nn, eqD_bb, isD, D.isNon, idx_tup, idx_lst, idx_ro, idx_own, addI, subI, fdivD, modD, negD, truD, bltD, lenD_items, listD, tupleD, absD_int, intD, tyD, D.items, D.isL, mutD, appD, extD, mutArgs, argsOf, argOf, lentS, places, back, backOne, outs, setL, ownAt, parS, lock, unlock, wipeS, putBack, free_zero, free_succ, fst_no, fst_v, rngOf1, rngOf2, srcOf, kit_bb, wp_some, retq_rt, retq_nx, turn_nx, turn_ct, turnp_nx, turnp_ct, turnp_rt, turnp_bk, Option.toList, Int.zero_add, Int.sub_zero, List.getElem?_cons_succ, List.getElem?_cons_zero, List.set_cons_succ, List.set_cons_zero, Option.bind_some, Option.map_some, if_true, if_false, decide_true, decide_false, Bool.false_eq_true, store_zero, store_succ, st_no, st_v, atI_pos, ix50, ix51, ix52, ix53, ix54, ixN_pos, Option.bind_some, List.nodup_nil, List.nodup_cons, List.mem_cons, List.not_mem_nil, or_false, or_true, false_or, not_false_eq_true, not_true, and_self, and_true, true_and, Bool.and_true, Bool.true_and, Bool.and_self, Bool.and_false, Bool.false_and, Bool.not_true, Bool.not_false, List.length_cons, List.length_nil, List.cons_append, List.nil_append, List.replicate, Out.map, List.append_eq, List.all_cons, List.all_nil, decide_not, ne_eq, lim_lit, List.length_map, Int.reduceLE, Int.reduceLT, Int.reduceToNat, Nat.reduceAdd, Nat.reduceSub, Nat.reduceLeDiff, Nat.reduceEqDiff, Int.reduceNeg, Int.reduceEq, Nat.reduceLT, Nat.reduceMul, mulI, fdivI, rngI1, rngI2, Int.cast_ofNat_Int, Int.toNat_natCast, Option.bind_none, Option.map_none, Int.reduceAdd, Int.reduceSub, b__law_shuffled, hfd, hf]
  repeat with_reducible refine wp_b ?_
  refine wp_for (fun i ρ => ∃ (lf fd : List D) (d' : D) (s4 : Sl), ρ = [.bo d', .v (.own l), .v (.own lf), .v (.own fd), s4] ∧ St s4 ∧ (fd ++ lf).Perm l ∧ lf.length + i = l.length ∧ Dd (B + i) d') ?_ ?_ ?_
  · exact ⟨l, [], d, _, rfl, st_no, by simp, by simp, by simpa using hd⟩
  · rintro i v _ hi ⟨lf, fd, d4, s4, rfl, h4, hp, hll, hd4⟩
    obtain ⟨rfl, hlt⟩ := rngd_get hi
    have hf4 := hd4.fz
    have fzall : ∀ x ∈ lf, x.fz = true := fun x hx => mem_fzL hf x (hp.subset (List.mem_append_right _ hx))
    have ffd : fzL fd = true := fzL_mem fun x hx => mem_fzL hf x (hp.subset (List.mem_append_left _ hx))
    have flf : fzL lf = true := fzL_mem fzall
    simp -implicitDefEqProofs (disch := first | assumption | exact st_no | exact st_v | exact fst_no | omega) only [xs1, xs2, xs3, rd, rds, vals, cont, Sl.cont, D.fz, fzL, cmpD, ordD, eqD_int, eqD_in, eqD_ni, eqD_nn, eqD_bb, isD, D.isNon, idx_tup, idx_lst, idx_ro, idx_own, addI, subI, fdivD, modD, negD, truD, bltD, lenD_items, listD, tupleD, absD_int, intD, tyD, D.items, D.isL, mutD, appD, extD, mutArgs, argsOf, argOf, lentS, places, back, backOne, outs, setL, ownAt, parS, lock, unlock, wipeS, putBack, free_zero, free_succ, fst_no, fst_v, rngOf1, rngOf2, srcOf, kit_bb, wp_some, retq_rt, retq_nx, turn_nx, turn_ct, turnp_nx, turnp_ct, turnp_rt, turnp_bk, Option.toList, Int.zero_add, Int.sub_zero, List.getElem?_cons_succ, List.getElem?_cons_zero, List.set_cons_succ, List.set_cons_zero, Option.bind_some, Option.map_some, if_true, if_false, decide_true, decide_false, Bool.false_eq_true, store_zero, store_succ, st_no, st_v, atI_pos, ix50, ix51, ix52, ix53, ix54, ixN_pos, Option.bind_some, List.nodup_nil, List.nodup_cons, List.mem_cons, List.not_mem_nil, or_false, or_true, false_or, not_false_eq_true, not_true, and_self, and_true, true_and, Bool.and_true, Bool.true_and, Bool.and_self, Bool.and_false, Bool.false_and, Bool.not_true, Bool.not_false, List.length_cons, List.length_nil, List.cons_append, List.nil_append, List.replicate, Out.map, List.append_eq, List.all_cons, List.all_nil, decide_not, ne_eq, lim_lit, List.length_map, Int.reduceLE, Int.reduceLT, Int.reduceToNat, Nat.reduceAdd, Nat.reduceSub, Nat.reduceLeDiff, Nat.reduceEqDiff, Int.reduceNeg, Int.reduceEq, Nat.reduceLT, Nat.reduceMul, mulI, fdivI, rngI1, rngI2, Int.cast_ofNat_Int, Int.toNat_natCast, Option.bind_none, Option.map_none, Int.reduceAdd, Int.reduceSub, forTu, hf4, h4, flf, ffd]
    repeat with_reducible refine wp_b ?_
    refine wp_mono (pop_ok hd4 (by omega) flf (by omega) (by omega)) ?_
    rintro _ ⟨n, d5, rfl, hn, hd5⟩
    have hf5 := hd5.fz
    have hfl : fd.length + lf.length = l.length := by have := hp.length_eq; simpa using this
    have eg : lf.getD n .non = lf[n] := by rw [List.getD_eq_getElem?_getD, List.getElem?_eq_getElem hn]; rfl
    have fe : (lf.getD n .non).fz = true := by rw [eg]; exact fzall _ (List.getElem_mem hn)
    have hap : fd.length < 16777216 := by omega
    simp -implicitDefEqProofs (disch := first | assumption | exact st_no | exact st_v | exact fst_no | omega) only [xs1, xs2, xs3, rd, rds, vals, cont, Sl.cont, D.fz, fzL, cmpD, ordD, eqD_int, eqD_in, eqD_ni, eqD_nn, eqD_bb, isD, D.isNon, idx_tup, idx_lst, idx_ro, idx_own, addI, subI, fdivD, modD, negD, truD, bltD, lenD_items, listD, tupleD, absD_int, intD, tyD, D.items, D.isL, mutD, appD, extD, mutArgs, argsOf, argOf, lentS, places, back, backOne, outs, setL, ownAt, parS, lock, unlock, wipeS, putBack, free_zero, free_succ, fst_no, fst_v, rngOf1, rngOf2, srcOf, kit_bb, wp_some, retq_rt, retq_nx, turn_nx, turn_ct, turnp_nx, turnp_ct, turnp_rt, turnp_bk, Option.toList, Int.zero_add, Int.sub_zero, List.getElem?_cons_succ, List.getElem?_cons_zero, List.set_cons_succ, List.set_cons_zero, Option.bind_some, Option.map_some, if_true, if_false, decide_true, decide_false, Bool.false_eq_true, store_zero, store_succ, st_no, st_v, atI_pos, ix50, ix51, ix52, ix53, ix54, ixN_pos, Option.bind_some, List.nodup_nil, List.nodup_cons, List.mem_cons, List.not_mem_nil, or_false, or_true, false_or, not_false_eq_true, not_true, and_self, and_true, true_and, Bool.and_true, Bool.true_and, Bool.and_self, Bool.and_false, Bool.false_and, Bool.not_true, Bool.not_false, List.length_cons, List.length_nil, List.cons_append, List.nil_append, List.replicate, Out.map, List.append_eq, List.all_cons, List.all_nil, decide_not, ne_eq, lim_lit, List.length_map, Int.reduceLE, Int.reduceLT, Int.reduceToNat, Nat.reduceAdd, Nat.reduceSub, Nat.reduceLeDiff, Nat.reduceEqDiff, Int.reduceNeg, Int.reduceEq, Nat.reduceLT, Nat.reduceMul, mulI, fdivI, rngI1, rngI2, Int.cast_ofNat_Int, Int.toNat_natCast, Option.bind_none, Option.map_none, Int.reduceAdd, Int.reduceSub, hf5, fe, flf, ffd, hap]
    refine ⟨lf.eraseIdx n, fd ++ [lf.getD n .non], d5, _, rfl, st_v, ?_, ?_, hd5⟩
    · rw [List.append_assoc, eg]
      exact (List.Perm.append_left fd (erase_perm hn)).trans hp
    · rw [List.length_eraseIdx_of_lt hn]; omega
  · rintro _ ⟨lf, fd, d4, s4, rfl, h4, hp, hll, hd4⟩
    rw [hlen] at hd4 hll
    have : lf = [] := List.length_eq_zero_iff.mp (by omega)
    subst this
    have hf4 := hd4.fz
    have ffd : fzL fd = true := fzL_mem fun x hx => mem_fzL hf x (hp.subset (List.mem_append_left _ hx))
    simp -implicitDefEqProofs (disch := first | assumption | exact st_no | exact st_v | exact fst_no | omega) only [xs1, xs2, xs3, rd, rds, vals, cont, Sl.cont, D.fz, fzL, cmpD, ordD, eqD_int, eqD_in, eqD_ni, eqD_nn, eqD_bb, isD, D.isNon, idx_tup, idx_lst, idx_ro, idx_own, addI, subI, fdivD, modD, negD, truD, bltD, lenD_items, listD, tupleD, absD_int, intD, tyD, D.items, D.isL, mutD, appD, extD, mutArgs, argsOf, argOf, lentS, places, back, backOne, outs, setL, ownAt, parS, lock, unlock, wipeS, putBack, free_zero, free_succ, fst_no, fst_v, rngOf1, rngOf2, srcOf, kit_bb, wp_some, retq_rt, retq_nx, turn_nx, turn_ct, turnp_nx, turnp_ct, turnp_rt, turnp_bk, Option.toList, Int.zero_add, Int.sub_zero, List.getElem?_cons_succ, List.getElem?_cons_zero, List.set_cons_succ, List.set_cons_zero, Option.bind_some, Option.map_some, if_true, if_false, decide_true, decide_false, Bool.false_eq_true, store_zero, store_succ, st_no, st_v, atI_pos, ix50, ix51, ix52, ix53, ix54, ixN_pos, Option.bind_some, List.nodup_nil, List.nodup_cons, List.mem_cons, List.not_mem_nil, or_false, or_true, false_or, not_false_eq_true, not_true, and_self, and_true, true_and, Bool.and_true, Bool.true_and, Bool.and_self, Bool.and_false, Bool.false_and, Bool.not_true, Bool.not_false, List.length_cons, List.length_nil, List.cons_append, List.nil_append, List.replicate, Out.map, List.append_eq, List.all_cons, List.all_nil, decide_not, ne_eq, lim_lit, List.length_map, Int.reduceLE, Int.reduceLT, Int.reduceToNat, Nat.reduceAdd, Nat.reduceSub, Nat.reduceLeDiff, Nat.reduceEqDiff, Int.reduceNeg, Int.reduceEq, Nat.reduceLT, Nat.reduceMul, mulI, fdivI, rngI1, rngI2, Int.cast_ofNat_Int, Int.toNat_natCast, Option.bind_none, Option.map_none, Int.reduceAdd, Int.reduceSub, hf4, ffd]
    exact ⟨fd, d4, rfl, by simpa using hp, hd4⟩
theorem rounds_ok {p : List Int} {t : Int} (hp : ∀ i : Int, 0 ≤ i → i < p.length → i ∈ p) (hl : p.length ≤ 12) (h1 : 1 ≤ p.length) (ht : 2 ≤ t ∧ t ≤ 6) :
    Wp (fun r => ∃ x, r = (.int x, [.no, .no]) ∧ 0 ≤ x ∧ x ≤ 8) (evF T 1000 (k + 1) 16 [.v (.tup (p.map D.int)), .v (.int t)]) := by
  refine evF_wp T__law_rounds rfl ?_
  simp -implicitDefEqProofs (disch := first | assumption | exact st_no | exact st_v | exact fst_no | omega) only [xs1, xs2, xs3, rd, rds, vals, cont, Sl.cont, D.fz, fzL, cmpD, ordD, eqD_int, eqD_in, eqD_ni, eqD_nn, eqD_bb, isD, D.isNon, idx_tup, idx_lst, idx_ro, idx_own, addI, subI, fdivD, modD, negD, truD, bltD, lenD_items, listD, tupleD, absD_int, intD, tyD, D.items, D.isL, mutD, appD, extD, mutArgs, argsOf, argOf, lentS, places, back, backOne, outs, setL, ownAt, parS, lock, unlock, wipeS, putBack, free_zero, free_succ, fst_no, fst_v, rngOf1, rngOf2, srcOf, kit_bb, wp_some, retq_rt, retq_nx, turn_nx, turn_ct, turnp_nx, turnp_ct, turnp_rt, turnp_bk, Option.toList, Int.zero_add, Int.sub_zero, List.getElem?_cons_succ, List.getElem?_cons_zero, List.set_cons_succ, List.set_cons_zero, Option.bind_some, Option.map_some, if_true, if_false, decide_true, decide_false, Bool.false_eq_true, store_zero, store_succ, st_no, st_v, atI_pos, ix50, ix51, ix52, ix53, ix54, ixN_pos, Option.bind_some, List.nodup_nil, List.nodup_cons, List.mem_cons, List.not_mem_nil, or_false, or_true, false_or, not_false_eq_true, not_true, and_self, and_true, true_and, Bool.and_true, Bool.true_and, Bool.and_self, Bool.and_false, Bool.false_and, Bool.not_true, Bool.not_false, List.length_cons, List.length_nil, List.cons_append, List.nil_append, List.replicate, Out.map, List.append_eq, List.all_cons, List.all_nil, decide_not, ne_eq, lim_lit, List.length_map, Int.reduceLE, Int.reduceLT, Int.reduceToNat, Nat.reduceAdd, Nat.reduceSub, Nat.reduceLeDiff, Nat.reduceEqDiff, Int.reduceNeg, Int.reduceEq, Nat.reduceLT, Nat.reduceMul, mulI, fdivI, rngI1, rngI2, Int.cast_ofNat_Int, Int.toNat_natCast, Option.bind_none, Option.map_none, Int.reduceAdd, Int.reduceSub, b__law_rounds, fzL_ints]
  repeat with_reducible refine wp_b ?_
  refine wp_comp (fun i acc ρ => ρ = [.v (.tup (p.map D.int)), .v (.int t), .no, .no, .no, .no, .no] ∧ acc.length ≤ i) ?_ ?_ ?_ ?_
  · exact ⟨rfl, Nat.le_refl _⟩
  · rw [rngd_len, lim_lit]; simp; omega
  · rintro i v acc _ hi ⟨rfl, ha⟩
    obtain ⟨rfl, hlt⟩ := rngd_get hi
    obtain ⟨n1, e1, _⟩ := index_int (hp ((i : Int) + 1) (by omega) (by omega))
    obtain ⟨n2, e2, _⟩ := index_int (hp (i : Int) (by omega) (by omega))
    by_cases hc : (n1 : Int) < n2
    · simp -implicitDefEqProofs (disch := first | assumption | exact st_no | exact st_v | exact fst_no | omega) only [xs1, xs2, xs3, rd, rds, vals, cont, Sl.cont, D.fz, fzL, cmpD, ordD, eqD_int, eqD_in, eqD_ni, eqD_nn, eqD_bb, isD, D.isNon, idx_tup, idx_lst, idx_ro, idx_own, addI, subI, fdivD, modD, negD, truD, bltD, lenD_items, listD, tupleD, absD_int, intD, tyD, D.items, D.isL, mutD, appD, extD, mutArgs, argsOf, argOf, lentS, places, back, backOne, outs, setL, ownAt, parS, lock, unlock, wipeS, putBack, free_zero, free_succ, fst_no, fst_v, rngOf1, rngOf2, srcOf, kit_bb, wp_some, retq_rt, retq_nx, turn_nx, turn_ct, turnp_nx, turnp_ct, turnp_rt, turnp_bk, Option.toList, Int.zero_add, Int.sub_zero, List.getElem?_cons_succ, List.getElem?_cons_zero, List.set_cons_succ, List.set_cons_zero, Option.bind_some, Option.map_some, if_true, if_false, decide_true, decide_false, Bool.false_eq_true, store_zero, store_succ, st_no, st_v, atI_pos, ix50, ix51, ix52, ix53, ix54, ixN_pos, Option.bind_some, List.nodup_nil, List.nodup_cons, List.mem_cons, List.not_mem_nil, or_false, or_true, false_or, not_false_eq_true, not_true, and_self, and_true, true_and, Bool.and_true, Bool.true_and, Bool.and_self, Bool.and_false, Bool.false_and, Bool.not_true, Bool.not_false, List.length_cons, List.length_nil, List.cons_append, List.nil_append, List.replicate, Out.map, List.append_eq, List.all_cons, List.all_nil, decide_not, ne_eq, lim_lit, List.length_map, Int.reduceLE, Int.reduceLT, Int.reduceToNat, Nat.reduceAdd, Nat.reduceSub, Nat.reduceLeDiff, Nat.reduceEqDiff, Int.reduceNeg, Int.reduceEq, Nat.reduceLT, Nat.reduceMul, mulI, fdivI, rngI1, rngI2, Int.cast_ofNat_Int, Int.toNat_natCast, Option.bind_none, Option.map_none, Int.reduceAdd, Int.reduceSub, compTu, fzL_ints, ixA, e1, e2, hc]
      simp only [List.length_append, List.length_cons, List.length_nil]; omega
    · simp -implicitDefEqProofs (disch := first | assumption | exact st_no | exact st_v | exact fst_no | omega) only [xs1, xs2, xs3, rd, rds, vals, cont, Sl.cont, D.fz, fzL, cmpD, ordD, eqD_int, eqD_in, eqD_ni, eqD_nn, eqD_bb, isD, D.isNon, idx_tup, idx_lst, idx_ro, idx_own, addI, subI, fdivD, modD, negD, truD, bltD, lenD_items, listD, tupleD, absD_int, intD, tyD, D.items, D.isL, mutD, appD, extD, mutArgs, argsOf, argOf, lentS, places, back, backOne, outs, setL, ownAt, parS, lock, unlock, wipeS, putBack, free_zero, free_succ, fst_no, fst_v, rngOf1, rngOf2, srcOf, kit_bb, wp_some, retq_rt, retq_nx, turn_nx, turn_ct, turnp_nx, turnp_ct, turnp_rt, turnp_bk, Option.toList, Int.zero_add, Int.sub_zero, List.getElem?_cons_succ, List.getElem?_cons_zero, List.set_cons_succ, List.set_cons_zero, Option.bind_some, Option.map_some, if_true, if_false, decide_true, decide_false, Bool.false_eq_true, store_zero, store_succ, st_no, st_v, atI_pos, ix50, ix51, ix52, ix53, ix54, ixN_pos, Option.bind_some, List.nodup_nil, List.nodup_cons, List.mem_cons, List.not_mem_nil, or_false, or_true, false_or, not_false_eq_true, not_true, and_self, and_true, true_and, Bool.and_true, Bool.true_and, Bool.and_self, Bool.and_false, Bool.false_and, Bool.not_true, Bool.not_false, List.length_cons, List.length_nil, List.cons_append, List.nil_append, List.replicate, Out.map, List.append_eq, List.all_cons, List.all_nil, decide_not, ne_eq, lim_lit, List.length_map, Int.reduceLE, Int.reduceLT, Int.reduceToNat, Nat.reduceAdd, Nat.reduceSub, Nat.reduceLeDiff, Nat.reduceEqDiff, Int.reduceNeg, Int.reduceEq, Nat.reduceLT, Nat.reduceMul, mulI, fdivI, rngI1, rngI2, Int.cast_ofNat_Int, Int.toNat_natCast, Option.bind_none, Option.map_none, Int.reduceAdd, Int.reduceSub, compTu, fzL_ints, ixA, e1, e2, hc]
      simp only [List.append_nil]; omega
  · rintro acc _ ⟨rfl, ha⟩ _
    rw [rngd_len] at ha
    have ha2 : acc.length ≤ 11 := by omega
    simp -implicitDefEqProofs (disch := first | assumption | exact st_no | exact st_v | exact fst_no | omega) only [xs1, xs2, xs3, rd, rds, vals, cont, Sl.cont, D.fz, fzL, cmpD, ordD, eqD_int, eqD_in, eqD_ni, eqD_nn, eqD_bb, isD, D.isNon, idx_tup, idx_lst, idx_ro, idx_own, addI, subI, fdivD, modD, negD, truD, bltD, lenD_items, listD, tupleD, absD_int, intD, tyD, D.items, D.isL, mutD, appD, extD, mutArgs, argsOf, argOf, lentS, places, back, backOne, outs, setL, ownAt, parS, lock, unlock, wipeS, putBack, free_zero, free_succ, fst_no, fst_v, rngOf1, rngOf2, srcOf, kit_bb, wp_some, retq_rt, retq_nx, turn_nx, turn_ct, turnp_nx, turnp_ct, turnp_rt, turnp_bk, Option.toList, Int.zero_add, Int.sub_zero, List.getElem?_cons_succ, List.getElem?_cons_zero, List.set_cons_succ, List.set_cons_zero, Option.bind_some, Option.map_some, if_true, if_false, decide_true, decide_false, Bool.false_eq_true, store_zero, store_succ, st_no, st_v, atI_pos, ix50, ix51, ix52, ix53, ix54, ixN_pos, Option.bind_some, List.nodup_nil, List.nodup_cons, List.mem_cons, List.not_mem_nil, or_false, or_true, false_or, not_false_eq_true, not_true, and_self, and_true, true_and, Bool.and_true, Bool.true_and, Bool.and_self, Bool.and_false, Bool.false_and, Bool.not_true, Bool.not_false, List.length_cons, List.length_nil, List.cons_append, List.nil_append, List.replicate, Out.map, List.append_eq, List.all_cons, List.all_nil, decide_not, ne_eq, lim_lit, List.length_map, Int.reduceLE, Int.reduceLT, Int.reduceToNat, Nat.reduceAdd, Nat.reduceSub, Nat.reduceLeDiff, Nat.reduceEqDiff, Int.reduceNeg, Int.reduceEq, Nat.reduceLT, Nat.reduceMul, mulI, fdivI, rngI1, rngI2, Int.cast_ofNat_Int, Int.toNat_natCast, Option.bind_none, Option.map_none, Int.reduceAdd, Int.reduceSub]
    repeat with_reducible refine wp_b ?_
    refine wp_for (fun i ρ => ∃ (s3 : Sl) (po ro : Int), ρ = [.v (.tup (p.map D.int)), .v (.int t), .v (.int acc.length), s3, .v (.int po), .v (.int ro), .no] ∧ St s3 ∧ 0 ≤ po ∧ po ≤ 72 ∧ 0 ≤ ro ∧ ro ≤ i) ?_ ?_ ?_
    · exact ⟨_, 1, 0, rfl, st_no, by omega, by omega, by omega, by omega⟩
    · rintro i v _ hi ⟨s3, po, ro, rfl, h3, p0, p1, r0, r1⟩
      obtain ⟨rfl, hlt⟩ := rngd_get hi
      by_cases hc : po ≤ acc.length
      · simp -implicitDefEqProofs (disch := first | assumption | exact st_no | exact st_v | exact fst_no | omega) only [xs1, xs2, xs3, rd, rds, vals, cont, Sl.cont, D.fz, fzL, cmpD, ordD, eqD_int, eqD_in, eqD_ni, eqD_nn, eqD_bb, isD, D.isNon, idx_tup, idx_lst, idx_ro, idx_own, addI, subI, fdivD, modD, negD, truD, bltD, lenD_items, listD, tupleD, absD_int, intD, tyD, D.items, D.isL, mutD, appD, extD, mutArgs, argsOf, argOf, lentS, places, back, backOne, outs, setL, ownAt, parS, lock, unlock, wipeS, putBack, free_zero, free_succ, fst_no, fst_v, rngOf1, rngOf2, srcOf, kit_bb, wp_some, retq_rt, retq_nx, turn_nx, turn_ct, turnp_nx, turnp_ct, turnp_rt, turnp_bk, Option.toList, Int.zero_add, Int.sub_zero, List.getElem?_cons_succ, List.getElem?_cons_zero, List.set_cons_succ, List.set_cons_zero, Option.bind_some, Option.map_some, if_true, if_false, decide_true, decide_false, Bool.false_eq_true, store_zero, store_succ, st_no, st_v, atI_pos, ix50, ix51, ix52, ix53, ix54, ixN_pos, Option.bind_some, List.nodup_nil, List.nodup_cons, List.mem_cons, List.not_mem_nil, or_false, or_true, false_or, not_false_eq_true, not_true, and_self, and_true, true_and, Bool.and_true, Bool.true_and, Bool.and_self, Bool.and_false, Bool.false_and, Bool.not_true, Bool.not_false, List.length_cons, List.length_nil, List.cons_append, List.nil_append, List.replicate, Out.map, List.append_eq, List.all_cons, List.all_nil, decide_not, ne_eq, lim_lit, List.length_map, Int.reduceLE, Int.reduceLT, Int.reduceToNat, Nat.reduceAdd, Nat.reduceSub, Nat.reduceLeDiff, Nat.reduceEqDiff, Int.reduceNeg, Int.reduceEq, Nat.reduceLT, Nat.reduceMul, mulI, fdivI, rngI1, rngI2, Int.cast_ofNat_Int, Int.toNat_natCast, Option.bind_none, Option.map_none, Int.reduceAdd, Int.reduceSub, forTu, fzL_ints, h3, hc]
        refine ⟨_, po * t, ro + 1, rfl, st_v, Int.mul_nonneg p0 (by omega), ?_, by omega, by omega⟩
        have := Int.mul_le_mul (show po ≤ 12 by omega) ht.2 (by omega) (by omega)
        omega
      · simp -implicitDefEqProofs (disch := first | assumption | exact st_no | exact st_v | exact fst_no | omega) only [xs1, xs2, xs3, rd, rds, vals, cont, Sl.cont, D.fz, fzL, cmpD, ordD, eqD_int, eqD_in, eqD_ni, eqD_nn, eqD_bb, isD, D.isNon, idx_tup, idx_lst, idx_ro, idx_own, addI, subI, fdivD, modD, negD, truD, bltD, lenD_items, listD, tupleD, absD_int, intD, tyD, D.items, D.isL, mutD, appD, extD, mutArgs, argsOf, argOf, lentS, places, back, backOne, outs, setL, ownAt, parS, lock, unlock, wipeS, putBack, free_zero, free_succ, fst_no, fst_v, rngOf1, rngOf2, srcOf, kit_bb, wp_some, retq_rt, retq_nx, turn_nx, turn_ct, turnp_nx, turnp_ct, turnp_rt, turnp_bk, Option.toList, Int.zero_add, Int.sub_zero, List.getElem?_cons_succ, List.getElem?_cons_zero, List.set_cons_succ, List.set_cons_zero, Option.bind_some, Option.map_some, if_true, if_false, decide_true, decide_false, Bool.false_eq_true, store_zero, store_succ, st_no, st_v, atI_pos, ix50, ix51, ix52, ix53, ix54, ixN_pos, Option.bind_some, List.nodup_nil, List.nodup_cons, List.mem_cons, List.not_mem_nil, or_false, or_true, false_or, not_false_eq_true, not_true, and_self, and_true, true_and, Bool.and_true, Bool.true_and, Bool.and_self, Bool.and_false, Bool.false_and, Bool.not_true, Bool.not_false, List.length_cons, List.length_nil, List.cons_append, List.nil_append, List.replicate, Out.map, List.append_eq, List.all_cons, List.all_nil, decide_not, ne_eq, lim_lit, List.length_map, Int.reduceLE, Int.reduceLT, Int.reduceToNat, Nat.reduceAdd, Nat.reduceSub, Nat.reduceLeDiff, Nat.reduceEqDiff, Int.reduceNeg, Int.reduceEq, Nat.reduceLT, Nat.reduceMul, mulI, fdivI, rngI1, rngI2, Int.cast_ofNat_Int, Int.toNat_natCast, Option.bind_none, Option.map_none, Int.reduceAdd, Int.reduceSub, forTu, fzL_ints, h3, hc]
        exact ⟨_, po, ro, rfl, st_v, p0, p1, r0, by omega⟩
    · rintro _ ⟨s3, po, ro, rfl, h3, p0, p1, r0, r1⟩
      simp -implicitDefEqProofs (disch := first | assumption | exact st_no | exact st_v | exact fst_no | omega) only [xs1, xs2, xs3, rd, rds, vals, cont, Sl.cont, D.fz, fzL, cmpD, ordD, eqD_int, eqD_in, eqD_ni, eqD_nn, eqD_bb, isD, D.isNon, idx_tup, idx_lst, idx_ro, idx_own, addI, subI, fdivD, modD, negD, truD, bltD, lenD_items, listD, tupleD, absD_int, intD, tyD, D.items, D.isL, mutD, appD, extD, mutArgs, argsOf, argOf, lentS, places, back, backOne, outs, setL, ownAt, parS, lock, unlock, wipeS, putBack, free_zero, free_succ, fst_no, fst_v, rngOf1, rngOf2, srcOf, kit_bb, wp_some, retq_rt, retq_nx, turn_nx, turn_ct, turnp_nx, turnp_ct, turnp_rt, turnp_bk, Option.toList, Int.zero_add, Int.sub_zero, List.getElem?_cons_succ, List.getElem?_cons_zero, List.set_cons_succ, List.set_cons_zero, Option.bind_some, Option.map_some, if_true, if_false, decide_true, decide_false, Bool.false_eq_true, store_zero, store_succ, st_no, st_v, atI_pos, ix50, ix51, ix52, ix53, ix54, ixN_pos, Option.bind_some, List.nodup_nil, List.nodup_cons, List.mem_cons, List.not_mem_nil, or_false, or_true, false_or, not_false_eq_true, not_true, and_self, and_true, true_and, Bool.and_true, Bool.true_and, Bool.and_self, Bool.and_false, Bool.false_and, Bool.not_true, Bool.not_false, List.length_cons, List.length_nil, List.cons_append, List.nil_append, List.replicate, Out.map, List.append_eq, List.all_cons, List.all_nil, decide_not, ne_eq, lim_lit, List.length_map, Int.reduceLE, Int.reduceLT, Int.reduceToNat, Nat.reduceAdd, Nat.reduceSub, Nat.reduceLeDiff, Nat.reduceEqDiff, Int.reduceNeg, Int.reduceEq, Nat.reduceLT, Nat.reduceMul, mulI, fdivI, rngI1, rngI2, Int.cast_ofNat_Int, Int.toNat_natCast, Option.bind_none, Option.map_none, Int.reduceAdd, Int.reduceSub, fzL_ints]
      exact ⟨ro, rfl, r0, by simpa [rngd_len] using r1⟩
end
end K09


set_option maxRecDepth 100000
set_option maxHeartbeats 4000000
namespace K09
open PySem Co
structure Wk where
  nm : Str
  y1 : Str
  y2 : Str
  cg : Str
  a : Int
  b : Int
def workD (w : Wk) : D := .tup [.str w.nm, .str w.y1, .str w.y2, .str w.cg, .int w.a, .int w.b]
structure Hm where
  nm : Str
  t : Int
  e : Int
  row : List Int
def humpD (h : Hm) : D := .tup [.str h.nm, .int h.t, .int h.e, .tup (h.row.map D.int)]
def spD (p : Int × Int) : D := .tup [.int p.1, .int p.2]
theorem fz_sp (l : List (Int × Int)) : fzL (l.map spD) = true := fzL_mem fun d hd => by obtain ⟨p, _, rfl⟩ := List.mem_map.mp hd; rfl
theorem fz_wk (l : List Wk) : fzL (l.map workD) = true := fzL_mem fun d hd => by obtain ⟨p, _, rfl⟩ := List.mem_map.mp hd; rfl
theorem fz_hm (l : List Hm) : fzL (l.map humpD) = true := fzL_mem fun d hd => by
  obtain ⟨p, _, rfl⟩ := List.mem_map.mp hd
  simp only [humpD, D.fz, fzL, fzL_ints, Bool.and_true]
def dayD (hor : Int) (ys : List D) (ws : List Wk) (pr : List D) (hs : List Hm) : D :=
  .tup [.str "day", .int hor, .tup ys, .tup (ws.map workD), .tup pr, .tup [], .tup [], .tup [], .tup [], .tup (hs.map humpD), .tup []]
structure WkOk (w : Wk) : Prop where
  n : PyData.strOk w.nm = true
  a0 : 1 ≤ w.a
  a1 : w.a ≤ 60
  b0 : w.a ≤ w.b
  b1 : w.b ≤ 120
structure HmOk (h : Hm) : Prop where
  n : PyData.strOk h.nm = true
  t : 2 ≤ h.t ∧ h.t ≤ 6
  e0 : 0 ≤ h.e
  e1 : h.e ≤ 20
  l0 : 1 ≤ h.row.length
  l1 : h.row.length ≤ 12
  p : ∀ i : Int, 0 ≤ i → i < h.row.length → i ∈ h.row
structure DayD (n : Nat) (hor : Int) (ws : List Wk) (pr : List D) (hs : List Hm) (day : D) : Prop where
  eq : ∃ ys, fzL ys = true ∧ day = dayD hor ys ws pr hs
  fp : fzL pr = true
  h0 : 0 ≤ hor
  h1 : hor ≤ 240
  wl : ws.length = n
  n0 : 1 ≤ n
  n1 : n ≤ 10
  wk : ∀ w ∈ ws, WkOk w
  hl : hs.length ≤ 3
  hm : ∀ h ∈ hs, HmOk h
section
variable {n : Nat} {hor : Int} {ws : List Wk} {pr : List D} {hs : List Hm} {day : D}
theorem DayD.fz (hd : DayD n hor ws pr hs day) : day.fz = true := by
  obtain ⟨ys, fy, rfl⟩ := hd.eq
  simp only [dayD, D.fz, fzL, fz_wk, fz_hm, fy, hd.fp, Bool.and_true]
theorem DayD.i1 (hd : DayD n hor ws pr hs day) : idxD day (.int 1) = some (.int hor) := by
  obtain ⟨ys, fy, rfl⟩ := hd.eq
  rfl
theorem DayD.i3 (hd : DayD n hor ws pr hs day) : idxD day (.int 3) = some (.tup (ws.map workD)) := by
  obtain ⟨ys, fy, rfl⟩ := hd.eq
  show (if fzL _ = true then _ else _) = _
  rw [if_pos (fz_wk _)]
theorem DayD.i4 (hd : DayD n hor ws pr hs day) : idxD day (.int 4) = some (.tup pr) := by
  obtain ⟨ys, fy, rfl⟩ := hd.eq
  show (if fzL _ = true then _ else _) = _
  rw [if_pos hd.fp]
theorem DayD.i9 (hd : DayD n hor ws pr hs day) : idxD day (.int 9) = some (.tup (hs.map humpD)) := by
  obtain ⟨ys, fy, rfl⟩ := hd.eq
  show (if fzL _ = true then _ else _) = _
  rw [if_pos (fz_hm _)]
end
theorem get_map {α : Type} {f : α → D} {l : List α} {i : Nat} {v : D} (h : (l.map f)[i]? = some v) : ∃ a, l[i]? = some a ∧ a ∈ l ∧ v = f a := by
  rw [List.getElem?_map] at h
  cases e : l[i]? with
  | none => rw [e] at h; cases h
  | some a => rw [e] at h; cases h; exact ⟨a, rfl, List.mem_of_getElem? e, rfl⟩
theorem draw0_ok {k : Nat} {d : D} {m : Int} (hm : m < 2) : Wp (fun r => r = (.int 0, [.bo d, .no])) (evF T 1000 (k + 1) 5 [.bo d, .v (.int m)]) := by
  refine evF_wp T__law_draw rfl ?_
  simp -implicitDefEqProofs (disch := first | assumption | exact st_no | exact st_v | exact fst_no | omega) only [xs1, xs2, xs3, rd, rds, vals, cont, Sl.cont, D.fz, fzL, cmpD, ordD, eqD_int, eqD_in, eqD_ni, eqD_nn, eqD_bb, isD, D.isNon, idx_tup, idx_lst, idx_ro, idx_own, addI, subI, fdivD, modD, negD, truD, bltD, lenD_items, listD, tupleD, absD_int, intD, tyD, D.items, D.isL, mutD, appD, extD, mutArgs, argsOf, argOf, lentS, places, back, backOne, outs, setL, ownAt, parS, lock, unlock, wipeS, putBack, free_zero, free_succ, fst_no, fst_v, rngOf1, rngOf2, srcOf, kit_bb, wp_some, retq_rt, retq_nx, turn_nx, turn_ct, turnp_nx, turnp_ct, turnp_rt, turnp_bk, Option.toList, Int.zero_add, Int.sub_zero, List.getElem?_cons_succ, List.getElem?_cons_zero, List.set_cons_succ, List.set_cons_zero, Option.bind_some, Option.map_some, if_true, if_false, decide_true, decide_false, Bool.false_eq_true, store_zero, store_succ, st_no, st_v, atI_pos, ix50, ix51, ix52, ix53, ix54, ixN_pos, Option.bind_some, List.nodup_nil, List.nodup_cons, List.mem_cons, List.not_mem_nil, or_false, or_true, false_or, not_false_eq_true, not_true, and_self, and_true, true_and, Bool.and_true, Bool.true_and, Bool.and_self, Bool.and_false, Bool.false_and, Bool.not_true, Bool.not_false, List.length_cons, List.length_nil, List.cons_append, List.nil_append, List.replicate, Out.map, List.append_eq, List.all_cons, List.all_nil, decide_not, ne_eq, lim_lit, List.length_map, Int.reduceLE, Int.reduceLT, Int.reduceToNat, Nat.reduceAdd, Nat.reduceSub, Nat.reduceLeDiff, Nat.reduceEqDiff, Int.reduceNeg, Int.reduceEq, Nat.reduceLT, Nat.reduceMul, mulI, fdivI, rngI1, rngI2, Int.cast_ofNat_Int, Int.toNat_natCast, Option.bind_none, Option.map_none, Int.reduceAdd, Int.reduceSub, b__law_draw, hm]
theorem sum_ints {l : List Int} : sumD [.own (l.map D.int)] = some (.int l.sum) := by
  have h : allInt (l.map D.int) = some l := by
    induction l with
    | nil => rfl
    | cons a l ih => simp only [List.map_cons]; unfold allInt; rw [ih]; rfl
  show ((allInt (l.map D.int)).map fun ns => D.int ns.sum) = _
  rw [h]
  rfl
section
variable {k n : Nat} {hor : Int} {ws : List Wk} {pr : List D} {hs : List Hm} {day : D}
theorem hump_fz {h : Hm} : (humpD h).fz = true := by simp only [humpD, D.fz, fzL, fzL_ints, Bool.and_true]
theorem spans_ok (hd : DayD n hor ws pr hs day) : Wp (fun r => ∃ sp : List (Int × Int), r = (.tup (sp.map spD), [.no]) ∧ sp.length = n ∧ ∀ p ∈ sp, 1 ≤ p.1 ∧ p.1 ≤ 540 ∧ p.1 ≤ p.2 ∧ p.2 ≤ 600) (evF T 1000 (k + 2) 17 [.v day]) := by
  refine evF_wp T__law_day_spans rfl ?_
  have fd := hd.fz
  have i3 := hd.i3
  have i9 := hd.i9
  simp -implicitDefEqProofs (disch := first | assumption | exact st_no | exact st_v | exact fst_no | omega) only [xs1, xs2, xs3, rd, rds, vals, cont, Sl.cont, D.fz, fzL, cmpD, ordD, eqD_int, eqD_in, eqD_ni, eqD_nn, eqD_bb, isD, D.isNon, idx_tup, idx_lst, idx_ro, idx_own, addI, subI, fdivD, modD, negD, truD, bltD, lenD_items, listD, tupleD, absD_int, intD, tyD, D.items, D.isL, mutD, appD, extD, mutArgs, argsOf, argOf, lentS, places, back, backOne, outs, setL, ownAt, parS, lock, unlock, wipeS, putBack, free_zero, free_succ, fst_no, fst_v, rngOf1, rngOf2, srcOf, kit_bb, wp_some, retq_rt, retq_nx, turn_nx, turn_ct, turnp_nx, turnp_ct, turnp_rt, turnp_bk, Option.toList, Int.zero_add, Int.sub_zero, List.getElem?_cons_succ, List.getElem?_cons_zero, List.set_cons_succ, List.set_cons_zero, Option.bind_some, Option.map_some, if_true, if_false, decide_true, decide_false, Bool.false_eq_true, store_zero, store_succ, st_no, st_v, atI_pos, ix50, ix51, ix52, ix53, ix54, ixN_pos, Option.bind_some, List.nodup_nil, List.nodup_cons, List.mem_cons, List.not_mem_nil, or_false, or_true, false_or, not_false_eq_true, not_true, and_self, and_true, true_and, Bool.and_true, Bool.true_and, Bool.and_self, Bool.and_false, Bool.false_and, Bool.not_true, Bool.not_false, List.length_cons, List.length_nil, List.cons_append, List.nil_append, List.replicate, Out.map, List.append_eq, List.all_cons, List.all_nil, decide_not, ne_eq, lim_lit, List.length_map, Int.reduceLE, Int.reduceLT, Int.reduceToNat, Nat.reduceAdd, Nat.reduceSub, Nat.reduceLeDiff, Nat.reduceEqDiff, Int.reduceNeg, Int.reduceEq, Nat.reduceLT, Nat.reduceMul, mulI, fdivI, rngI1, rngI2, Int.cast_ofNat_Int, Int.toNat_natCast, Option.bind_none, Option.map_none, Int.reduceAdd, Int.reduceSub, b__law_day_spans, fd, i3, fz_wk]
  repeat with_reducible refine wp_b ?_
  refine wp_for (fun i ρ => ∃ (sp : List (Int × Int)) (s2 s3 : Sl), ρ = [.v day, .v (.own (sp.map spD)), s2, s3, .no] ∧ St s2 ∧ St s3 ∧ sp.length = i ∧ ∀ p ∈ sp, 1 ≤ p.1 ∧ p.1 ≤ 540 ∧ p.1 ≤ p.2 ∧ p.2 ≤ 600) ?_ ?_ ?_
  · exact ⟨[], _, _, rfl, st_no, st_no, rfl, fun _ z => nomatch z⟩
  · rintro i v _ hi ⟨sp, s2, s3, rfl, h2, h3, hsl, hsp⟩
    obtain ⟨w, hw, hwm, rfl⟩ := get_map hi
    have hok := hd.wk w hwm
    have hin : i < n := by rw [← hd.wl]; exact (List.getElem?_eq_some_iff.mp hw).1
    have hn1 := hd.n1
    unfold workD
    simp -implicitDefEqProofs (disch := first | assumption | exact st_no | exact st_v | exact fst_no | omega) only [xs1, xs2, xs3, rd, rds, vals, cont, Sl.cont, D.fz, fzL, cmpD, ordD, eqD_int, eqD_in, eqD_ni, eqD_nn, eqD_bb, isD, D.isNon, idx_tup, idx_lst, idx_ro, idx_own, addI, subI, fdivD, modD, negD, truD, bltD, lenD_items, listD, tupleD, absD_int, intD, tyD, D.items, D.isL, mutD, appD, extD, mutArgs, argsOf, argOf, lentS, places, back, backOne, outs, setL, ownAt, parS, lock, unlock, wipeS, putBack, free_zero, free_succ, fst_no, fst_v, rngOf1, rngOf2, srcOf, kit_bb, wp_some, retq_rt, retq_nx, turn_nx, turn_ct, turnp_nx, turnp_ct, turnp_rt, turnp_bk, Option.toList, Int.zero_add, Int.sub_zero, List.getElem?_cons_succ, List.getElem?_cons_zero, List.set_cons_succ, List.set_cons_zero, Option.bind_some, Option.map_some, if_true, if_false, decide_true, decide_false, Bool.false_eq_true, store_zero, store_succ, st_no, st_v, atI_pos, ix50, ix51, ix52, ix53, ix54, ixN_pos, Option.bind_some, List.nodup_nil, List.nodup_cons, List.mem_cons, List.not_mem_nil, or_false, or_true, false_or, not_false_eq_true, not_true, and_self, and_true, true_and, Bool.and_true, Bool.true_and, Bool.and_self, Bool.and_false, Bool.false_and, Bool.not_true, Bool.not_false, List.length_cons, List.length_nil, List.cons_append, List.nil_append, List.replicate, Out.map, List.append_eq, List.all_cons, List.all_nil, decide_not, ne_eq, lim_lit, List.length_map, Int.reduceLE, Int.reduceLT, Int.reduceToNat, Nat.reduceAdd, Nat.reduceSub, Nat.reduceLeDiff, Nat.reduceEqDiff, Int.reduceNeg, Int.reduceEq, Nat.reduceLT, Nat.reduceMul, mulI, fdivI, rngI1, rngI2, Int.cast_ofNat_Int, Int.toNat_natCast, Option.bind_none, Option.map_none, Int.reduceAdd, Int.reduceSub, forTu, fd, h2, h3, i9, fz_hm]
    repeat with_reducible refine wp_b ?_
    refine wp_comp (fun j acc ρ => ∃ l : List Int, ρ = [.v day, .v (.own (sp.map spD)), .v (.tup [.str w.nm, .str w.y1, .str w.y2, .str w.cg, .int w.a, .int w.b]), s3, .no] ∧ acc = l.map D.int ∧ 0 ≤ l.sum ∧ l.sum ≤ 160 * j) ?_ ?_ ?_ ?_
    · exact ⟨[], rfl, rfl, by simp, by simp⟩
    · have := hd.hl
      rw [List.length_map, lim_lit]; simp; omega
    · rintro j v acc _ hj ⟨l, rfl, rfl, l0, l1⟩
      obtain ⟨h, _, hhm, rfl⟩ := get_map hj
      have hh := hd.hm h hhm
      have e1 := str_eq hh.n hok.n
      unfold humpD
      cases hc : (h.nm == w.nm)
      · rw [hc] at e1
        simp -implicitDefEqProofs (disch := first | assumption | exact st_no | exact st_v | exact fst_no | omega) only [xs1, xs2, xs3, rd, rds, vals, cont, Sl.cont, D.fz, fzL, cmpD, ordD, eqD_int, eqD_in, eqD_ni, eqD_nn, eqD_bb, isD, D.isNon, idx_tup, idx_lst, idx_ro, idx_own, addI, subI, fdivD, modD, negD, truD, bltD, lenD_items, listD, tupleD, absD_int, intD, tyD, D.items, D.isL, mutD, appD, extD, mutArgs, argsOf, argOf, lentS, places, back, backOne, outs, setL, ownAt, parS, lock, unlock, wipeS, putBack, free_zero, free_succ, fst_no, fst_v, rngOf1, rngOf2, srcOf, kit_bb, wp_some, retq_rt, retq_nx, turn_nx, turn_ct, turnp_nx, turnp_ct, turnp_rt, turnp_bk, Option.toList, Int.zero_add, Int.sub_zero, List.getElem?_cons_succ, List.getElem?_cons_zero, List.set_cons_succ, List.set_cons_zero, Option.bind_some, Option.map_some, if_true, if_false, decide_true, decide_false, Bool.false_eq_true, store_zero, store_succ, st_no, st_v, atI_pos, ix50, ix51, ix52, ix53, ix54, ixN_pos, Option.bind_some, List.nodup_nil, List.nodup_cons, List.mem_cons, List.not_mem_nil, or_false, or_true, false_or, not_false_eq_true, not_true, and_self, and_true, true_and, Bool.and_true, Bool.true_and, Bool.and_self, Bool.and_false, Bool.false_and, Bool.not_true, Bool.not_false, List.length_cons, List.length_nil, List.cons_append, List.nil_append, List.replicate, Out.map, List.append_eq, List.all_cons, List.all_nil, decide_not, ne_eq, lim_lit, List.length_map, Int.reduceLE, Int.reduceLT, Int.reduceToNat, Nat.reduceAdd, Nat.reduceSub, Nat.reduceLeDiff, Nat.reduceEqDiff, Int.reduceNeg, Int.reduceEq, Nat.reduceLT, Nat.reduceMul, mulI, fdivI, rngI1, rngI2, Int.cast_ofNat_Int, Int.toNat_natCast, Option.bind_none, Option.map_none, Int.reduceAdd, Int.reduceSub, compTu, fzL_ints, h3, e1]
        exact ⟨l, by simp, l0, by omega⟩
      · rw [hc] at e1
        simp -implicitDefEqProofs (disch := first | assumption | exact st_no | exact st_v | exact fst_no | omega) only [xs1, xs2, xs3, rd, rds, vals, cont, Sl.cont, D.fz, fzL, cmpD, ordD, eqD_int, eqD_in, eqD_ni, eqD_nn, eqD_bb, isD, D.isNon, idx_tup, idx_lst, idx_ro, idx_own, addI, subI, fdivD, modD, negD, truD, bltD, lenD_items, listD, tupleD, absD_int, intD, tyD, D.items, D.isL, mutD, appD, extD, mutArgs, argsOf, argOf, lentS, places, back, backOne, outs, setL, ownAt, parS, lock, unlock, wipeS, putBack, free_zero, free_succ, fst_no, fst_v, rngOf1, rngOf2, srcOf, kit_bb, wp_some, retq_rt, retq_nx, turn_nx, turn_ct, turnp_nx, turnp_ct, turnp_rt, turnp_bk, Option.toList, Int.zero_add, Int.sub_zero, List.getElem?_cons_succ, List.getElem?_cons_zero, List.set_cons_succ, List.set_cons_zero, Option.bind_some, Option.map_some, if_true, if_false, decide_true, decide_false, Bool.false_eq_true, store_zero, store_succ, st_no, st_v, atI_pos, ix50, ix51, ix52, ix53, ix54, ixN_pos, Option.bind_some, List.nodup_nil, List.nodup_cons, List.mem_cons, List.not_mem_nil, or_false, or_true, false_or, not_false_eq_true, not_true, and_self, and_true, true_and, Bool.and_true, Bool.true_and, Bool.and_self, Bool.and_false, Bool.false_and, Bool.not_true, Bool.not_false, List.length_cons, List.length_nil, List.cons_append, List.nil_append, List.replicate, Out.map, List.append_eq, List.all_cons, List.all_nil, decide_not, ne_eq, lim_lit, List.length_map, Int.reduceLE, Int.reduceLT, Int.reduceToNat, Nat.reduceAdd, Nat.reduceSub, Nat.reduceLeDiff, Nat.reduceEqDiff, Int.reduceNeg, Int.reduceEq, Nat.reduceLT, Nat.reduceMul, mulI, fdivI, rngI1, rngI2, Int.cast_ofNat_Int, Int.toNat_natCast, Option.bind_none, Option.map_none, Int.reduceAdd, Int.reduceSub, compTu, fzL_ints, h3, e1]
        repeat with_reducible refine wp_b ?_
        refine wp_mono (rounds_ok (k := k) hh.p hh.l1 hh.l0 hh.t) ?_
        rintro _ ⟨x, rfl, x0, x1⟩
        have he0 := hh.e0
        have he1 := hh.e1
        have m1 : 0 ≤ h.e * x := Int.mul_nonneg he0 x0
        have m2 : h.e * x ≤ 20 * 8 := Int.mul_le_mul he1 x1 x0 (by omega)
        simp -implicitDefEqProofs (disch := first | assumption | exact st_no | exact st_v | exact fst_no | omega) only [xs1, xs2, xs3, rd, rds, vals, cont, Sl.cont, D.fz, fzL, cmpD, ordD, eqD_int, eqD_in, eqD_ni, eqD_nn, eqD_bb, isD, D.isNon, idx_tup, idx_lst, idx_ro, idx_own, addI, subI, fdivD, modD, negD, truD, bltD, lenD_items, listD, tupleD, absD_int, intD, tyD, D.items, D.isL, mutD, appD, extD, mutArgs, argsOf, argOf, lentS, places, back, backOne, outs, setL, ownAt, parS, lock, unlock, wipeS, putBack, free_zero, free_succ, fst_no, fst_v, rngOf1, rngOf2, srcOf, kit_bb, wp_some, retq_rt, retq_nx, turn_nx, turn_ct, turnp_nx, turnp_ct, turnp_rt, turnp_bk, Option.toList, Int.zero_add, Int.sub_zero, List.getElem?_cons_succ, List.getElem?_cons_zero, List.set_cons_succ, List.set_cons_zero, Option.bind_some, Option.map_some, if_true, if_false, decide_true, decide_false, Bool.false_eq_true, store_zero, store_succ, st_no, st_v, atI_pos, ix50, ix51, ix52, ix53, ix54, ixN_pos, Option.bind_some, List.nodup_nil, List.nodup_cons, List.mem_cons, List.not_mem_nil, or_false, or_true, false_or, not_false_eq_true, not_true, and_self, and_true, true_and, Bool.and_true, Bool.true_and, Bool.and_self, Bool.and_false, Bool.false_and, Bool.not_true, Bool.not_false, List.length_cons, List.length_nil, List.cons_append, List.nil_append, List.replicate, Out.map, List.append_eq, List.all_cons, List.all_nil, decide_not, ne_eq, lim_lit, List.length_map, Int.reduceLE, Int.reduceLT, Int.reduceToNat, Nat.reduceAdd, Nat.reduceSub, Nat.reduceLeDiff, Nat.reduceEqDiff, Int.reduceNeg, Int.reduceEq, Nat.reduceLT, Nat.reduceMul, mulI, fdivI, rngI1, rngI2, Int.cast_ofNat_Int, Int.toNat_natCast, Option.bind_none, Option.map_none, Int.reduceAdd, Int.reduceSub, fzL_ints]
        refine ⟨l ++ [h.e * x], by simp, ?_, ?_⟩
        · simp only [List.sum_append, List.sum_cons, List.sum_nil]; omega
        · simp only [List.sum_append, List.sum_cons, List.sum_nil]; omega
    · rintro acc _ ⟨l, rfl, rfl, l0, l1⟩ _
      have hhl := hd.hl
      rw [List.length_map] at l1
      have hap : sp.length < 16777216 := by omega
      simp -implicitDefEqProofs (disch := first | assumption | exact st_no | exact st_v | exact fst_no | omega) only [xs1, xs2, xs3, rd, rds, vals, cont, Sl.cont, D.fz, fzL, cmpD, ordD, eqD_int, eqD_in, eqD_ni, eqD_nn, eqD_bb, isD, D.isNon, idx_tup, idx_lst, idx_ro, idx_own, addI, subI, fdivD, modD, negD, truD, bltD, lenD_items, listD, tupleD, absD_int, intD, tyD, D.items, D.isL, mutD, appD, extD, mutArgs, argsOf, argOf, lentS, places, back, backOne, outs, setL, ownAt, parS, lock, unlock, wipeS, putBack, free_zero, free_succ, fst_no, fst_v, rngOf1, rngOf2, srcOf, kit_bb, wp_some, retq_rt, retq_nx, turn_nx, turn_ct, turnp_nx, turnp_ct, turnp_rt, turnp_bk, Option.toList, Int.zero_add, Int.sub_zero, List.getElem?_cons_succ, List.getElem?_cons_zero, List.set_cons_succ, List.set_cons_zero, Option.bind_some, Option.map_some, if_true, if_false, decide_true, decide_false, Bool.false_eq_true, store_zero, store_succ, st_no, st_v, atI_pos, ix50, ix51, ix52, ix53, ix54, ixN_pos, Option.bind_some, List.nodup_nil, List.nodup_cons, List.mem_cons, List.not_mem_nil, or_false, or_true, false_or, not_false_eq_true, not_true, and_self, and_true, true_and, Bool.and_true, Bool.true_and, Bool.and_self, Bool.and_false, Bool.false_and, Bool.not_true, Bool.not_false, List.length_cons, List.length_nil, List.cons_append, List.nil_append, List.replicate, Out.map, List.append_eq, List.all_cons, List.all_nil, decide_not, ne_eq, lim_lit, List.length_map, Int.reduceLE, Int.reduceLT, Int.reduceToNat, Nat.reduceAdd, Nat.reduceSub, Nat.reduceLeDiff, Nat.reduceEqDiff, Int.reduceNeg, Int.reduceEq, Nat.reduceLT, Nat.reduceMul, mulI, fdivI, rngI1, rngI2, Int.cast_ofNat_Int, Int.toNat_natCast, Option.bind_none, Option.map_none, Int.reduceAdd, Int.reduceSub, sum_ints, fz_sp, h3, hap]
      obtain ⟨_, a0, a1, b0, b1⟩ := hok
      refine ⟨sp ++ [(w.a + l.sum, w.b + l.sum)], .v (workD w), .v (.int l.sum), ?_, st_v, st_v, by simp [hsl], ?_⟩
      · simp [spD, workD]
      · intro p hp
        rcases List.mem_append.mp hp with hp | hp
        · exact hsp p hp
        · have : p = (w.a + l.sum, w.b + l.sum) := by simpa using hp
          subst this
          refine ⟨?_, ?_, ?_, ?_⟩ <;> simp only <;> omega
  · rintro _ ⟨sp, s2, s3, rfl, h2, h3, hsl, hsp⟩
    simp -implicitDefEqProofs (disch := first | assumption | exact st_no | exact st_v | exact fst_no | omega) only [xs1, xs2, xs3, rd, rds, vals, cont, Sl.cont, D.fz, fzL, cmpD, ordD, eqD_int, eqD_in, eqD_ni, eqD_nn, eqD_bb, isD, D.isNon, idx_tup, idx_lst, idx_ro, idx_own, addI, subI, fdivD, modD, negD, truD, bltD, lenD_items, listD, tupleD, absD_int, intD, tyD, D.items, D.isL, mutD, appD, extD, mutArgs, argsOf, argOf, lentS, places, back, backOne, outs, setL, ownAt, parS, lock, unlock, wipeS, putBack, free_zero, free_succ, fst_no, fst_v, rngOf1, rngOf2, srcOf, kit_bb, wp_some, retq_rt, retq_nx, turn_nx, turn_ct, turnp_nx, turnp_ct, turnp_rt, turnp_bk, Option.toList, Int.zero_add, Int.sub_zero, List.getElem?_cons_succ, List.getElem?_cons_zero, List.set_cons_succ, List.set_cons_zero, Option.bind_some, Option.map_some, if_true, if_false, decide_true, decide_false, Bool.false_eq_true, store_zero, store_succ, st_no, st_v, atI_pos, ix50, ix51, ix52, ix53, ix54, ixN_pos, Option.bind_some, List.nodup_nil, List.nodup_cons, List.mem_cons, List.not_mem_nil, or_false, or_true, false_or, not_false_eq_true, not_true, and_self, and_true, true_and, Bool.and_true, Bool.true_and, Bool.and_self, Bool.and_false, Bool.false_and, Bool.not_true, Bool.not_false, List.length_cons, List.length_nil, List.cons_append, List.nil_append, List.replicate, Out.map, List.append_eq, List.all_cons, List.all_nil, decide_not, ne_eq, lim_lit, List.length_map, Int.reduceLE, Int.reduceLT, Int.reduceToNat, Nat.reduceAdd, Nat.reduceSub, Nat.reduceLeDiff, Nat.reduceEqDiff, Int.reduceNeg, Int.reduceEq, Nat.reduceLT, Nat.reduceMul, mulI, fdivI, rngI1, rngI2, Int.cast_ofNat_Int, Int.toNat_natCast, Option.bind_none, Option.map_none, Int.reduceAdd, Int.reduceSub, fd, fz_sp]
    exact ⟨sp, rfl, by rw [hsl, List.length_map, hd.wl], hsp⟩
end
end K09


set_option maxRecDepth 100000
set_option maxHeartbeats 4000000
namespace K09
open PySem Co
theorem minI {i j : Int} : minD [.int i, .int j] = some (.int (min i j)) := by
  show some (D.int (if j < i then j else i)) = _
  congr 2
  split <;> omega
theorem maxI {i j : Int} : maxD [.int i, .int j] = some (.int (max i j)) := by
  show some (D.int (if j > i then j else i)) = _
  congr 2
  split <;> omega
theorem cut_take {l : List D} {p : Nat} (h : p ≤ l.length) : cutD l none (some (p : Int)) = l.take p := by
  unfold cutD
  rw [HT.sIx_nat, HT.sIx_none, Nat.min_eq_left h]
  simp
theorem cut_drop {l : List D} {p : Nat} (h : p ≤ l.length) : cutD l (some (p : Int)) none = l.drop p := by
  unfold cutD
  rw [HT.sIx_nat, HT.sIx_none, Nat.min_eq_left h]
  exact List.take_of_length_le (by simp)
section
variable {k n B : Nat} {hor : Int} {ws : List Wk} {pr : List D} {hs : List Hm} {day d : D}
theorem put_eq {l : List D} {p : Nat} {t : D} (hl : l.length ≤ 100000) (hf : fzL l = true) (ht : t.fz = true) (hp : p < l.length) :
    evF T 1000 (k + 1) 20 [.v (.tup l), .v (.int p), .v t] = some (.tup (l.take p ++ t :: l.drop (p + 1)), [.no, .no, .no]) := by
  refine wp_eq.mp (evF_wp T__law_put rfl ?_)
  have e1 : slD (.tup l) none (some (p : Int)) = some (.tup (l.take p)) := by
    show (if fzL l then some (D.tup (cutD l none (some (p : Int)))) else none) = _
    rw [if_pos hf, cut_take (by omega)]
  have e2 : slD (.tup l) (some ((p : Int) + 1)) none = some (.tup (l.drop (p + 1))) := by
    show (if fzL l then some (D.tup (cutD l (some ((p + 1 : Nat) : Int)) none)) else none) = _
    rw [if_pos hf, cut_drop (by omega)]
  have f1 : fzL (l.take p) = true := fzL_mem fun x hx => mem_fzL hf x (List.mem_of_mem_take hx)
  have f2 : fzL (l.drop (p + 1)) = true := fzL_mem fun x hx => mem_fzL hf x (List.mem_of_mem_drop hx)
  have f3 : fzL (l.take p ++ [t]) = true := fzL_mem fun x hx => by
    rcases List.mem_append.mp hx with hx | hx
    · exact mem_fzL f1 x hx
    · have : x = t := by simpa using hx
      rw [this]; exact ht
  have g1 : fzL [t] = true := by simp only [fzL, ht, Bool.and_true]
  have a1 : binD .Add (.tup (l.take p)) (.tup [t]) = _ := addT ⟨f1, g1, by simp; omega⟩
  have a2 : binD .Add (.tup (l.take p ++ [t])) (.tup (l.drop (p + 1))) = _ := addT ⟨f3, f2, by simp; omega⟩
  simp -implicitDefEqProofs (disch := first | assumption | exact st_no | exact st_v | exact fst_no | omega) only [xs1, xs2, xs3, rd, rds, vals, cont, Sl.cont, D.fz, fzL, cmpD, ordD, eqD_int, eqD_in, eqD_ni, eqD_nn, eqD_bb, isD, D.isNon, idx_tup, idx_lst, idx_ro, idx_own, addI, subI, fdivD, modD, negD, truD, bltD, lenD_items, listD, tupleD, absD_int, intD, tyD, D.items, D.isL, mutD, appD, extD, mutArgs, argsOf, argOf, lentS, places, back, backOne, outs, setL, ownAt, parS, lock, unlock, wipeS, putBack, free_zero, free_succ, fst_no, fst_v, rngOf1, rngOf2, srcOf, kit_bb, wp_some, retq_rt, retq_nx, turn_nx, turn_ct, turnp_nx, turnp_ct, turnp_rt, turnp_bk, Option.toList, Int.zero_add, Int.sub_zero, List.getElem?_cons_succ, List.getElem?_cons_zero, List.set_cons_succ, List.set_cons_zero, Option.bind_some, Option.map_some, if_true, if_false, decide_true, decide_false, Bool.false_eq_true, store_zero, store_succ, st_no, st_v, atI_pos, ix50, ix51, ix52, ix53, ix54, ixN_pos, Option.bind_some, List.nodup_nil, List.nodup_cons, List.mem_cons, List.not_mem_nil, or_false, or_true, false_or, not_false_eq_true, not_true, and_self, and_true, true_and, Bool.and_true, Bool.true_and, Bool.and_self, Bool.and_false, Bool.false_and, Bool.not_true, Bool.not_false, List.length_cons, List.length_nil, List.cons_append, List.nil_append, List.replicate, Out.map, List.append_eq, List.all_cons, List.all_nil, decide_not, ne_eq, lim_lit, List.length_map, Int.reduceLE, Int.reduceLT, Int.reduceToNat, Nat.reduceAdd, Nat.reduceSub, Nat.reduceLeDiff, Nat.reduceEqDiff, Int.reduceNeg, Int.reduceEq, Nat.reduceLT, Nat.reduceMul, mulI, fdivI, rngI1, rngI2, Int.cast_ofNat_Int, Int.toNat_natCast, Option.bind_none, Option.map_none, Int.reduceAdd, Int.reduceSub, b__law_put, hf, ht, e1, e2, f1, f2, a1, a2, f3]
  simp
theorem ints2_eq (p : Int × Int) : evF T 1000 (k + 2) 12 [.v (spD p), .v (.int 2)] = some (.bl true, [.no, .no]) := by
  refine wp_eq.mp (evF_wp T__law_ints rfl ?_)
  have e : ∀ i : Int, evF T 1000 (k + 1) 11 [.v (.int i)] = some (.bl true, [.no]) := fun i => by
    refine wp_eq.mp (evF_wp T__law_is_int rfl ?_)
    simp -implicitDefEqProofs (disch := first | assumption | exact st_no | exact st_v | exact fst_no | omega) only [xs1, xs2, xs3, rd, rds, vals, cont, Sl.cont, D.fz, fzL, cmpD, ordD, eqD_int, eqD_in, eqD_ni, eqD_nn, eqD_bb, isD, D.isNon, idx_tup, idx_lst, idx_ro, idx_own, addI, subI, fdivD, modD, negD, truD, bltD, lenD_items, listD, tupleD, absD_int, intD, tyD, D.items, D.isL, mutD, appD, extD, mutArgs, argsOf, argOf, lentS, places, back, backOne, outs, setL, ownAt, parS, lock, unlock, wipeS, putBack, free_zero, free_succ, fst_no, fst_v, rngOf1, rngOf2, srcOf, kit_bb, wp_some, retq_rt, retq_nx, turn_nx, turn_ct, turnp_nx, turnp_ct, turnp_rt, turnp_bk, Option.toList, Int.zero_add, Int.sub_zero, List.getElem?_cons_succ, List.getElem?_cons_zero, List.set_cons_succ, List.set_cons_zero, Option.bind_some, Option.map_some, if_true, if_false, decide_true, decide_false, Bool.false_eq_true, store_zero, store_succ, st_no, st_v, atI_pos, ix50, ix51, ix52, ix53, ix54, ixN_pos, Option.bind_some, List.nodup_nil, List.nodup_cons, List.mem_cons, List.not_mem_nil, or_false, or_true, false_or, not_false_eq_true, not_true, and_self, and_true, true_and, Bool.and_true, Bool.true_and, Bool.and_self, Bool.and_false, Bool.false_and, Bool.not_true, Bool.not_false, List.length_cons, List.length_nil, List.cons_append, List.nil_append, List.replicate, Out.map, List.append_eq, List.all_cons, List.all_nil, decide_not, ne_eq, lim_lit, List.length_map, Int.reduceLE, Int.reduceLT, Int.reduceToNat, Nat.reduceAdd, Nat.reduceSub, Nat.reduceLeDiff, Nat.reduceEqDiff, Int.reduceNeg, Int.reduceEq, Nat.reduceLT, Nat.reduceMul, mulI, fdivI, rngI1, rngI2, Int.cast_ofNat_Int, Int.toNat_natCast, Option.bind_none, Option.map_none, Int.reduceAdd, Int.reduceSub, b__law_is_int, kits]
  have e1 := e p.1
  have e2 := e p.2
  have al : allD [.own [.bl true, .bl true]] = some (.bl true) := rfl
  simp -implicitDefEqProofs (disch := first | assumption | exact st_no | exact st_v | exact fst_no | omega) only [xs1, xs2, xs3, rd, rds, vals, cont, Sl.cont, D.fz, fzL, cmpD, ordD, eqD_int, eqD_in, eqD_ni, eqD_nn, eqD_bb, isD, D.isNon, idx_tup, idx_lst, idx_ro, idx_own, addI, subI, fdivD, modD, negD, truD, bltD, lenD_items, listD, tupleD, absD_int, intD, tyD, D.items, D.isL, mutD, appD, extD, mutArgs, argsOf, argOf, lentS, places, back, backOne, outs, setL, ownAt, parS, lock, unlock, wipeS, putBack, free_zero, free_succ, fst_no, fst_v, rngOf1, rngOf2, srcOf, kit_bb, wp_some, retq_rt, retq_nx, turn_nx, turn_ct, turnp_nx, turnp_ct, turnp_rt, turnp_bk, Option.toList, Int.zero_add, Int.sub_zero, List.getElem?_cons_succ, List.getElem?_cons_zero, List.set_cons_succ, List.set_cons_zero, Option.bind_some, Option.map_some, if_true, if_false, decide_true, decide_false, Bool.false_eq_true, store_zero, store_succ, st_no, st_v, atI_pos, ix50, ix51, ix52, ix53, ix54, ixN_pos, Option.bind_some, List.nodup_nil, List.nodup_cons, List.mem_cons, List.not_mem_nil, or_false, or_true, false_or, not_false_eq_true, not_true, and_self, and_true, true_and, Bool.and_true, Bool.true_and, Bool.and_self, Bool.and_false, Bool.false_and, Bool.not_true, Bool.not_false, List.length_cons, List.length_nil, List.cons_append, List.nil_append, List.replicate, Out.map, List.append_eq, List.all_cons, List.all_nil, decide_not, ne_eq, lim_lit, List.length_map, Int.reduceLE, Int.reduceLT, Int.reduceToNat, Nat.reduceAdd, Nat.reduceSub, Nat.reduceLeDiff, Nat.reduceEqDiff, Int.reduceNeg, Int.reduceEq, Nat.reduceLT, Nat.reduceMul, mulI, fdivI, rngI1, rngI2, Int.cast_ofNat_Int, Int.toNat_natCast, Option.bind_none, Option.map_none, Int.reduceAdd, Int.reduceSub, b__law_ints, kits, spD, compL, compTu, e1, e2, al, List.length_nil, List.length_cons]
def LogD (n : Nat) (log : D) : Prop := ∃ l : List (Int × Int), log = .tup (l.map spD) ∧ l.length = n
theorem get_sp {l : List (Int × Int)} {i : Nat} (h : i < l.length) : ∃ p : Int × Int, (l.map spD)[i]? = some (.tup [.int p.1, .int p.2]) ∧ p ∈ l := ⟨l[i], by rw [List.getElem?_map, List.getElem?_eq_getElem h]; rfl, List.getElem_mem h⟩
theorem islog_ok {log : D} (hd : DayD n hor ws pr hs day) (hl : LogD n log) : Wp (fun r => ∃ b, r = (.bl b, [.no, .no])) (evF T 1000 (k + 3) 18 [.v day, .v log]) := by
  refine evF_wp T__law_is_log rfl ?_
  obtain ⟨l, rfl, hl⟩ := hl
  have fd := hd.fz
  have i1 := hd.i1
  have i3 := hd.i3
  have hn1 := hd.n1
  have hne : ((l.length : Int) = (ws.length : Int)) := by rw [hl, hd.wl]
  simp -implicitDefEqProofs (disch := first | assumption | exact st_no | exact st_v | exact fst_no | omega) only [xs1, xs2, xs3, rd, rds, vals, cont, Sl.cont, D.fz, fzL, cmpD, ordD, eqD_int, eqD_in, eqD_ni, eqD_nn, eqD_bb, isD, D.isNon, idx_tup, idx_lst, idx_ro, idx_own, addI, subI, fdivD, modD, negD, truD, bltD, lenD_items, listD, tupleD, absD_int, intD, tyD, D.items, D.isL, mutD, appD, extD, mutArgs, argsOf, argOf, lentS, places, back, backOne, outs, setL, ownAt, parS, lock, unlock, wipeS, putBack, free_zero, free_succ, fst_no, fst_v, rngOf1, rngOf2, srcOf, kit_bb, wp_some, retq_rt, retq_nx, turn_nx, turn_ct, turnp_nx, turnp_ct, turnp_rt, turnp_bk, Option.toList, Int.zero_add, Int.sub_zero, List.getElem?_cons_succ, List.getElem?_cons_zero, List.set_cons_succ, List.set_cons_zero, Option.bind_some, Option.map_some, if_true, if_false, decide_true, decide_false, Bool.false_eq_true, store_zero, store_succ, st_no, st_v, atI_pos, ix50, ix51, ix52, ix53, ix54, ixN_pos, Option.bind_some, List.nodup_nil, List.nodup_cons, List.mem_cons, List.not_mem_nil, or_false, or_true, false_or, not_false_eq_true, not_true, and_self, and_true, true_and, Bool.and_true, Bool.true_and, Bool.and_self, Bool.and_false, Bool.false_and, Bool.not_true, Bool.not_false, List.length_cons, List.length_nil, List.cons_append, List.nil_append, List.replicate, Out.map, List.append_eq, List.all_cons, List.all_nil, decide_not, ne_eq, lim_lit, List.length_map, Int.reduceLE, Int.reduceLT, Int.reduceToNat, Nat.reduceAdd, Nat.reduceSub, Nat.reduceLeDiff, Nat.reduceEqDiff, Int.reduceNeg, Int.reduceEq, Nat.reduceLT, Nat.reduceMul, mulI, fdivI, rngI1, rngI2, Int.cast_ofNat_Int, Int.toNat_natCast, Option.bind_none, Option.map_none, Int.reduceAdd, Int.reduceSub, b__law_is_log, kits, fd, i3, fz_sp, fz_wk, hne]
  repeat with_reducible refine wp_b ?_
  refine wp_mono (spans_ok (k := k) hd) ?_
  rintro _ ⟨sp, rfl, hsl, hsp⟩
  simp -implicitDefEqProofs (disch := first | assumption | exact st_no | exact st_v | exact fst_no | omega) only [xs1, xs2, xs3, rd, rds, vals, cont, Sl.cont, D.fz, fzL, cmpD, ordD, eqD_int, eqD_in, eqD_ni, eqD_nn, eqD_bb, isD, D.isNon, idx_tup, idx_lst, idx_ro, idx_own, addI, subI, fdivD, modD, negD, truD, bltD, lenD_items, listD, tupleD, absD_int, intD, tyD, D.items, D.isL, mutD, appD, extD, mutArgs, argsOf, argOf, lentS, places, back, backOne, outs, setL, ownAt, parS, lock, unlock, wipeS, putBack, free_zero, free_succ, fst_no, fst_v, rngOf1, rngOf2, srcOf, kit_bb, wp_some, retq_rt, retq_nx, turn_nx, turn_ct, turnp_nx, turnp_ct, turnp_rt, turnp_bk, Option.toList, Int.zero_add, Int.sub_zero, List.getElem?_cons_succ, List.getElem?_cons_zero, List.set_cons_succ, List.set_cons_zero, Option.bind_some, Option.map_some, if_true, if_false, decide_true, decide_false, Bool.false_eq_true, store_zero, store_succ, st_no, st_v, atI_pos, ix50, ix51, ix52, ix53, ix54, ixN_pos, Option.bind_some, List.nodup_nil, List.nodup_cons, List.mem_cons, List.not_mem_nil, or_false, or_true, false_or, not_false_eq_true, not_true, and_self, and_true, true_and, Bool.and_true, Bool.true_and, Bool.and_self, Bool.and_false, Bool.false_and, Bool.not_true, Bool.not_false, List.length_cons, List.length_nil, List.cons_append, List.nil_append, List.replicate, Out.map, List.append_eq, List.all_cons, List.all_nil, decide_not, ne_eq, lim_lit, List.length_map, Int.reduceLE, Int.reduceLT, Int.reduceToNat, Nat.reduceAdd, Nat.reduceSub, Nat.reduceLeDiff, Nat.reduceEqDiff, Int.reduceNeg, Int.reduceEq, Nat.reduceLT, Nat.reduceMul, mulI, fdivI, rngI1, rngI2, Int.cast_ofNat_Int, Int.toNat_natCast, Option.bind_none, Option.map_none, Int.reduceAdd, Int.reduceSub, fd, fz_sp]
  repeat with_reducible refine wp_b ?_
  refine wp_forP (fun i ρ => ∃ s3, ρ = [.v day, .v (.tup (l.map spD)), .v (.tup (sp.map spD)), s3] ∧ St s3) ?_ ?_ ?_
  · exact ⟨_, rfl, st_no⟩
  · rintro i v _ hi ⟨s3, rfl, h3⟩
    obtain ⟨rfl, hlt⟩ := rngd_get hi
    obtain ⟨p, e1, _⟩ := get_sp (l := l) (i := i) (by omega)
    obtain ⟨q, e2, _⟩ := get_sp (l := sp) (i := i) (by omega)
    have e3 := ints2_eq (k := k) p
    unfold spD at e3
    by_cases c1 : p.1 < 0
    · simp -implicitDefEqProofs (disch := first | assumption | exact st_no | exact st_v | exact fst_no | omega) only [xs1, xs2, xs3, rd, rds, vals, cont, Sl.cont, D.fz, fzL, cmpD, ordD, eqD_int, eqD_in, eqD_ni, eqD_nn, eqD_bb, isD, D.isNon, idx_tup, idx_lst, idx_ro, idx_own, addI, subI, fdivD, modD, negD, truD, bltD, lenD_items, listD, tupleD, absD_int, intD, tyD, D.items, D.isL, mutD, appD, extD, mutArgs, argsOf, argOf, lentS, places, back, backOne, outs, setL, ownAt, parS, lock, unlock, wipeS, putBack, free_zero, free_succ, fst_no, fst_v, rngOf1, rngOf2, srcOf, kit_bb, wp_some, retq_rt, retq_nx, turn_nx, turn_ct, turnp_nx, turnp_ct, turnp_rt, turnp_bk, Option.toList, Int.zero_add, Int.sub_zero, List.getElem?_cons_succ, List.getElem?_cons_zero, List.set_cons_succ, List.set_cons_zero, Option.bind_some, Option.map_some, if_true, if_false, decide_true, decide_false, Bool.false_eq_true, store_zero, store_succ, st_no, st_v, atI_pos, ix50, ix51, ix52, ix53, ix54, ixN_pos, Option.bind_some, List.nodup_nil, List.nodup_cons, List.mem_cons, List.not_mem_nil, or_false, or_true, false_or, not_false_eq_true, not_true, and_self, and_true, true_and, Bool.and_true, Bool.true_and, Bool.and_self, Bool.and_false, Bool.false_and, Bool.not_true, Bool.not_false, List.length_cons, List.length_nil, List.cons_append, List.nil_append, List.replicate, Out.map, List.append_eq, List.all_cons, List.all_nil, decide_not, ne_eq, lim_lit, List.length_map, Int.reduceLE, Int.reduceLT, Int.reduceToNat, Nat.reduceAdd, Nat.reduceSub, Nat.reduceLeDiff, Nat.reduceEqDiff, Int.reduceNeg, Int.reduceEq, Nat.reduceLT, Nat.reduceMul, mulI, fdivI, rngI1, rngI2, Int.cast_ofNat_Int, Int.toNat_natCast, Option.bind_none, Option.map_none, Int.reduceAdd, Int.reduceSub, forTu, fd, fz_sp, h3, e1, e2, e3, c1, i1]
      exact ⟨_, rfl⟩
    by_cases c2 : hor < p.2
    · simp -implicitDefEqProofs (disch := first | assumption | exact st_no | exact st_v | exact fst_no | omega) only [xs1, xs2, xs3, rd, rds, vals, cont, Sl.cont, D.fz, fzL, cmpD, ordD, eqD_int, eqD_in, eqD_ni, eqD_nn, eqD_bb, isD, D.isNon, idx_tup, idx_lst, idx_ro, idx_own, addI, subI, fdivD, modD, negD, truD, bltD, lenD_items, listD, tupleD, absD_int, intD, tyD, D.items, D.isL, mutD, appD, extD, mutArgs, argsOf, argOf, lentS, places, back, backOne, outs, setL, ownAt, parS, lock, unlock, wipeS, putBack, free_zero, free_succ, fst_no, fst_v, rngOf1, rngOf2, srcOf, kit_bb, wp_some, retq_rt, retq_nx, turn_nx, turn_ct, turnp_nx, turnp_ct, turnp_rt, turnp_bk, Option.toList, Int.zero_add, Int.sub_zero, List.getElem?_cons_succ, List.getElem?_cons_zero, List.set_cons_succ, List.set_cons_zero, Option.bind_some, Option.map_some, if_true, if_false, decide_true, decide_false, Bool.false_eq_true, store_zero, store_succ, st_no, st_v, atI_pos, ix50, ix51, ix52, ix53, ix54, ixN_pos, Option.bind_some, List.nodup_nil, List.nodup_cons, List.mem_cons, List.not_mem_nil, or_false, or_true, false_or, not_false_eq_true, not_true, and_self, and_true, true_and, Bool.and_true, Bool.true_and, Bool.and_self, Bool.and_false, Bool.false_and, Bool.not_true, Bool.not_false, List.length_cons, List.length_nil, List.cons_append, List.nil_append, List.replicate, Out.map, List.append_eq, List.all_cons, List.all_nil, decide_not, ne_eq, lim_lit, List.length_map, Int.reduceLE, Int.reduceLT, Int.reduceToNat, Nat.reduceAdd, Nat.reduceSub, Nat.reduceLeDiff, Nat.reduceEqDiff, Int.reduceNeg, Int.reduceEq, Nat.reduceLT, Nat.reduceMul, mulI, fdivI, rngI1, rngI2, Int.cast_ofNat_Int, Int.toNat_natCast, Option.bind_none, Option.map_none, Int.reduceAdd, Int.reduceSub, forTu, fd, fz_sp, h3, e1, e2, e3, c1, c2, i1]
      exact ⟨_, rfl⟩
    by_cases c3 : q.1 ≤ p.2 - p.1
    · by_cases c4 : p.2 - p.1 ≤ q.2
      · simp -implicitDefEqProofs (disch := first | assumption | exact st_no | exact st_v | exact fst_no | omega) only [xs1, xs2, xs3, rd, rds, vals, cont, Sl.cont, D.fz, fzL, cmpD, ordD, eqD_int, eqD_in, eqD_ni, eqD_nn, eqD_bb, isD, D.isNon, idx_tup, idx_lst, idx_ro, idx_own, addI, subI, fdivD, modD, negD, truD, bltD, lenD_items, listD, tupleD, absD_int, intD, tyD, D.items, D.isL, mutD, appD, extD, mutArgs, argsOf, argOf, lentS, places, back, backOne, outs, setL, ownAt, parS, lock, unlock, wipeS, putBack, free_zero, free_succ, fst_no, fst_v, rngOf1, rngOf2, srcOf, kit_bb, wp_some, retq_rt, retq_nx, turn_nx, turn_ct, turnp_nx, turnp_ct, turnp_rt, turnp_bk, Option.toList, Int.zero_add, Int.sub_zero, List.getElem?_cons_succ, List.getElem?_cons_zero, List.set_cons_succ, List.set_cons_zero, Option.bind_some, Option.map_some, if_true, if_false, decide_true, decide_false, Bool.false_eq_true, store_zero, store_succ, st_no, st_v, atI_pos, ix50, ix51, ix52, ix53, ix54, ixN_pos, Option.bind_some, List.nodup_nil, List.nodup_cons, List.mem_cons, List.not_mem_nil, or_false, or_true, false_or, not_false_eq_true, not_true, and_self, and_true, true_and, Bool.and_true, Bool.true_and, Bool.and_self, Bool.and_false, Bool.false_and, Bool.not_true, Bool.not_false, List.length_cons, List.length_nil, List.cons_append, List.nil_append, List.replicate, Out.map, List.append_eq, List.all_cons, List.all_nil, decide_not, ne_eq, lim_lit, List.length_map, Int.reduceLE, Int.reduceLT, Int.reduceToNat, Nat.reduceAdd, Nat.reduceSub, Nat.reduceLeDiff, Nat.reduceEqDiff, Int.reduceNeg, Int.reduceEq, Nat.reduceLT, Nat.reduceMul, mulI, fdivI, rngI1, rngI2, Int.cast_ofNat_Int, Int.toNat_natCast, Option.bind_none, Option.map_none, Int.reduceAdd, Int.reduceSub, forTu, fd, fz_sp, h3, e1, e2, e3, c1, c2, c3, c4, i1]
        exact ⟨_, rfl, st_v⟩
      · simp -implicitDefEqProofs (disch := first | assumption | exact st_no | exact st_v | exact fst_no | omega) only [xs1, xs2, xs3, rd, rds, vals, cont, Sl.cont, D.fz, fzL, cmpD, ordD, eqD_int, eqD_in, eqD_ni, eqD_nn, eqD_bb, isD, D.isNon, idx_tup, idx_lst, idx_ro, idx_own, addI, subI, fdivD, modD, negD, truD, bltD, lenD_items, listD, tupleD, absD_int, intD, tyD, D.items, D.isL, mutD, appD, extD, mutArgs, argsOf, argOf, lentS, places, back, backOne, outs, setL, ownAt, parS, lock, unlock, wipeS, putBack, free_zero, free_succ, fst_no, fst_v, rngOf1, rngOf2, srcOf, kit_bb, wp_some, retq_rt, retq_nx, turn_nx, turn_ct, turnp_nx, turnp_ct, turnp_rt, turnp_bk, Option.toList, Int.zero_add, Int.sub_zero, List.getElem?_cons_succ, List.getElem?_cons_zero, List.set_cons_succ, List.set_cons_zero, Option.bind_some, Option.map_some, if_true, if_false, decide_true, decide_false, Bool.false_eq_true, store_zero, store_succ, st_no, st_v, atI_pos, ix50, ix51, ix52, ix53, ix54, ixN_pos, Option.bind_some, List.nodup_nil, List.nodup_cons, List.mem_cons, List.not_mem_nil, or_false, or_true, false_or, not_false_eq_true, not_true, and_self, and_true, true_and, Bool.and_true, Bool.true_and, Bool.and_self, Bool.and_false, Bool.false_and, Bool.not_true, Bool.not_false, List.length_cons, List.length_nil, List.cons_append, List.nil_append, List.replicate, Out.map, List.append_eq, List.all_cons, List.all_nil, decide_not, ne_eq, lim_lit, List.length_map, Int.reduceLE, Int.reduceLT, Int.reduceToNat, Nat.reduceAdd, Nat.reduceSub, Nat.reduceLeDiff, Nat.reduceEqDiff, Int.reduceNeg, Int.reduceEq, Nat.reduceLT, Nat.reduceMul, mulI, fdivI, rngI1, rngI2, Int.cast_ofNat_Int, Int.toNat_natCast, Option.bind_none, Option.map_none, Int.reduceAdd, Int.reduceSub, forTu, fd, fz_sp, h3, e1, e2, e3, c1, c2, c3, c4, i1]
        exact ⟨_, rfl⟩
    · simp -implicitDefEqProofs (disch := first | assumption | exact st_no | exact st_v | exact fst_no | omega) only [xs1, xs2, xs3, rd, rds, vals, cont, Sl.cont, D.fz, fzL, cmpD, ordD, eqD_int, eqD_in, eqD_ni, eqD_nn, eqD_bb, isD, D.isNon, idx_tup, idx_lst, idx_ro, idx_own, addI, subI, fdivD, modD, negD, truD, bltD, lenD_items, listD, tupleD, absD_int, intD, tyD, D.items, D.isL, mutD, appD, extD, mutArgs, argsOf, argOf, lentS, places, back, backOne, outs, setL, ownAt, parS, lock, unlock, wipeS, putBack, free_zero, free_succ, fst_no, fst_v, rngOf1, rngOf2, srcOf, kit_bb, wp_some, retq_rt, retq_nx, turn_nx, turn_ct, turnp_nx, turnp_ct, turnp_rt, turnp_bk, Option.toList, Int.zero_add, Int.sub_zero, List.getElem?_cons_succ, List.getElem?_cons_zero, List.set_cons_succ, List.set_cons_zero, Option.bind_some, Option.map_some, if_true, if_false, decide_true, decide_false, Bool.false_eq_true, store_zero, store_succ, st_no, st_v, atI_pos, ix50, ix51, ix52, ix53, ix54, ixN_pos, Option.bind_some, List.nodup_nil, List.nodup_cons, List.mem_cons, List.not_mem_nil, or_false, or_true, false_or, not_false_eq_true, not_true, and_self, and_true, true_and, Bool.and_true, Bool.true_and, Bool.and_self, Bool.and_false, Bool.false_and, Bool.not_true, Bool.not_false, List.length_cons, List.length_nil, List.cons_append, List.nil_append, List.replicate, Out.map, List.append_eq, List.all_cons, List.all_nil, decide_not, ne_eq, lim_lit, List.length_map, Int.reduceLE, Int.reduceLT, Int.reduceToNat, Nat.reduceAdd, Nat.reduceSub, Nat.reduceLeDiff, Nat.reduceEqDiff, Int.reduceNeg, Int.reduceEq, Nat.reduceLT, Nat.reduceMul, mulI, fdivI, rngI1, rngI2, Int.cast_ofNat_Int, Int.toNat_natCast, Option.bind_none, Option.map_none, Int.reduceAdd, Int.reduceSub, forTu, fd, fz_sp, h3, e1, e2, e3, c1, c2, c3, i1]
      exact ⟨_, rfl⟩
  · rintro _ ⟨s3, rfl, h3⟩
    simp -implicitDefEqProofs (disch := first | assumption | exact st_no | exact st_v | exact fst_no | omega) only [xs1, xs2, xs3, rd, rds, vals, cont, Sl.cont, D.fz, fzL, cmpD, ordD, eqD_int, eqD_in, eqD_ni, eqD_nn, eqD_bb, isD, D.isNon, idx_tup, idx_lst, idx_ro, idx_own, addI, subI, fdivD, modD, negD, truD, bltD, lenD_items, listD, tupleD, absD_int, intD, tyD, D.items, D.isL, mutD, appD, extD, mutArgs, argsOf, argOf, lentS, places, back, backOne, outs, setL, ownAt, parS, lock, unlock, wipeS, putBack, free_zero, free_succ, fst_no, fst_v, rngOf1, rngOf2, srcOf, kit_bb, wp_some, retq_rt, retq_nx, turn_nx, turn_ct, turnp_nx, turnp_ct, turnp_rt, turnp_bk, Option.toList, Int.zero_add, Int.sub_zero, List.getElem?_cons_succ, List.getElem?_cons_zero, List.set_cons_succ, List.set_cons_zero, Option.bind_some, Option.map_some, if_true, if_false, decide_true, decide_false, Bool.false_eq_true, store_zero, store_succ, st_no, st_v, atI_pos, ix50, ix51, ix52, ix53, ix54, ixN_pos, Option.bind_some, List.nodup_nil, List.nodup_cons, List.mem_cons, List.not_mem_nil, or_false, or_true, false_or, not_false_eq_true, not_true, and_self, and_true, true_and, Bool.and_true, Bool.true_and, Bool.and_self, Bool.and_false, Bool.false_and, Bool.not_true, Bool.not_false, List.length_cons, List.length_nil, List.cons_append, List.nil_append, List.replicate, Out.map, List.append_eq, List.all_cons, List.all_nil, decide_not, ne_eq, lim_lit, List.length_map, Int.reduceLE, Int.reduceLT, Int.reduceToNat, Nat.reduceAdd, Nat.reduceSub, Nat.reduceLeDiff, Nat.reduceEqDiff, Int.reduceNeg, Int.reduceEq, Nat.reduceLT, Nat.reduceMul, mulI, fdivI, rngI1, rngI2, Int.cast_ofNat_Int, Int.toNat_natCast, Option.bind_none, Option.map_none, Int.reduceAdd, Int.reduceSub, fd, fz_sp]
    exact ⟨_, rfl⟩
end
end K09


set_option maxRecDepth 100000
set_option maxHeartbeats 4000000
namespace K09
open PySem Co
theorem getD_sp {l : List (Int × Int)} {i : Nat} (h : i < (l.map spD).length) : ∃ p : Int × Int, (l.map spD).getD i .non = .tup [.int p.1, .int p.2] := by
  rw [List.length_map] at h
  exact ⟨l[i], by rw [List.getD_eq_getElem?_getD, List.getElem?_map, List.getElem?_eq_getElem h]; rfl⟩
section
variable {k n B : Nat} {hor : Int} {ws : List Wk} {pr : List D} {hs : List Hm} {day d : D}
theorem linked_ok (hd : Dd B d) (hB : B ≤ 800000000) (hy : DayD n hor ws pr hs day) : Wp (fun r => ∃ log d', r = (log, [.bo d', .no]) ∧ LogD n log ∧ Dd (B + 60) d') (evF T 1000 (k + 3) 22 [.bo d, .v day]) := by
  refine evF_wp T__law_linked_log rfl ?_
  have fd := hd.fz
  have fy := hy.fz
  have i1 := hy.i1
  have hn1 := hy.n1
  have hh0 := hy.h0
  have hh1 := hy.h1
  simp -implicitDefEqProofs (disch := first | assumption | exact st_no | exact st_v | exact fst_no | omega) only [xs1, xs2, xs3, rd, rds, vals, cont, Sl.cont, D.fz, fzL, cmpD, ordD, eqD_int, eqD_in, eqD_ni, eqD_nn, eqD_bb, isD, D.isNon, idx_tup, idx_lst, idx_ro, idx_own, addI, subI, fdivD, modD, negD, truD, bltD, lenD_items, listD, tupleD, absD_int, intD, tyD, D.items, D.isL, mutD, appD, extD, mutArgs, argsOf, argOf, lentS, places, back, backOne, outs, setL, ownAt, parS, lock, unlock, wipeS, putBack, free_zero, free_succ, fst_no, fst_v, rngOf1, rngOf2, srcOf, kit_bb, wp_some, retq_rt, retq_nx, turn_nx, turn_ct, turnp_nx, turnp_ct, turnp_rt, turnp_bk, Option.toList, Int.zero_add, Int.sub_zero, List.getElem?_cons_succ, List.getElem?_cons_zero, List.set_cons_succ, List.set_cons_zero, Option.bind_some, Option.map_some, if_true, if_false, decide_true, decide_false, Bool.false_eq_true, store_zero, store_succ, st_no, st_v, atI_pos, ix50, ix51, ix52, ix53, ix54, ixN_pos, Option.bind_some, List.nodup_nil, List.nodup_cons, List.mem_cons, List.not_mem_nil, or_false, or_true, false_or, not_false_eq_true, not_true, and_self, and_true, true_and, Bool.and_true, Bool.true_and, Bool.and_self, Bool.and_false, Bool.false_and, Bool.not_true, Bool.not_false, List.length_cons, List.length_nil, List.cons_append, List.nil_append, List.replicate, Out.map, List.append_eq, List.all_cons, List.all_nil, decide_not, ne_eq, lim_lit, List.length_map, Int.reduceLE, Int.reduceLT, Int.reduceToNat, Nat.reduceAdd, Nat.reduceSub, Nat.reduceLeDiff, Nat.reduceEqDiff, Int.reduceNeg, Int.reduceEq, Nat.reduceLT, Nat.reduceMul, mulI, fdivI, rngI1, rngI2, Int.cast_ofNat_Int, Int.toNat_natCast, Option.bind_none, Option.map_none, Int.reduceAdd, Int.reduceSub, b__law_linked_log, fd, fy]
  repeat with_reducible refine wp_b ?_
  refine wp_mono (spans_ok (k := k) hy) ?_
  rintro _ ⟨sp, rfl, hsl, hsp⟩
  simp -implicitDefEqProofs (disch := first | assumption | exact st_no | exact st_v | exact fst_no | omega) only [xs1, xs2, xs3, rd, rds, vals, cont, Sl.cont, D.fz, fzL, cmpD, ordD, eqD_int, eqD_in, eqD_ni, eqD_nn, eqD_bb, isD, D.isNon, idx_tup, idx_lst, idx_ro, idx_own, addI, subI, fdivD, modD, negD, truD, bltD, lenD_items, listD, tupleD, absD_int, intD, tyD, D.items, D.isL, mutD, appD, extD, mutArgs, argsOf, argOf, lentS, places, back, backOne, outs, setL, ownAt, parS, lock, unlock, wipeS, putBack, free_zero, free_succ, fst_no, fst_v, rngOf1, rngOf2, srcOf, kit_bb, wp_some, retq_rt, retq_nx, turn_nx, turn_ct, turnp_nx, turnp_ct, turnp_rt, turnp_bk, Option.toList, Int.zero_add, Int.sub_zero, List.getElem?_cons_succ, List.getElem?_cons_zero, List.set_cons_succ, List.set_cons_zero, Option.bind_some, Option.map_some, if_true, if_false, decide_true, decide_false, Bool.false_eq_true, store_zero, store_succ, st_no, st_v, atI_pos, ix50, ix51, ix52, ix53, ix54, ixN_pos, Option.bind_some, List.nodup_nil, List.nodup_cons, List.mem_cons, List.not_mem_nil, or_false, or_true, false_or, not_false_eq_true, not_true, and_self, and_true, true_and, Bool.and_true, Bool.true_and, Bool.and_self, Bool.and_false, Bool.false_and, Bool.not_true, Bool.not_false, List.length_cons, List.length_nil, List.cons_append, List.nil_append, List.replicate, Out.map, List.append_eq, List.all_cons, List.all_nil, decide_not, ne_eq, lim_lit, List.length_map, Int.reduceLE, Int.reduceLT, Int.reduceToNat, Nat.reduceAdd, Nat.reduceSub, Nat.reduceLeDiff, Nat.reduceEqDiff, Int.reduceNeg, Int.reduceEq, Nat.reduceLT, Nat.reduceMul, mulI, fdivI, rngI1, rngI2, Int.cast_ofNat_Int, Int.toNat_natCast, Option.bind_none, Option.map_none, Int.reduceAdd, Int.reduceSub, fd, fy, fz_sp]
  repeat with_reducible refine wp_b ?_
  refine wp_for (fun i ρ => ∃ (l : List (Int × Int)) (d' : D) (s3 s4 s5 s6 : Sl), ρ = [.bo d', .v day, .v (.own (l.map spD)), s3, s4, s5, s6] ∧ St s3 ∧ St s4 ∧ St s5 ∧ St s6 ∧ l.length = i ∧ Dd (B + 6 * i) d') ?_ ?_ ?_
  · exact ⟨[], d, _, _, _, _, rfl, st_no, st_no, st_no, st_no, rfl, by simpa using hd⟩
  · rintro i v _ hi ⟨l, d0, s3, s4, s5, s6, rfl, h3, h4, h5, h6, hll, hd0⟩
    obtain ⟨p, hp, hpm, rfl⟩ := get_map hi
    have hin : i < n := by rw [← hsl]; exact (List.getElem?_eq_some_iff.mp hp).1
    have hpb := hsp p hpm
    have hf0 := hd0.fz
    rw [show spD p = .tup [.int p.1, .int p.2] from rfl]
    simp -implicitDefEqProofs (disch := first | assumption | exact st_no | exact st_v | exact fst_no | omega) only [xs1, xs2, xs3, rd, rds, vals, cont, Sl.cont, D.fz, fzL, cmpD, ordD, eqD_int, eqD_in, eqD_ni, eqD_nn, eqD_bb, isD, D.isNon, idx_tup, idx_lst, idx_ro, idx_own, addI, subI, fdivD, modD, negD, truD, bltD, lenD_items, listD, tupleD, absD_int, intD, tyD, D.items, D.isL, mutD, appD, extD, mutArgs, argsOf, argOf, lentS, places, back, backOne, outs, setL, ownAt, parS, lock, unlock, wipeS, putBack, free_zero, free_succ, fst_no, fst_v, rngOf1, rngOf2, srcOf, kit_bb, wp_some, retq_rt, retq_nx, turn_nx, turn_ct, turnp_nx, turnp_ct, turnp_rt, turnp_bk, Option.toList, Int.zero_add, Int.sub_zero, List.getElem?_cons_succ, List.getElem?_cons_zero, List.set_cons_succ, List.set_cons_zero, Option.bind_some, Option.map_some, if_true, if_false, decide_true, decide_false, Bool.false_eq_true, store_zero, store_succ, st_no, st_v, atI_pos, ix50, ix51, ix52, ix53, ix54, ixN_pos, Option.bind_some, List.nodup_nil, List.nodup_cons, List.mem_cons, List.not_mem_nil, or_false, or_true, false_or, not_false_eq_true, not_true, and_self, and_true, true_and, Bool.and_true, Bool.true_and, Bool.and_self, Bool.and_false, Bool.false_and, Bool.not_true, Bool.not_false, List.length_cons, List.length_nil, List.cons_append, List.nil_append, List.replicate, Out.map, List.append_eq, List.all_cons, List.all_nil, decide_not, ne_eq, lim_lit, List.length_map, Int.reduceLE, Int.reduceLT, Int.reduceToNat, Nat.reduceAdd, Nat.reduceSub, Nat.reduceLeDiff, Nat.reduceEqDiff, Int.reduceNeg, Int.reduceEq, Nat.reduceLT, Nat.reduceMul, mulI, fdivI, rngI1, rngI2, Int.cast_ofNat_Int, Int.toNat_natCast, Option.bind_none, Option.map_none, Int.reduceAdd, Int.reduceSub, forTu, hf0, fy, h3, h4, i1, minI]
    repeat with_reducible refine wp_b ?_
    refine wp_mono (between_ok hd0 (by omega) (by omega)) ?_
    rintro _ ⟨u, d1, rfl, u0, _, hd1⟩
    have hf1 := hd1.fz
    simp -implicitDefEqProofs (disch := first | assumption | exact st_no | exact st_v | exact fst_no | omega) only [xs1, xs2, xs3, rd, rds, vals, cont, Sl.cont, D.fz, fzL, cmpD, ordD, eqD_int, eqD_in, eqD_ni, eqD_nn, eqD_bb, isD, D.isNon, idx_tup, idx_lst, idx_ro, idx_own, addI, subI, fdivD, modD, negD, truD, bltD, lenD_items, listD, tupleD, absD_int, intD, tyD, D.items, D.isL, mutD, appD, extD, mutArgs, argsOf, argOf, lentS, places, back, backOne, outs, setL, ownAt, parS, lock, unlock, wipeS, putBack, free_zero, free_succ, fst_no, fst_v, rngOf1, rngOf2, srcOf, kit_bb, wp_some, retq_rt, retq_nx, turn_nx, turn_ct, turnp_nx, turnp_ct, turnp_rt, turnp_bk, Option.toList, Int.zero_add, Int.sub_zero, List.getElem?_cons_succ, List.getElem?_cons_zero, List.set_cons_succ, List.set_cons_zero, Option.bind_some, Option.map_some, if_true, if_false, decide_true, decide_false, Bool.false_eq_true, store_zero, store_succ, st_no, st_v, atI_pos, ix50, ix51, ix52, ix53, ix54, ixN_pos, Option.bind_some, List.nodup_nil, List.nodup_cons, List.mem_cons, List.not_mem_nil, or_false, or_true, false_or, not_false_eq_true, not_true, and_self, and_true, true_and, Bool.and_true, Bool.true_and, Bool.and_self, Bool.and_false, Bool.false_and, Bool.not_true, Bool.not_false, List.length_cons, List.length_nil, List.cons_append, List.nil_append, List.replicate, Out.map, List.append_eq, List.all_cons, List.all_nil, decide_not, ne_eq, lim_lit, List.length_map, Int.reduceLE, Int.reduceLT, Int.reduceToNat, Nat.reduceAdd, Nat.reduceSub, Nat.reduceLeDiff, Nat.reduceEqDiff, Int.reduceNeg, Int.reduceEq, Nat.reduceLT, Nat.reduceMul, mulI, fdivI, rngI1, rngI2, Int.cast_ofNat_Int, Int.toNat_natCast, Option.bind_none, Option.map_none, Int.reduceAdd, Int.reduceSub, hf1, fy, h4, i1]
    repeat with_reducible refine wp_b ?_
    refine wp_mono (draw_ok hd1 (by omega) (by omega)) ?_
    rintro _ ⟨x, d2, rfl, x0, _, hd2⟩
    have hf2 := hd2.fz
    have hap : l.length < 16777216 := by omega
    have fl : fzL (l.map spD) = true := fz_sp l
    have fin : ∀ (d3 : D) (y : Int) (s6 : Sl), St s6 → Dd (B + 6 * i + 6) d3 → ∃ (l' : List (Int × Int)) (d' : D) (s3 s4 s5 s6' : Sl), ([.bo d3, .v day, .v (.own (l.map spD ++ [.tup [.int y, .int (y + u)]])), .v (.tup [.int p.1, .int p.2]), .v (.int u), .v (.int y), s6] : List Sl) = [.bo d', .v day, .v (.own (l'.map spD)), s3, s4, s5, s6'] ∧ St s3 ∧ St s4 ∧ St s5 ∧ St s6' ∧ l'.length = i + 1 ∧ Dd (B + 6 * (i + 1)) d' := by
      intro d3 y s6 h6 hd3
      exact ⟨l ++ [(y, y + u)], d3, .v (.tup [.int p.1, .int p.2]), .v (.int u), .v (.int y), s6, by simp [spD], st_v, st_v, st_v, h6, by simp [hll], hd3.mono (by omega)⟩
    by_cases hc : (0 : Int) < l.length
    · simp -implicitDefEqProofs (disch := first | assumption | exact st_no | exact st_v | exact fst_no | omega) only [xs1, xs2, xs3, rd, rds, vals, cont, Sl.cont, D.fz, fzL, cmpD, ordD, eqD_int, eqD_in, eqD_ni, eqD_nn, eqD_bb, isD, D.isNon, idx_tup, idx_lst, idx_ro, idx_own, addI, subI, fdivD, modD, negD, truD, bltD, lenD_items, listD, tupleD, absD_int, intD, tyD, D.items, D.isL, mutD, appD, extD, mutArgs, argsOf, argOf, lentS, places, back, backOne, outs, setL, ownAt, parS, lock, unlock, wipeS, putBack, free_zero, free_succ, fst_no, fst_v, rngOf1, rngOf2, srcOf, kit_bb, wp_some, retq_rt, retq_nx, turn_nx, turn_ct, turnp_nx, turnp_ct, turnp_rt, turnp_bk, Option.toList, Int.zero_add, Int.sub_zero, List.getElem?_cons_succ, List.getElem?_cons_zero, List.set_cons_succ, List.set_cons_zero, Option.bind_some, Option.map_some, if_true, if_false, decide_true, decide_false, Bool.false_eq_true, store_zero, store_succ, st_no, st_v, atI_pos, ix50, ix51, ix52, ix53, ix54, ixN_pos, Option.bind_some, List.nodup_nil, List.nodup_cons, List.mem_cons, List.not_mem_nil, or_false, or_true, false_or, not_false_eq_true, not_true, and_self, and_true, true_and, Bool.and_true, Bool.true_and, Bool.and_self, Bool.and_false, Bool.false_and, Bool.not_true, Bool.not_false, List.length_cons, List.length_nil, List.cons_append, List.nil_append, List.replicate, Out.map, List.append_eq, List.all_cons, List.all_nil, decide_not, ne_eq, lim_lit, List.length_map, Int.reduceLE, Int.reduceLT, Int.reduceToNat, Nat.reduceAdd, Nat.reduceSub, Nat.reduceLeDiff, Nat.reduceEqDiff, Int.reduceNeg, Int.reduceEq, Nat.reduceLT, Nat.reduceMul, mulI, fdivI, rngI1, rngI2, Int.cast_ofNat_Int, Int.toNat_natCast, Option.bind_none, Option.map_none, Int.reduceAdd, Int.reduceSub, hf2, fy, h5, fl, hc]
      repeat with_reducible refine wp_b ?_
      refine wp_mono (draw_ok hd2 (by omega) (by omega)) ?_
      rintro _ ⟨z, d3, rfl, z0, _, hd3⟩
      have hf3 := hd3.fz
      by_cases hz : z = 1
      · subst hz
        simp -implicitDefEqProofs (disch := first | assumption | exact st_no | exact st_v | exact fst_no | omega) only [xs1, xs2, xs3, rd, rds, vals, cont, Sl.cont, D.fz, fzL, cmpD, ordD, eqD_int, eqD_in, eqD_ni, eqD_nn, eqD_bb, isD, D.isNon, idx_tup, idx_lst, idx_ro, idx_own, addI, subI, fdivD, modD, negD, truD, bltD, lenD_items, listD, tupleD, absD_int, intD, tyD, D.items, D.isL, mutD, appD, extD, mutArgs, argsOf, argOf, lentS, places, back, backOne, outs, setL, ownAt, parS, lock, unlock, wipeS, putBack, free_zero, free_succ, fst_no, fst_v, rngOf1, rngOf2, srcOf, kit_bb, wp_some, retq_rt, retq_nx, turn_nx, turn_ct, turnp_nx, turnp_ct, turnp_rt, turnp_bk, Option.toList, Int.zero_add, Int.sub_zero, List.getElem?_cons_succ, List.getElem?_cons_zero, List.set_cons_succ, List.set_cons_zero, Option.bind_some, Option.map_some, if_true, if_false, decide_true, decide_false, Bool.false_eq_true, store_zero, store_succ, st_no, st_v, atI_pos, ix50, ix51, ix52, ix53, ix54, ixN_pos, Option.bind_some, List.nodup_nil, List.nodup_cons, List.mem_cons, List.not_mem_nil, or_false, or_true, false_or, not_false_eq_true, not_true, and_self, and_true, true_and, Bool.and_true, Bool.true_and, Bool.and_self, Bool.and_false, Bool.false_and, Bool.not_true, Bool.not_false, List.length_cons, List.length_nil, List.cons_append, List.nil_append, List.replicate, Out.map, List.append_eq, List.all_cons, List.all_nil, decide_not, ne_eq, lim_lit, List.length_map, Int.reduceLE, Int.reduceLT, Int.reduceToNat, Nat.reduceAdd, Nat.reduceSub, Nat.reduceLeDiff, Nat.reduceEqDiff, Int.reduceNeg, Int.reduceEq, Nat.reduceLT, Nat.reduceMul, mulI, fdivI, rngI1, rngI2, Int.cast_ofNat_Int, Int.toNat_natCast, Option.bind_none, Option.map_none, Int.reduceAdd, Int.reduceSub, hf3, fy, fl, i1, minI, maxI, hap]
        exact fin d3 _ _ h6 (hd3.mono (by omega))
      · simp -implicitDefEqProofs (disch := first | assumption | exact st_no | exact st_v | exact fst_no | omega) only [xs1, xs2, xs3, rd, rds, vals, cont, Sl.cont, D.fz, fzL, cmpD, ordD, eqD_int, eqD_in, eqD_ni, eqD_nn, eqD_bb, isD, D.isNon, idx_tup, idx_lst, idx_ro, idx_own, addI, subI, fdivD, modD, negD, truD, bltD, lenD_items, listD, tupleD, absD_int, intD, tyD, D.items, D.isL, mutD, appD, extD, mutArgs, argsOf, argOf, lentS, places, back, backOne, outs, setL, ownAt, parS, lock, unlock, wipeS, putBack, free_zero, free_succ, fst_no, fst_v, rngOf1, rngOf2, srcOf, kit_bb, wp_some, retq_rt, retq_nx, turn_nx, turn_ct, turnp_nx, turnp_ct, turnp_rt, turnp_bk, Option.toList, Int.zero_add, Int.sub_zero, List.getElem?_cons_succ, List.getElem?_cons_zero, List.set_cons_succ, List.set_cons_zero, Option.bind_some, Option.map_some, if_true, if_false, decide_true, decide_false, Bool.false_eq_true, store_zero, store_succ, st_no, st_v, atI_pos, ix50, ix51, ix52, ix53, ix54, ixN_pos, Option.bind_some, List.nodup_nil, List.nodup_cons, List.mem_cons, List.not_mem_nil, or_false, or_true, false_or, not_false_eq_true, not_true, and_self, and_true, true_and, Bool.and_true, Bool.true_and, Bool.and_self, Bool.and_false, Bool.false_and, Bool.not_true, Bool.not_false, List.length_cons, List.length_nil, List.cons_append, List.nil_append, List.replicate, Out.map, List.append_eq, List.all_cons, List.all_nil, decide_not, ne_eq, lim_lit, List.length_map, Int.reduceLE, Int.reduceLT, Int.reduceToNat, Nat.reduceAdd, Nat.reduceSub, Nat.reduceLeDiff, Nat.reduceEqDiff, Int.reduceNeg, Int.reduceEq, Nat.reduceLT, Nat.reduceMul, mulI, fdivI, rngI1, rngI2, Int.cast_ofNat_Int, Int.toNat_natCast, Option.bind_none, Option.map_none, Int.reduceAdd, Int.reduceSub, hf3, fy, fl, hz]
        repeat with_reducible refine wp_b ?_
        refine wp_mono (pick_ok (.inl ⟨rfl, rfl⟩) hd3 (by omega) fl (by simp; omega) (by simp; omega)) ?_
        rintro _ ⟨j, d4, rfl, hj, hd4⟩
        obtain ⟨q, hq⟩ := getD_sp hj
        have hf4 := hd4.fz
        simp -implicitDefEqProofs (disch := first | assumption | exact st_no | exact st_v | exact fst_no | omega) only [xs1, xs2, xs3, rd, rds, vals, cont, Sl.cont, D.fz, fzL, cmpD, ordD, eqD_int, eqD_in, eqD_ni, eqD_nn, eqD_bb, isD, D.isNon, idx_tup, idx_lst, idx_ro, idx_own, addI, subI, fdivD, modD, negD, truD, bltD, lenD_items, listD, tupleD, absD_int, intD, tyD, D.items, D.isL, mutD, appD, extD, mutArgs, argsOf, argOf, lentS, places, back, backOne, outs, setL, ownAt, parS, lock, unlock, wipeS, putBack, free_zero, free_succ, fst_no, fst_v, rngOf1, rngOf2, srcOf, kit_bb, wp_some, retq_rt, retq_nx, turn_nx, turn_ct, turnp_nx, turnp_ct, turnp_rt, turnp_bk, Option.toList, Int.zero_add, Int.sub_zero, List.getElem?_cons_succ, List.getElem?_cons_zero, List.set_cons_succ, List.set_cons_zero, Option.bind_some, Option.map_some, if_true, if_false, decide_true, decide_false, Bool.false_eq_true, store_zero, store_succ, st_no, st_v, atI_pos, ix50, ix51, ix52, ix53, ix54, ixN_pos, Option.bind_some, List.nodup_nil, List.nodup_cons, List.mem_cons, List.not_mem_nil, or_false, or_true, false_or, not_false_eq_true, not_true, and_self, and_true, true_and, Bool.and_true, Bool.true_and, Bool.and_self, Bool.and_false, Bool.false_and, Bool.not_true, Bool.not_false, List.length_cons, List.length_nil, List.cons_append, List.nil_append, List.replicate, Out.map, List.append_eq, List.all_cons, List.all_nil, decide_not, ne_eq, lim_lit, List.length_map, Int.reduceLE, Int.reduceLT, Int.reduceToNat, Nat.reduceAdd, Nat.reduceSub, Nat.reduceLeDiff, Nat.reduceEqDiff, Int.reduceNeg, Int.reduceEq, Nat.reduceLT, Nat.reduceMul, mulI, fdivI, rngI1, rngI2, Int.cast_ofNat_Int, Int.toNat_natCast, Option.bind_none, Option.map_none, Int.reduceAdd, Int.reduceSub, hf4, fy, fl, hq, h6]
        repeat with_reducible refine wp_b ?_
        refine wp_mono (draw_ok (m := 2) hd4 (by omega) (by omega)) ?_
        rintro _ ⟨w, d5, rfl, w0, w1, hd5⟩
        have hf5 := hd5.fz
        have w1 := w1 (by omega)
        rcases (show w = 0 ∨ w = 1 by omega) with rfl | rfl
        · simp -implicitDefEqProofs (disch := first | assumption | exact st_no | exact st_v | exact fst_no | omega) only [xs1, xs2, xs3, rd, rds, vals, cont, Sl.cont, D.fz, fzL, cmpD, ordD, eqD_int, eqD_in, eqD_ni, eqD_nn, eqD_bb, isD, D.isNon, idx_tup, idx_lst, idx_ro, idx_own, addI, subI, fdivD, modD, negD, truD, bltD, lenD_items, listD, tupleD, absD_int, intD, tyD, D.items, D.isL, mutD, appD, extD, mutArgs, argsOf, argOf, lentS, places, back, backOne, outs, setL, ownAt, parS, lock, unlock, wipeS, putBack, free_zero, free_succ, fst_no, fst_v, rngOf1, rngOf2, srcOf, kit_bb, wp_some, retq_rt, retq_nx, turn_nx, turn_ct, turnp_nx, turnp_ct, turnp_rt, turnp_bk, Option.toList, Int.zero_add, Int.sub_zero, List.getElem?_cons_succ, List.getElem?_cons_zero, List.set_cons_succ, List.set_cons_zero, Option.bind_some, Option.map_some, if_true, if_false, decide_true, decide_false, Bool.false_eq_true, store_zero, store_succ, st_no, st_v, atI_pos, ix50, ix51, ix52, ix53, ix54, ixN_pos, Option.bind_some, List.nodup_nil, List.nodup_cons, List.mem_cons, List.not_mem_nil, or_false, or_true, false_or, not_false_eq_true, not_true, and_self, and_true, true_and, Bool.and_true, Bool.true_and, Bool.and_self, Bool.and_false, Bool.false_and, Bool.not_true, Bool.not_false, List.length_cons, List.length_nil, List.cons_append, List.nil_append, List.replicate, Out.map, List.append_eq, List.all_cons, List.all_nil, decide_not, ne_eq, lim_lit, List.length_map, Int.reduceLE, Int.reduceLT, Int.reduceToNat, Nat.reduceAdd, Nat.reduceSub, Nat.reduceLeDiff, Nat.reduceEqDiff, Int.reduceNeg, Int.reduceEq, Nat.reduceLT, Nat.reduceMul, mulI, fdivI, rngI1, rngI2, Int.cast_ofNat_Int, Int.toNat_natCast, Option.bind_none, Option.map_none, Int.reduceAdd, Int.reduceSub, hf5, fy, fl, hq]
          repeat with_reducible refine wp_b ?_
          refine wp_mono (draw_ok (m := 4) hd5 (by omega) (by omega)) ?_
          rintro _ ⟨w2, d6, rfl, _, _, hd6⟩
          have hf6 := hd6.fz
          simp -implicitDefEqProofs (disch := first | assumption | exact st_no | exact st_v | exact fst_no | omega) only [xs1, xs2, xs3, rd, rds, vals, cont, Sl.cont, D.fz, fzL, cmpD, ordD, eqD_int, eqD_in, eqD_ni, eqD_nn, eqD_bb, isD, D.isNon, idx_tup, idx_lst, idx_ro, idx_own, addI, subI, fdivD, modD, negD, truD, bltD, lenD_items, listD, tupleD, absD_int, intD, tyD, D.items, D.isL, mutD, appD, extD, mutArgs, argsOf, argOf, lentS, places, back, backOne, outs, setL, ownAt, parS, lock, unlock, wipeS, putBack, free_zero, free_succ, fst_no, fst_v, rngOf1, rngOf2, srcOf, kit_bb, wp_some, retq_rt, retq_nx, turn_nx, turn_ct, turnp_nx, turnp_ct, turnp_rt, turnp_bk, Option.toList, Int.zero_add, Int.sub_zero, List.getElem?_cons_succ, List.getElem?_cons_zero, List.set_cons_succ, List.set_cons_zero, Option.bind_some, Option.map_some, if_true, if_false, decide_true, decide_false, Bool.false_eq_true, store_zero, store_succ, st_no, st_v, atI_pos, ix50, ix51, ix52, ix53, ix54, ixN_pos, Option.bind_some, List.nodup_nil, List.nodup_cons, List.mem_cons, List.not_mem_nil, or_false, or_true, false_or, not_false_eq_true, not_true, and_self, and_true, true_and, Bool.and_true, Bool.true_and, Bool.and_self, Bool.and_false, Bool.false_and, Bool.not_true, Bool.not_false, List.length_cons, List.length_nil, List.cons_append, List.nil_append, List.replicate, Out.map, List.append_eq, List.all_cons, List.all_nil, decide_not, ne_eq, lim_lit, List.length_map, Int.reduceLE, Int.reduceLT, Int.reduceToNat, Nat.reduceAdd, Nat.reduceSub, Nat.reduceLeDiff, Nat.reduceEqDiff, Int.reduceNeg, Int.reduceEq, Nat.reduceLT, Nat.reduceMul, mulI, fdivI, rngI1, rngI2, Int.cast_ofNat_Int, Int.toNat_natCast, Option.bind_none, Option.map_none, Int.reduceAdd, Int.reduceSub, hf6, fy, fl, i1, minI, maxI, hap]
          exact fin d6 _ _ st_v (hd6.mono (by omega))
        · simp -implicitDefEqProofs (disch := first | assumption | exact st_no | exact st_v | exact fst_no | omega) only [xs1, xs2, xs3, rd, rds, vals, cont, Sl.cont, D.fz, fzL, cmpD, ordD, eqD_int, eqD_in, eqD_ni, eqD_nn, eqD_bb, isD, D.isNon, idx_tup, idx_lst, idx_ro, idx_own, addI, subI, fdivD, modD, negD, truD, bltD, lenD_items, listD, tupleD, absD_int, intD, tyD, D.items, D.isL, mutD, appD, extD, mutArgs, argsOf, argOf, lentS, places, back, backOne, outs, setL, ownAt, parS, lock, unlock, wipeS, putBack, free_zero, free_succ, fst_no, fst_v, rngOf1, rngOf2, srcOf, kit_bb, wp_some, retq_rt, retq_nx, turn_nx, turn_ct, turnp_nx, turnp_ct, turnp_rt, turnp_bk, Option.toList, Int.zero_add, Int.sub_zero, List.getElem?_cons_succ, List.getElem?_cons_zero, List.set_cons_succ, List.set_cons_zero, Option.bind_some, Option.map_some, if_true, if_false, decide_true, decide_false, Bool.false_eq_true, store_zero, store_succ, st_no, st_v, atI_pos, ix50, ix51, ix52, ix53, ix54, ixN_pos, Option.bind_some, List.nodup_nil, List.nodup_cons, List.mem_cons, List.not_mem_nil, or_false, or_true, false_or, not_false_eq_true, not_true, and_self, and_true, true_and, Bool.and_true, Bool.true_and, Bool.and_self, Bool.and_false, Bool.false_and, Bool.not_true, Bool.not_false, List.length_cons, List.length_nil, List.cons_append, List.nil_append, List.replicate, Out.map, List.append_eq, List.all_cons, List.all_nil, decide_not, ne_eq, lim_lit, List.length_map, Int.reduceLE, Int.reduceLT, Int.reduceToNat, Nat.reduceAdd, Nat.reduceSub, Nat.reduceLeDiff, Nat.reduceEqDiff, Int.reduceNeg, Int.reduceEq, Nat.reduceLT, Nat.reduceMul, mulI, fdivI, rngI1, rngI2, Int.cast_ofNat_Int, Int.toNat_natCast, Option.bind_none, Option.map_none, Int.reduceAdd, Int.reduceSub, hf5, fy, fl, hq]
          repeat with_reducible refine wp_b ?_
          refine wp_mono (draw_ok (m := 4) hd5 (by omega) (by omega)) ?_
          rintro _ ⟨w2, d6, rfl, _, _, hd6⟩
          have hf6 := hd6.fz
          simp -implicitDefEqProofs (disch := first | assumption | exact st_no | exact st_v | exact fst_no | omega) only [xs1, xs2, xs3, rd, rds, vals, cont, Sl.cont, D.fz, fzL, cmpD, ordD, eqD_int, eqD_in, eqD_ni, eqD_nn, eqD_bb, isD, D.isNon, idx_tup, idx_lst, idx_ro, idx_own, addI, subI, fdivD, modD, negD, truD, bltD, lenD_items, listD, tupleD, absD_int, intD, tyD, D.items, D.isL, mutD, appD, extD, mutArgs, argsOf, argOf, lentS, places, back, backOne, outs, setL, ownAt, parS, lock, unlock, wipeS, putBack, free_zero, free_succ, fst_no, fst_v, rngOf1, rngOf2, srcOf, kit_bb, wp_some, retq_rt, retq_nx, turn_nx, turn_ct, turnp_nx, turnp_ct, turnp_rt, turnp_bk, Option.toList, Int.zero_add, Int.sub_zero, List.getElem?_cons_succ, List.getElem?_cons_zero, List.set_cons_succ, List.set_cons_zero, Option.bind_some, Option.map_some, if_true, if_false, decide_true, decide_false, Bool.false_eq_true, store_zero, store_succ, st_no, st_v, atI_pos, ix50, ix51, ix52, ix53, ix54, ixN_pos, Option.bind_some, List.nodup_nil, List.nodup_cons, List.mem_cons, List.not_mem_nil, or_false, or_true, false_or, not_false_eq_true, not_true, and_self, and_true, true_and, Bool.and_true, Bool.true_and, Bool.and_self, Bool.and_false, Bool.false_and, Bool.not_true, Bool.not_false, List.length_cons, List.length_nil, List.cons_append, List.nil_append, List.replicate, Out.map, List.append_eq, List.all_cons, List.all_nil, decide_not, ne_eq, lim_lit, List.length_map, Int.reduceLE, Int.reduceLT, Int.reduceToNat, Nat.reduceAdd, Nat.reduceSub, Nat.reduceLeDiff, Nat.reduceEqDiff, Int.reduceNeg, Int.reduceEq, Nat.reduceLT, Nat.reduceMul, mulI, fdivI, rngI1, rngI2, Int.cast_ofNat_Int, Int.toNat_natCast, Option.bind_none, Option.map_none, Int.reduceAdd, Int.reduceSub, hf6, fy, fl, i1, minI, maxI, hap]
          exact fin d6 _ _ st_v (hd6.mono (by omega))
    · simp -implicitDefEqProofs (disch := first | assumption | exact st_no | exact st_v | exact fst_no | omega) only [xs1, xs2, xs3, rd, rds, vals, cont, Sl.cont, D.fz, fzL, cmpD, ordD, eqD_int, eqD_in, eqD_ni, eqD_nn, eqD_bb, isD, D.isNon, idx_tup, idx_lst, idx_ro, idx_own, addI, subI, fdivD, modD, negD, truD, bltD, lenD_items, listD, tupleD, absD_int, intD, tyD, D.items, D.isL, mutD, appD, extD, mutArgs, argsOf, argOf, lentS, places, back, backOne, outs, setL, ownAt, parS, lock, unlock, wipeS, putBack, free_zero, free_succ, fst_no, fst_v, rngOf1, rngOf2, srcOf, kit_bb, wp_some, retq_rt, retq_nx, turn_nx, turn_ct, turnp_nx, turnp_ct, turnp_rt, turnp_bk, Option.toList, Int.zero_add, Int.sub_zero, List.getElem?_cons_succ, List.getElem?_cons_zero, List.set_cons_succ, List.set_cons_zero, Option.bind_some, Option.map_some, if_true, if_false, decide_true, decide_false, Bool.false_eq_true, store_zero, store_succ, st_no, st_v, atI_pos, ix50, ix51, ix52, ix53, ix54, ixN_pos, Option.bind_some, List.nodup_nil, List.nodup_cons, List.mem_cons, List.not_mem_nil, or_false, or_true, false_or, not_false_eq_true, not_true, and_self, and_true, true_and, Bool.and_true, Bool.true_and, Bool.and_self, Bool.and_false, Bool.false_and, Bool.not_true, Bool.not_false, List.length_cons, List.length_nil, List.cons_append, List.nil_append, List.replicate, Out.map, List.append_eq, List.all_cons, List.all_nil, decide_not, ne_eq, lim_lit, List.length_map, Int.reduceLE, Int.reduceLT, Int.reduceToNat, Nat.reduceAdd, Nat.reduceSub, Nat.reduceLeDiff, Nat.reduceEqDiff, Int.reduceNeg, Int.reduceEq, Nat.reduceLT, Nat.reduceMul, mulI, fdivI, rngI1, rngI2, Int.cast_ofNat_Int, Int.toNat_natCast, Option.bind_none, Option.map_none, Int.reduceAdd, Int.reduceSub, hf2, fy, h5, fl, hc, i1, minI, maxI, hap]
      exact fin d2 _ _ h6 (hd2.mono (by omega))
  · rintro _ ⟨l, d0, s3, s4, s5, s6, rfl, h3, h4, h5, h6, hll, hd0⟩
    rw [List.length_map, hsl] at hll hd0
    have hf0 := hd0.fz
    simp -implicitDefEqProofs (disch := first | assumption | exact st_no | exact st_v | exact fst_no | omega) only [xs1, xs2, xs3, rd, rds, vals, cont, Sl.cont, D.fz, fzL, cmpD, ordD, eqD_int, eqD_in, eqD_ni, eqD_nn, eqD_bb, isD, D.isNon, idx_tup, idx_lst, idx_ro, idx_own, addI, subI, fdivD, modD, negD, truD, bltD, lenD_items, listD, tupleD, absD_int, intD, tyD, D.items, D.isL, mutD, appD, extD, mutArgs, argsOf, argOf, lentS, places, back, backOne, outs, setL, ownAt, parS, lock, unlock, wipeS, putBack, free_zero, free_succ, fst_no, fst_v, rngOf1, rngOf2, srcOf, kit_bb, wp_some, retq_rt, retq_nx, turn_nx, turn_ct, turnp_nx, turnp_ct, turnp_rt, turnp_bk, Option.toList, Int.zero_add, Int.sub_zero, List.getElem?_cons_succ, List.getElem?_cons_zero, List.set_cons_succ, List.set_cons_zero, Option.bind_some, Option.map_some, if_true, if_false, decide_true, decide_false, Bool.false_eq_true, store_zero, store_succ, st_no, st_v, atI_pos, ix50, ix51, ix52, ix53, ix54, ixN_pos, Option.bind_some, List.nodup_nil, List.nodup_cons, List.mem_cons, List.not_mem_nil, or_false, or_true, false_or, not_false_eq_true, not_true, and_self, and_true, true_and, Bool.and_true, Bool.true_and, Bool.and_self, Bool.and_false, Bool.false_and, Bool.not_true, Bool.not_false, List.length_cons, List.length_nil, List.cons_append, List.nil_append, List.replicate, Out.map, List.append_eq, List.all_cons, List.all_nil, decide_not, ne_eq, lim_lit, List.length_map, Int.reduceLE, Int.reduceLT, Int.reduceToNat, Nat.reduceAdd, Nat.reduceSub, Nat.reduceLeDiff, Nat.reduceEqDiff, Int.reduceNeg, Int.reduceEq, Nat.reduceLT, Nat.reduceMul, mulI, fdivI, rngI1, rngI2, Int.cast_ofNat_Int, Int.toNat_natCast, Option.bind_none, Option.map_none, Int.reduceAdd, Int.reduceSub, hf0, fy, fz_sp]
    exact ⟨_, d0, rfl, ⟨l, rfl, hll⟩, hd0.mono (by omega)⟩
end
end K09


set_option maxRecDepth 100000
set_option maxHeartbeats 4000000
namespace K09
open PySem Co
theorem lay_log {l : List (Int × Int)} : Lay 64 (.tup (l.map spD)) := by
  refine (lay_tup (n := 1) (fun d hd => ?_)).mono (by omega)
  obtain ⟨p, _, rfl⟩ := List.mem_map.mp hd
  refine lay_tup (n := 0) (fun d hd => ?_)
  simp only [List.mem_cons, List.not_mem_nil, or_false] at hd
  rcases hd with rfl | rfl <;> exact lay_int
theorem eq_some {a b : D} (ha : Lay 64 a) (hb : Lay 64 b) : ∃ c, eqD a b = some c := by
  unfold eqD
  have s1 : SeqAt.shaped a.py = true := Bool.and_eq_true_iff.mpr ⟨ha.1, decide_eq_true ha.2⟩
  have s2 : SeqAt.shaped b.py = true := Bool.and_eq_true_iff.mpr ⟨hb.1, decide_eq_true hb.2⟩
  exact ⟨_, if_pos (Bool.and_eq_true_iff.mpr ⟨s1, s2⟩)⟩
section
variable {k n B : Nat} {hor : Int} {ws : List Wk} {pr : List D} {hs : List Hm} {day d : D}
theorem moved_ok {log : D} (hd : Dd B d) (hB : B ≤ 700000000) (hy : DayD n hor ws pr hs day) (hl : LogD n log) : Wp (fun r => ∃ log d', r = (log, [.bo d', .no, .no]) ∧ LogD n log ∧ Dd (B + 100) d') (evF T 1000 (k + 4) 23 [.bo d, .v day, .v log]) := by
  refine evF_wp T__law_moved_log rfl ?_
  obtain ⟨l, rfl, hl⟩ := hl
  have fd := hd.fz
  have fy := hy.fz
  have hn0 := hy.n0
  have hn1 := hy.n1
  simp -implicitDefEqProofs (disch := first | assumption | exact st_no | exact st_v | exact fst_no | omega) only [xs1, xs2, xs3, rd, rds, vals, cont, Sl.cont, D.fz, fzL, cmpD, ordD, eqD_int, eqD_in, eqD_ni, eqD_nn, eqD_bb, isD, D.isNon, idx_tup, idx_lst, idx_ro, idx_own, addI, subI, fdivD, modD, negD, truD, bltD, lenD_items, listD, tupleD, absD_int, intD, tyD, D.items, D.isL, mutD, appD, extD, mutArgs, argsOf, argOf, lentS, places, back, backOne, outs, setL, ownAt, parS, lock, unlock, wipeS, putBack, free_zero, free_succ, fst_no, fst_v, rngOf1, rngOf2, srcOf, kit_bb, wp_some, retq_rt, retq_nx, turn_nx, turn_ct, turnp_nx, turnp_ct, turnp_rt, turnp_bk, Option.toList, Int.zero_add, Int.sub_zero, List.getElem?_cons_succ, List.getElem?_cons_zero, List.set_cons_succ, List.set_cons_zero, Option.bind_some, Option.map_some, if_true, if_false, decide_true, decide_false, Bool.false_eq_true, store_zero, store_succ, st_no, st_v, atI_pos, ix50, ix51, ix52, ix53, ix54, ixN_pos, Option.bind_some, List.nodup_nil, List.nodup_cons, List.mem_cons, List.not_mem_nil, or_false, or_true, false_or, not_false_eq_true, not_true, and_self, and_true, true_and, Bool.and_true, Bool.true_and, Bool.and_self, Bool.and_false, Bool.false_and, Bool.not_true, Bool.not_false, List.length_cons, List.length_nil, List.cons_append, List.nil_append, List.replicate, Out.map, List.append_eq, List.all_cons, List.all_nil, decide_not, ne_eq, lim_lit, List.length_map, Int.reduceLE, Int.reduceLT, Int.reduceToNat, Nat.reduceAdd, Nat.reduceSub, Nat.reduceLeDiff, Nat.reduceEqDiff, Int.reduceNeg, Int.reduceEq, Nat.reduceLT, Nat.reduceMul, mulI, fdivI, rngI1, rngI2, Int.cast_ofNat_Int, Int.toNat_natCast, Option.bind_none, Option.map_none, Int.reduceAdd, Int.reduceSub, b__law_moved_log, fd, fy, fz_sp]
  repeat with_reducible refine wp_b ?_
  refine wp_forP (fun i ρ => ∃ (d' : D) (s3 s4 s5 s6 : Sl), ρ = [.bo d', .v day, .v (.tup (l.map spD)), s3, s4, s5, s6] ∧ St s3 ∧ St s4 ∧ St s5 ∧ St s6 ∧ Dd (B + 3 * i) d') ?_ ?_ ?_
  · exact ⟨d, _, _, _, _, rfl, st_no, st_no, st_no, st_no, by simpa using hd⟩
  · rintro i v _ hi ⟨d0, s3, s4, s5, s6, rfl, h3, h4, h5, h6, hd0⟩
    obtain ⟨rfl, hlt⟩ := rngd_get hi
    have hf0 := hd0.fz
    simp -implicitDefEqProofs (disch := first | assumption | exact st_no | exact st_v | exact fst_no | omega) only [xs1, xs2, xs3, rd, rds, vals, cont, Sl.cont, D.fz, fzL, cmpD, ordD, eqD_int, eqD_in, eqD_ni, eqD_nn, eqD_bb, isD, D.isNon, idx_tup, idx_lst, idx_ro, idx_own, addI, subI, fdivD, modD, negD, truD, bltD, lenD_items, listD, tupleD, absD_int, intD, tyD, D.items, D.isL, mutD, appD, extD, mutArgs, argsOf, argOf, lentS, places, back, backOne, outs, setL, ownAt, parS, lock, unlock, wipeS, putBack, free_zero, free_succ, fst_no, fst_v, rngOf1, rngOf2, srcOf, kit_bb, wp_some, retq_rt, retq_nx, turn_nx, turn_ct, turnp_nx, turnp_ct, turnp_rt, turnp_bk, Option.toList, Int.zero_add, Int.sub_zero, List.getElem?_cons_succ, List.getElem?_cons_zero, List.set_cons_succ, List.set_cons_zero, Option.bind_some, Option.map_some, if_true, if_false, decide_true, decide_false, Bool.false_eq_true, store_zero, store_succ, st_no, st_v, atI_pos, ix50, ix51, ix52, ix53, ix54, ixN_pos, Option.bind_some, List.nodup_nil, List.nodup_cons, List.mem_cons, List.not_mem_nil, or_false, or_true, false_or, not_false_eq_true, not_true, and_self, and_true, true_and, Bool.and_true, Bool.true_and, Bool.and_self, Bool.and_false, Bool.false_and, Bool.not_true, Bool.not_false, List.length_cons, List.length_nil, List.cons_append, List.nil_append, List.replicate, Out.map, List.append_eq, List.all_cons, List.all_nil, decide_not, ne_eq, lim_lit, List.length_map, Int.reduceLE, Int.reduceLT, Int.reduceToNat, Nat.reduceAdd, Nat.reduceSub, Nat.reduceLeDiff, Nat.reduceEqDiff, Int.reduceNeg, Int.reduceEq, Nat.reduceLT, Nat.reduceMul, mulI, fdivI, rngI1, rngI2, Int.cast_ofNat_Int, Int.toNat_natCast, Option.bind_none, Option.map_none, Int.reduceAdd, Int.reduceSub, forTu, hf0, fy, fz_sp, h3]
    repeat with_reducible refine wp_b ?_
    refine wp_mono (draw_ok (m := l.length) hd0 (by omega) (by omega)) ?_
    rintro _ ⟨x, d1, rfl, x0, x1, hd1⟩
    have x1 := x1 (by omega)
    obtain ⟨j, rfl⟩ := Int.eq_ofNat_of_zero_le x0
    have hf1 := hd1.fz
    obtain ⟨p, e1, _⟩ := get_sp (l := l) (i := j) (by omega)
    simp -implicitDefEqProofs (disch := first | assumption | exact st_no | exact st_v | exact fst_no | omega) only [xs1, xs2, xs3, rd, rds, vals, cont, Sl.cont, D.fz, fzL, cmpD, ordD, eqD_int, eqD_in, eqD_ni, eqD_nn, eqD_bb, isD, D.isNon, idx_tup, idx_lst, idx_ro, idx_own, addI, subI, fdivD, modD, negD, truD, bltD, lenD_items, listD, tupleD, absD_int, intD, tyD, D.items, D.isL, mutD, appD, extD, mutArgs, argsOf, argOf, lentS, places, back, backOne, outs, setL, ownAt, parS, lock, unlock, wipeS, putBack, free_zero, free_succ, fst_no, fst_v, rngOf1, rngOf2, srcOf, kit_bb, wp_some, retq_rt, retq_nx, turn_nx, turn_ct, turnp_nx, turnp_ct, turnp_rt, turnp_bk, Option.toList, Int.zero_add, Int.sub_zero, List.getElem?_cons_succ, List.getElem?_cons_zero, List.set_cons_succ, List.set_cons_zero, Option.bind_some, Option.map_some, if_true, if_false, decide_true, decide_false, Bool.false_eq_true, store_zero, store_succ, st_no, st_v, atI_pos, ix50, ix51, ix52, ix53, ix54, ixN_pos, Option.bind_some, List.nodup_nil, List.nodup_cons, List.mem_cons, List.not_mem_nil, or_false, or_true, false_or, not_false_eq_true, not_true, and_self, and_true, true_and, Bool.and_true, Bool.true_and, Bool.and_self, Bool.and_false, Bool.false_and, Bool.not_true, Bool.not_false, List.length_cons, List.length_nil, List.cons_append, List.nil_append, List.replicate, Out.map, List.append_eq, List.all_cons, List.all_nil, decide_not, ne_eq, lim_lit, List.length_map, Int.reduceLE, Int.reduceLT, Int.reduceToNat, Nat.reduceAdd, Nat.reduceSub, Nat.reduceLeDiff, Nat.reduceEqDiff, Int.reduceNeg, Int.reduceEq, Nat.reduceLT, Nat.reduceMul, mulI, fdivI, rngI1, rngI2, Int.cast_ofNat_Int, Int.toNat_natCast, Option.bind_none, Option.map_none, Int.reduceAdd, Int.reduceSub, hf1, fy, fz_sp, h4, e1]
    repeat with_reducible refine wp_b ?_
    refine wp_mono (draw_ok (m := 3) hd1 (by omega) (by omega)) ?_
    rintro _ ⟨y, d2, rfl, _, _, hd2⟩
    have hf2 := hd2.fz
    simp -implicitDefEqProofs (disch := first | assumption | exact st_no | exact st_v | exact fst_no | omega) only [xs1, xs2, xs3, rd, rds, vals, cont, Sl.cont, D.fz, fzL, cmpD, ordD, eqD_int, eqD_in, eqD_ni, eqD_nn, eqD_bb, isD, D.isNon, idx_tup, idx_lst, idx_ro, idx_own, addI, subI, fdivD, modD, negD, truD, bltD, lenD_items, listD, tupleD, absD_int, intD, tyD, D.items, D.isL, mutD, appD, extD, mutArgs, argsOf, argOf, lentS, places, back, backOne, outs, setL, ownAt, parS, lock, unlock, wipeS, putBack, free_zero, free_succ, fst_no, fst_v, rngOf1, rngOf2, srcOf, kit_bb, wp_some, retq_rt, retq_nx, turn_nx, turn_ct, turnp_nx, turnp_ct, turnp_rt, turnp_bk, Option.toList, Int.zero_add, Int.sub_zero, List.getElem?_cons_succ, List.getElem?_cons_zero, List.set_cons_succ, List.set_cons_zero, Option.bind_some, Option.map_some, if_true, if_false, decide_true, decide_false, Bool.false_eq_true, store_zero, store_succ, st_no, st_v, atI_pos, ix50, ix51, ix52, ix53, ix54, ixN_pos, Option.bind_some, List.nodup_nil, List.nodup_cons, List.mem_cons, List.not_mem_nil, or_false, or_true, false_or, not_false_eq_true, not_true, and_self, and_true, true_and, Bool.and_true, Bool.true_and, Bool.and_self, Bool.and_false, Bool.false_and, Bool.not_true, Bool.not_false, List.length_cons, List.length_nil, List.cons_append, List.nil_append, List.replicate, Out.map, List.append_eq, List.all_cons, List.all_nil, decide_not, ne_eq, lim_lit, List.length_map, Int.reduceLE, Int.reduceLT, Int.reduceToNat, Nat.reduceAdd, Nat.reduceSub, Nat.reduceLeDiff, Nat.reduceEqDiff, Int.reduceNeg, Int.reduceEq, Nat.reduceLT, Nat.reduceMul, mulI, fdivI, rngI1, rngI2, Int.cast_ofNat_Int, Int.toNat_natCast, Option.bind_none, Option.map_none, Int.reduceAdd, Int.reduceSub, hf2, fy, fz_sp, h5, e1]
    repeat with_reducible refine wp_b ?_
    refine wp_mono (draw_ok (m := 3) hd2 (by omega) (by omega)) ?_
    rintro _ ⟨z, d3, rfl, _, _, hd3⟩
    have hf3 := hd3.fz
    have e2 := put_eq (k := k + 2) (l := l.map spD) (p := j) (t := spD (p.1 + y - 1, p.2 + z - 1)) (by simp; omega) (fz_sp l) rfl (by simp; omega)
    rw [← List.map_take, ← List.map_drop, ← List.map_cons, ← List.map_append] at e2
    have hl2 : (l.take j ++ (p.1 + y - 1, p.2 + z - 1) :: l.drop (j + 1)).length = n := by simp; omega
    generalize l.take j ++ (p.1 + y - 1, p.2 + z - 1) :: l.drop (j + 1) = l2 at e2 hl2
    rw [show spD (p.1 + y - 1, p.2 + z - 1) = .tup [.int (p.1 + y - 1), .int (p.2 + z - 1)] from rfl] at e2
    obtain ⟨c, hc⟩ := eq_some (lay_log (l := l2)) (lay_log (l := l))
    simp -implicitDefEqProofs (disch := first | assumption | exact st_no | exact st_v | exact fst_no | omega) only [xs1, xs2, xs3, rd, rds, vals, cont, Sl.cont, D.fz, fzL, cmpD, ordD, eqD_int, eqD_in, eqD_ni, eqD_nn, eqD_bb, isD, D.isNon, idx_tup, idx_lst, idx_ro, idx_own, addI, subI, fdivD, modD, negD, truD, bltD, lenD_items, listD, tupleD, absD_int, intD, tyD, D.items, D.isL, mutD, appD, extD, mutArgs, argsOf, argOf, lentS, places, back, backOne, outs, setL, ownAt, parS, lock, unlock, wipeS, putBack, free_zero, free_succ, fst_no, fst_v, rngOf1, rngOf2, srcOf, kit_bb, wp_some, retq_rt, retq_nx, turn_nx, turn_ct, turnp_nx, turnp_ct, turnp_rt, turnp_bk, Option.toList, Int.zero_add, Int.sub_zero, List.getElem?_cons_succ, List.getElem?_cons_zero, List.set_cons_succ, List.set_cons_zero, Option.bind_some, Option.map_some, if_true, if_false, decide_true, decide_false, Bool.false_eq_true, store_zero, store_succ, st_no, st_v, atI_pos, ix50, ix51, ix52, ix53, ix54, ixN_pos, Option.bind_some, List.nodup_nil, List.nodup_cons, List.mem_cons, List.not_mem_nil, or_false, or_true, false_or, not_false_eq_true, not_true, and_self, and_true, true_and, Bool.and_true, Bool.true_and, Bool.and_self, Bool.and_false, Bool.false_and, Bool.not_true, Bool.not_false, List.length_cons, List.length_nil, List.cons_append, List.nil_append, List.replicate, Out.map, List.append_eq, List.all_cons, List.all_nil, decide_not, ne_eq, lim_lit, List.length_map, Int.reduceLE, Int.reduceLT, Int.reduceToNat, Nat.reduceAdd, Nat.reduceSub, Nat.reduceLeDiff, Nat.reduceEqDiff, Int.reduceNeg, Int.reduceEq, Nat.reduceLT, Nat.reduceMul, mulI, fdivI, rngI1, rngI2, Int.cast_ofNat_Int, Int.toNat_natCast, Option.bind_none, Option.map_none, Int.reduceAdd, Int.reduceSub, hf3, fy, fz_sp, h6, e2, hc]
    cases c with
    | true =>
      simp -implicitDefEqProofs (disch := first | assumption | exact st_no | exact st_v | exact fst_no | omega) only [xs1, xs2, xs3, rd, rds, vals, cont, Sl.cont, D.fz, fzL, cmpD, ordD, eqD_int, eqD_in, eqD_ni, eqD_nn, eqD_bb, isD, D.isNon, idx_tup, idx_lst, idx_ro, idx_own, addI, subI, fdivD, modD, negD, truD, bltD, lenD_items, listD, tupleD, absD_int, intD, tyD, D.items, D.isL, mutD, appD, extD, mutArgs, argsOf, argOf, lentS, places, back, backOne, outs, setL, ownAt, parS, lock, unlock, wipeS, putBack, free_zero, free_succ, fst_no, fst_v, rngOf1, rngOf2, srcOf, kit_bb, wp_some, retq_rt, retq_nx, turn_nx, turn_ct, turnp_nx, turnp_ct, turnp_rt, turnp_bk, Option.toList, Int.zero_add, Int.sub_zero, List.getElem?_cons_succ, List.getElem?_cons_zero, List.set_cons_succ, List.set_cons_zero, Option.bind_some, Option.map_some, if_true, if_false, decide_true, decide_false, Bool.false_eq_true, store_zero, store_succ, st_no, st_v, atI_pos, ix50, ix51, ix52, ix53, ix54, ixN_pos, Option.bind_some, List.nodup_nil, List.nodup_cons, List.mem_cons, List.not_mem_nil, or_false, or_true, false_or, not_false_eq_true, not_true, and_self, and_true, true_and, Bool.and_true, Bool.true_and, Bool.and_self, Bool.and_false, Bool.false_and, Bool.not_true, Bool.not_false, List.length_cons, List.length_nil, List.cons_append, List.nil_append, List.replicate, Out.map, List.append_eq, List.all_cons, List.all_nil, decide_not, ne_eq, lim_lit, List.length_map, Int.reduceLE, Int.reduceLT, Int.reduceToNat, Nat.reduceAdd, Nat.reduceSub, Nat.reduceLeDiff, Nat.reduceEqDiff, Int.reduceNeg, Int.reduceEq, Nat.reduceLT, Nat.reduceMul, mulI, fdivI, rngI1, rngI2, Int.cast_ofNat_Int, Int.toNat_natCast, Option.bind_none, Option.map_none, Int.reduceAdd, Int.reduceSub, hf3, fy, fz_sp]
      exact ⟨d3, _, _, _, _, rfl, st_v, st_v, st_v, st_v, hd3.mono (by omega)⟩
    | false =>
      simp -implicitDefEqProofs (disch := first | assumption | exact st_no | exact st_v | exact fst_no | omega) only [xs1, xs2, xs3, rd, rds, vals, cont, Sl.cont, D.fz, fzL, cmpD, ordD, eqD_int, eqD_in, eqD_ni, eqD_nn, eqD_bb, isD, D.isNon, idx_tup, idx_lst, idx_ro, idx_own, addI, subI, fdivD, modD, negD, truD, bltD, lenD_items, listD, tupleD, absD_int, intD, tyD, D.items, D.isL, mutD, appD, extD, mutArgs, argsOf, argOf, lentS, places, back, backOne, outs, setL, ownAt, parS, lock, unlock, wipeS, putBack, free_zero, free_succ, fst_no, fst_v, rngOf1, rngOf2, srcOf, kit_bb, wp_some, retq_rt, retq_nx, turn_nx, turn_ct, turnp_nx, turnp_ct, turnp_rt, turnp_bk, Option.toList, Int.zero_add, Int.sub_zero, List.getElem?_cons_succ, List.getElem?_cons_zero, List.set_cons_succ, List.set_cons_zero, Option.bind_some, Option.map_some, if_true, if_false, decide_true, decide_false, Bool.false_eq_true, store_zero, store_succ, st_no, st_v, atI_pos, ix50, ix51, ix52, ix53, ix54, ixN_pos, Option.bind_some, List.nodup_nil, List.nodup_cons, List.mem_cons, List.not_mem_nil, or_false, or_true, false_or, not_false_eq_true, not_true, and_self, and_true, true_and, Bool.and_true, Bool.true_and, Bool.and_self, Bool.and_false, Bool.false_and, Bool.not_true, Bool.not_false, List.length_cons, List.length_nil, List.cons_append, List.nil_append, List.replicate, Out.map, List.append_eq, List.all_cons, List.all_nil, decide_not, ne_eq, lim_lit, List.length_map, Int.reduceLE, Int.reduceLT, Int.reduceToNat, Nat.reduceAdd, Nat.reduceSub, Nat.reduceLeDiff, Nat.reduceEqDiff, Int.reduceNeg, Int.reduceEq, Nat.reduceLT, Nat.reduceMul, mulI, fdivI, rngI1, rngI2, Int.cast_ofNat_Int, Int.toNat_natCast, Option.bind_none, Option.map_none, Int.reduceAdd, Int.reduceSub, hf3, fy, fz_sp]
      repeat with_reducible refine wp_b ?_
      refine wp_mono (islog_ok (k := k) hy ⟨l2, rfl, hl2⟩) ?_
      rintro _ ⟨b, rfl⟩
      cases b with
      | true =>
        simp -implicitDefEqProofs (disch := first | assumption | exact st_no | exact st_v | exact fst_no | omega) only [xs1, xs2, xs3, rd, rds, vals, cont, Sl.cont, D.fz, fzL, cmpD, ordD, eqD_int, eqD_in, eqD_ni, eqD_nn, eqD_bb, isD, D.isNon, idx_tup, idx_lst, idx_ro, idx_own, addI, subI, fdivD, modD, negD, truD, bltD, lenD_items, listD, tupleD, absD_int, intD, tyD, D.items, D.isL, mutD, appD, extD, mutArgs, argsOf, argOf, lentS, places, back, backOne, outs, setL, ownAt, parS, lock, unlock, wipeS, putBack, free_zero, free_succ, fst_no, fst_v, rngOf1, rngOf2, srcOf, kit_bb, wp_some, retq_rt, retq_nx, turn_nx, turn_ct, turnp_nx, turnp_ct, turnp_rt, turnp_bk, Option.toList, Int.zero_add, Int.sub_zero, List.getElem?_cons_succ, List.getElem?_cons_zero, List.set_cons_succ, List.set_cons_zero, Option.bind_some, Option.map_some, if_true, if_false, decide_true, decide_false, Bool.false_eq_true, store_zero, store_succ, st_no, st_v, atI_pos, ix50, ix51, ix52, ix53, ix54, ixN_pos, Option.bind_some, List.nodup_nil, List.nodup_cons, List.mem_cons, List.not_mem_nil, or_false, or_true, false_or, not_false_eq_true, not_true, and_self, and_true, true_and, Bool.and_true, Bool.true_and, Bool.and_self, Bool.and_false, Bool.false_and, Bool.not_true, Bool.not_false, List.length_cons, List.length_nil, List.cons_append, List.nil_append, List.replicate, Out.map, List.append_eq, List.all_cons, List.all_nil, decide_not, ne_eq, lim_lit, List.length_map, Int.reduceLE, Int.reduceLT, Int.reduceToNat, Nat.reduceAdd, Nat.reduceSub, Nat.reduceLeDiff, Nat.reduceEqDiff, Int.reduceNeg, Int.reduceEq, Nat.reduceLT, Nat.reduceMul, mulI, fdivI, rngI1, rngI2, Int.cast_ofNat_Int, Int.toNat_natCast, Option.bind_none, Option.map_none, Int.reduceAdd, Int.reduceSub, hf3, fy, fz_sp]
        have hi6 : i < 6 := by omega
        exact ⟨_, d3, rfl, ⟨l2, rfl, hl2⟩, hd3.mono (by omega)⟩
      | false =>
        simp -implicitDefEqProofs (disch := first | assumption | exact st_no | exact st_v | exact fst_no | omega) only [xs1, xs2, xs3, rd, rds, vals, cont, Sl.cont, D.fz, fzL, cmpD, ordD, eqD_int, eqD_in, eqD_ni, eqD_nn, eqD_bb, isD, D.isNon, idx_tup, idx_lst, idx_ro, idx_own, addI, subI, fdivD, modD, negD, truD, bltD, lenD_items, listD, tupleD, absD_int, intD, tyD, D.items, D.isL, mutD, appD, extD, mutArgs, argsOf, argOf, lentS, places, back, backOne, outs, setL, ownAt, parS, lock, unlock, wipeS, putBack, free_zero, free_succ, fst_no, fst_v, rngOf1, rngOf2, srcOf, kit_bb, wp_some, retq_rt, retq_nx, turn_nx, turn_ct, turnp_nx, turnp_ct, turnp_rt, turnp_bk, Option.toList, Int.zero_add, Int.sub_zero, List.getElem?_cons_succ, List.getElem?_cons_zero, List.set_cons_succ, List.set_cons_zero, Option.bind_some, Option.map_some, if_true, if_false, decide_true, decide_false, Bool.false_eq_true, store_zero, store_succ, st_no, st_v, atI_pos, ix50, ix51, ix52, ix53, ix54, ixN_pos, Option.bind_some, List.nodup_nil, List.nodup_cons, List.mem_cons, List.not_mem_nil, or_false, or_true, false_or, not_false_eq_true, not_true, and_self, and_true, true_and, Bool.and_true, Bool.true_and, Bool.and_self, Bool.and_false, Bool.false_and, Bool.not_true, Bool.not_false, List.length_cons, List.length_nil, List.cons_append, List.nil_append, List.replicate, Out.map, List.append_eq, List.all_cons, List.all_nil, decide_not, ne_eq, lim_lit, List.length_map, Int.reduceLE, Int.reduceLT, Int.reduceToNat, Nat.reduceAdd, Nat.reduceSub, Nat.reduceLeDiff, Nat.reduceEqDiff, Int.reduceNeg, Int.reduceEq, Nat.reduceLT, Nat.reduceMul, mulI, fdivI, rngI1, rngI2, Int.cast_ofNat_Int, Int.toNat_natCast, Option.bind_none, Option.map_none, Int.reduceAdd, Int.reduceSub, hf3, fy, fz_sp]
        exact ⟨d3, _, _, _, _, rfl, st_v, st_v, st_v, st_v, hd3.mono (by omega)⟩
  · rintro _ ⟨d0, s3, s4, s5, s6, rfl, h3, h4, h5, h6, hd0⟩
    rw [rngd_len] at hd0
    have hf0 := hd0.fz
    simp -implicitDefEqProofs (disch := first | assumption | exact st_no | exact st_v | exact fst_no | omega) only [xs1, xs2, xs3, rd, rds, vals, cont, Sl.cont, D.fz, fzL, cmpD, ordD, eqD_int, eqD_in, eqD_ni, eqD_nn, eqD_bb, isD, D.isNon, idx_tup, idx_lst, idx_ro, idx_own, addI, subI, fdivD, modD, negD, truD, bltD, lenD_items, listD, tupleD, absD_int, intD, tyD, D.items, D.isL, mutD, appD, extD, mutArgs, argsOf, argOf, lentS, places, back, backOne, outs, setL, ownAt, parS, lock, unlock, wipeS, putBack, free_zero, free_succ, fst_no, fst_v, rngOf1, rngOf2, srcOf, kit_bb, wp_some, retq_rt, retq_nx, turn_nx, turn_ct, turnp_nx, turnp_ct, turnp_rt, turnp_bk, Option.toList, Int.zero_add, Int.sub_zero, List.getElem?_cons_succ, List.getElem?_cons_zero, List.set_cons_succ, List.set_cons_zero, Option.bind_some, Option.map_some, if_true, if_false, decide_true, decide_false, Bool.false_eq_true, store_zero, store_succ, st_no, st_v, atI_pos, ix50, ix51, ix52, ix53, ix54, ixN_pos, Option.bind_some, List.nodup_nil, List.nodup_cons, List.mem_cons, List.not_mem_nil, or_false, or_true, false_or, not_false_eq_true, not_true, and_self, and_true, true_and, Bool.and_true, Bool.true_and, Bool.and_self, Bool.and_false, Bool.false_and, Bool.not_true, Bool.not_false, List.length_cons, List.length_nil, List.cons_append, List.nil_append, List.replicate, Out.map, List.append_eq, List.all_cons, List.all_nil, decide_not, ne_eq, lim_lit, List.length_map, Int.reduceLE, Int.reduceLT, Int.reduceToNat, Nat.reduceAdd, Nat.reduceSub, Nat.reduceLeDiff, Nat.reduceEqDiff, Int.reduceNeg, Int.reduceEq, Nat.reduceLT, Nat.reduceMul, mulI, fdivI, rngI1, rngI2, Int.cast_ofNat_Int, Int.toNat_natCast, Option.bind_none, Option.map_none, Int.reduceAdd, Int.reduceSub, hf0, fy]
    repeat with_reducible refine wp_b ?_
    refine wp_mono (linked_ok (k := k) hd0 (by omega) hy) ?_
    rintro _ ⟨log, d1, rfl, hlog, hd1⟩
    have hf1 := hd1.fz
    obtain ⟨l3, rfl, hl3⟩ := hlog
    simp -implicitDefEqProofs (disch := first | assumption | exact st_no | exact st_v | exact fst_no | omega) only [xs1, xs2, xs3, rd, rds, vals, cont, Sl.cont, D.fz, fzL, cmpD, ordD, eqD_int, eqD_in, eqD_ni, eqD_nn, eqD_bb, isD, D.isNon, idx_tup, idx_lst, idx_ro, idx_own, addI, subI, fdivD, modD, negD, truD, bltD, lenD_items, listD, tupleD, absD_int, intD, tyD, D.items, D.isL, mutD, appD, extD, mutArgs, argsOf, argOf, lentS, places, back, backOne, outs, setL, ownAt, parS, lock, unlock, wipeS, putBack, free_zero, free_succ, fst_no, fst_v, rngOf1, rngOf2, srcOf, kit_bb, wp_some, retq_rt, retq_nx, turn_nx, turn_ct, turnp_nx, turnp_ct, turnp_rt, turnp_bk, Option.toList, Int.zero_add, Int.sub_zero, List.getElem?_cons_succ, List.getElem?_cons_zero, List.set_cons_succ, List.set_cons_zero, Option.bind_some, Option.map_some, if_true, if_false, decide_true, decide_false, Bool.false_eq_true, store_zero, store_succ, st_no, st_v, atI_pos, ix50, ix51, ix52, ix53, ix54, ixN_pos, Option.bind_some, List.nodup_nil, List.nodup_cons, List.mem_cons, List.not_mem_nil, or_false, or_true, false_or, not_false_eq_true, not_true, and_self, and_true, true_and, Bool.and_true, Bool.true_and, Bool.and_self, Bool.and_false, Bool.false_and, Bool.not_true, Bool.not_false, List.length_cons, List.length_nil, List.cons_append, List.nil_append, List.replicate, Out.map, List.append_eq, List.all_cons, List.all_nil, decide_not, ne_eq, lim_lit, List.length_map, Int.reduceLE, Int.reduceLT, Int.reduceToNat, Nat.reduceAdd, Nat.reduceSub, Nat.reduceLeDiff, Nat.reduceEqDiff, Int.reduceNeg, Int.reduceEq, Nat.reduceLT, Nat.reduceMul, mulI, fdivI, rngI1, rngI2, Int.cast_ofNat_Int, Int.toNat_natCast, Option.bind_none, Option.map_none, Int.reduceAdd, Int.reduceSub, hf1, fy, fz_sp]
    exact ⟨_, d1, rfl, ⟨l3, rfl, hl3⟩, hd1.mono (by omega)⟩
end
end K09


set_option maxRecDepth 100000
set_option maxHeartbeats 4000000
namespace K09
open PySem Co
theorem wp_if {α : Type} {P : α → Prop} {c : Prop} {_ : Decidable c} {a b : Option α} (h1 : c → Wp P a) (h2 : ¬ c → Wp P b) : Wp P (if c then a else b) := by
  split
  · exact h1 ‹_›
  · exact h2 ‹_›
/-- the place of a work -/
def fi (ws : List Wk) (x : Str) : Nat := ws.findIdx fun w => w.nm == x
theorem fi_lt {ws : List Wk} {x : Str} (h : ∃ w ∈ ws, w.nm = x) : fi ws x < ws.length := by
  obtain ⟨w, hw, e⟩ := h
  exact List.findIdx_lt_length_of_exists ⟨w, hw, by simp [e]⟩
theorem idxF_fi {x : Str} : ∀ {ws : List Wk}, (∃ w ∈ ws, w.nm = x) → idxF (.str x) (ws.map fun w => D.str w.nm) = some (fi ws x)
  | [], ⟨w, hw, _⟩ => nomatch hw
  | a :: ws, ⟨w, hw, e⟩ => by
    have ih := fun hw => idxF_fi (x := x) (ws := ws) hw
    show (if eqF (.str a.nm) (.str x) = true then some 0 else (idxF (.str x) (ws.map fun w => D.str w.nm)).map (· + 1)) = some (List.findIdx _ (a :: ws))
    have e0 : eqF (.str a.nm) (.str x) = (a.nm == x) := rfl
    rw [List.findIdx_cons, e0]
    cases h : (a.nm == x) with
    | true => rfl
    | false =>
      rcases List.mem_cons.mp hw with rfl | hw
      · rw [e, beq_self_eq_true] at h; cases h
      · rw [ih ⟨w, hw, e⟩]
        rfl
theorem flat_names (ws : List Wk) : (ws.map fun w => D.str w.nm).all D.flat = true := by
  rw [List.all_map]
  exact List.all_eq_true.mpr fun _ _ => rfl
theorem index_fi {ws : List Wk} {x : Str} (h : ∃ w ∈ ws, w.nm = x) : indexD (ws.map fun w => D.str w.nm) (.str x) = some (.int (fi ws x)) := by
  unfold indexD
  rw [flat_names, idxF_fi h]
  rfl
section
variable {k n B : Nat} {hor : Int} {ws : List Wk} {pr : List D} {hs : List Hm} {day d : D}
theorem lnumber {x : Str} (hy : DayD n hor ws pr hs day) (hx : ∃ w ∈ ws, w.nm = x) : evF T 1000 (k + 1) 15 [.v day, .v (.str x)] = some (.int (fi ws x), [.no, .no]) := by
  refine wp_eq.mp (evF_wp T__law_number rfl ?_)
  have fy := hy.fz
  have i3 := hy.i3
  have fw := fz_wk ws
  have e1 := index_fi hx
  simp -implicitDefEqProofs (disch := first | assumption | exact st_no | exact st_v | exact fst_no | omega) only [xs1, xs2, xs3, rd, rds, vals, cont, Sl.cont, D.fz, fzL, cmpD, ordD, eqD_int, eqD_in, eqD_ni, eqD_nn, eqD_bb, isD, D.isNon, idx_tup, idx_lst, idx_ro, idx_own, addI, subI, fdivD, modD, negD, truD, bltD, lenD_items, listD, tupleD, absD_int, intD, tyD, D.items, D.isL, mutD, appD, extD, mutArgs, argsOf, argOf, lentS, places, back, backOne, outs, setL, ownAt, parS, lock, unlock, wipeS, putBack, free_zero, free_succ, fst_no, fst_v, rngOf1, rngOf2, srcOf, kit_bb, wp_some, retq_rt, retq_nx, turn_nx, turn_ct, turnp_nx, turnp_ct, turnp_rt, turnp_bk, Option.toList, Int.zero_add, Int.sub_zero, List.getElem?_cons_succ, List.getElem?_cons_zero, List.set_cons_succ, List.set_cons_zero, Option.bind_some, Option.map_some, if_true, if_false, decide_true, decide_false, Bool.false_eq_true, store_zero, store_succ, st_no, st_v, atI_pos, ix50, ix51, ix52, ix53, ix54, ixN_pos, Option.bind_some, List.nodup_nil, List.nodup_cons, List.mem_cons, List.not_mem_nil, or_false, or_true, false_or, not_false_eq_true, not_true, and_self, and_true, true_and, Bool.and_true, Bool.true_and, Bool.and_self, Bool.and_false, Bool.false_and, Bool.not_true, Bool.not_false, List.length_cons, List.length_nil, List.cons_append, List.nil_append, List.replicate, Out.map, List.append_eq, List.all_cons, List.all_nil, decide_not, ne_eq, lim_lit, List.length_map, Int.reduceLE, Int.reduceLT, Int.reduceToNat, Nat.reduceAdd, Nat.reduceSub, Nat.reduceLeDiff, Nat.reduceEqDiff, Int.reduceNeg, Int.reduceEq, Nat.reduceLT, Nat.reduceMul, mulI, fdivI, rngI1, rngI2, Int.cast_ofNat_Int, Int.toNat_natCast, Option.bind_none, Option.map_none, Int.reduceAdd, Int.reduceSub, b__law_number, *]
  repeat with_reducible refine wp_b ?_
  refine wp_mono (wp_cmap (f := workD) (fun w => D.str w.nm) (by have := hy.n1; have := hy.wl; omega) ?_) ?_
  · intro w _
    simp -implicitDefEqProofs (disch := first | assumption | exact st_no | exact st_v | exact fst_no | omega) only [xs1, xs2, xs3, rd, rds, vals, cont, Sl.cont, D.fz, fzL, cmpD, ordD, eqD_int, eqD_in, eqD_ni, eqD_nn, eqD_bb, isD, D.isNon, idx_tup, idx_lst, idx_ro, idx_own, addI, subI, fdivD, modD, negD, truD, bltD, lenD_items, listD, tupleD, absD_int, intD, tyD, D.items, D.isL, mutD, appD, extD, mutArgs, argsOf, argOf, lentS, places, back, backOne, outs, setL, ownAt, parS, lock, unlock, wipeS, putBack, free_zero, free_succ, fst_no, fst_v, rngOf1, rngOf2, srcOf, kit_bb, wp_some, retq_rt, retq_nx, turn_nx, turn_ct, turnp_nx, turnp_ct, turnp_rt, turnp_bk, Option.toList, Int.zero_add, Int.sub_zero, List.getElem?_cons_succ, List.getElem?_cons_zero, List.set_cons_succ, List.set_cons_zero, Option.bind_some, Option.map_some, if_true, if_false, decide_true, decide_false, Bool.false_eq_true, store_zero, store_succ, st_no, st_v, atI_pos, ix50, ix51, ix52, ix53, ix54, ixN_pos, Option.bind_some, List.nodup_nil, List.nodup_cons, List.mem_cons, List.not_mem_nil, or_false, or_true, false_or, not_false_eq_true, not_true, and_self, and_true, true_and, Bool.and_true, Bool.true_and, Bool.and_self, Bool.and_false, Bool.false_and, Bool.not_true, Bool.not_false, List.length_cons, List.length_nil, List.cons_append, List.nil_append, List.replicate, Out.map, List.append_eq, List.all_cons, List.all_nil, decide_not, ne_eq, lim_lit, List.length_map, Int.reduceLE, Int.reduceLT, Int.reduceToNat, Nat.reduceAdd, Nat.reduceSub, Nat.reduceLeDiff, Nat.reduceEqDiff, Int.reduceNeg, Int.reduceEq, Nat.reduceLT, Nat.reduceMul, mulI, fdivI, rngI1, rngI2, Int.cast_ofNat_Int, Int.toNat_natCast, Option.bind_none, Option.map_none, Int.reduceAdd, Int.reduceSub, compTu, workD, *]
  · rintro _ rfl
    simp -implicitDefEqProofs (disch := first | assumption | exact st_no | exact st_v | exact fst_no | omega) only [xs1, xs2, xs3, rd, rds, vals, cont, Sl.cont, D.fz, fzL, cmpD, ordD, eqD_int, eqD_in, eqD_ni, eqD_nn, eqD_bb, isD, D.isNon, idx_tup, idx_lst, idx_ro, idx_own, addI, subI, fdivD, modD, negD, truD, bltD, lenD_items, listD, tupleD, absD_int, intD, tyD, D.items, D.isL, mutD, appD, extD, mutArgs, argsOf, argOf, lentS, places, back, backOne, outs, setL, ownAt, parS, lock, unlock, wipeS, putBack, free_zero, free_succ, fst_no, fst_v, rngOf1, rngOf2, srcOf, kit_bb, wp_some, retq_rt, retq_nx, turn_nx, turn_ct, turnp_nx, turnp_ct, turnp_rt, turnp_bk, Option.toList, Int.zero_add, Int.sub_zero, List.getElem?_cons_succ, List.getElem?_cons_zero, List.set_cons_succ, List.set_cons_zero, Option.bind_some, Option.map_some, if_true, if_false, decide_true, decide_false, Bool.false_eq_true, store_zero, store_succ, st_no, st_v, atI_pos, ix50, ix51, ix52, ix53, ix54, ixN_pos, Option.bind_some, List.nodup_nil, List.nodup_cons, List.mem_cons, List.not_mem_nil, or_false, or_true, false_or, not_false_eq_true, not_true, and_self, and_true, true_and, Bool.and_true, Bool.true_and, Bool.and_self, Bool.and_false, Bool.false_and, Bool.not_true, Bool.not_false, List.length_cons, List.length_nil, List.cons_append, List.nil_append, List.replicate, Out.map, List.append_eq, List.all_cons, List.all_nil, decide_not, ne_eq, lim_lit, List.length_map, Int.reduceLE, Int.reduceLT, Int.reduceToNat, Nat.reduceAdd, Nat.reduceSub, Nat.reduceLeDiff, Nat.reduceEqDiff, Int.reduceNeg, Int.reduceEq, Nat.reduceLT, Nat.reduceMul, mulI, fdivI, rngI1, rngI2, Int.cast_ofNat_Int, Int.toNat_natCast, Option.bind_none, Option.map_none, Int.reduceAdd, Int.reduceSub, ixA, D.lsts, *]
theorem wnumber {x : Str} (hy : DayD n hor ws pr hs day) (hx : ∃ w ∈ ws, w.nm = x) (hok : PyData.strOk x = true) : evF T 1000 (k + 1) 0 [.v day, .v (.str x)] = some (.int (fi ws x), [.no, .no]) := by
  refine wp_eq.mp (evF_wp T_work_number rfl ?_)
  have fy := hy.fz
  have i3 := hy.i3
  have fw := fz_wk ws
  simp -implicitDefEqProofs (disch := first | assumption | exact st_no | exact st_v | exact fst_no | omega) only [xs1, xs2, xs3, rd, rds, vals, cont, Sl.cont, D.fz, fzL, cmpD, ordD, eqD_int, eqD_in, eqD_ni, eqD_nn, eqD_bb, isD, D.isNon, idx_tup, idx_lst, idx_ro, idx_own, addI, subI, fdivD, modD, negD, truD, bltD, lenD_items, listD, tupleD, absD_int, intD, tyD, D.items, D.isL, mutD, appD, extD, mutArgs, argsOf, argOf, lentS, places, back, backOne, outs, setL, ownAt, parS, lock, unlock, wipeS, putBack, free_zero, free_succ, fst_no, fst_v, rngOf1, rngOf2, srcOf, kit_bb, wp_some, retq_rt, retq_nx, turn_nx, turn_ct, turnp_nx, turnp_ct, turnp_rt, turnp_bk, Option.toList, Int.zero_add, Int.sub_zero, List.getElem?_cons_succ, List.getElem?_cons_zero, List.set_cons_succ, List.set_cons_zero, Option.bind_some, Option.map_some, if_true, if_false, decide_true, decide_false, Bool.false_eq_true, store_zero, store_succ, st_no, st_v, atI_pos, ix50, ix51, ix52, ix53, ix54, ixN_pos, Option.bind_some, List.nodup_nil, List.nodup_cons, List.mem_cons, List.not_mem_nil, or_false, or_true, false_or, not_false_eq_true, not_true, and_self, and_true, true_and, Bool.and_true, Bool.true_and, Bool.and_self, Bool.and_false, Bool.false_and, Bool.not_true, Bool.not_false, List.length_cons, List.length_nil, List.cons_append, List.nil_append, List.replicate, Out.map, List.append_eq, List.all_cons, List.all_nil, decide_not, ne_eq, lim_lit, List.length_map, Int.reduceLE, Int.reduceLT, Int.reduceToNat, Nat.reduceAdd, Nat.reduceSub, Nat.reduceLeDiff, Nat.reduceEqDiff, Int.reduceNeg, Int.reduceEq, Nat.reduceLT, Nat.reduceMul, mulI, fdivI, rngI1, rngI2, Int.cast_ofNat_Int, Int.toNat_natCast, Option.bind_none, Option.map_none, Int.reduceAdd, Int.reduceSub, b_work_number, *]
  repeat with_reducible refine wp_b ?_
  refine wp_forE (f := workD) (fun i ρ => ∃ s2 s3, ρ = [.v day, .v (.str x), s2, s3] ∧ St s2 ∧ St s3 ∧ i ≤ fi ws x) ?_ ?_ ?_
  · exact ⟨_, _, rfl, st_no, st_no, Nat.zero_le _⟩
  · rintro i w _ hi hil hw ⟨s2, s3, rfl, h2, h3, hle⟩
    have e := str_eq (hy.wk w hw).n hok
    unfold workD
    have hwi : ws[i] = w := (List.getElem?_eq_some_iff.mp hi).2
    cases hc : (w.nm == x)
    · rw [hc] at e
      simp -implicitDefEqProofs (disch := first | assumption | exact st_no | exact st_v | exact fst_no | omega) only [xs1, xs2, xs3, rd, rds, vals, cont, Sl.cont, D.fz, fzL, cmpD, ordD, eqD_int, eqD_in, eqD_ni, eqD_nn, eqD_bb, isD, D.isNon, idx_tup, idx_lst, idx_ro, idx_own, addI, subI, fdivD, modD, negD, truD, bltD, lenD_items, listD, tupleD, absD_int, intD, tyD, D.items, D.isL, mutD, appD, extD, mutArgs, argsOf, argOf, lentS, places, back, backOne, outs, setL, ownAt, parS, lock, unlock, wipeS, putBack, free_zero, free_succ, fst_no, fst_v, rngOf1, rngOf2, srcOf, kit_bb, wp_some, retq_rt, retq_nx, turn_nx, turn_ct, turnp_nx, turnp_ct, turnp_rt, turnp_bk, Option.toList, Int.zero_add, Int.sub_zero, List.getElem?_cons_succ, List.getElem?_cons_zero, List.set_cons_succ, List.set_cons_zero, Option.bind_some, Option.map_some, if_true, if_false, decide_true, decide_false, Bool.false_eq_true, store_zero, store_succ, st_no, st_v, atI_pos, ix50, ix51, ix52, ix53, ix54, ixN_pos, Option.bind_some, List.nodup_nil, List.nodup_cons, List.mem_cons, List.not_mem_nil, or_false, or_true, false_or, not_false_eq_true, not_true, and_self, and_true, true_and, Bool.and_true, Bool.true_and, Bool.and_self, Bool.and_false, Bool.false_and, Bool.not_true, Bool.not_false, List.length_cons, List.length_nil, List.cons_append, List.nil_append, List.replicate, Out.map, List.append_eq, List.all_cons, List.all_nil, decide_not, ne_eq, lim_lit, List.length_map, Int.reduceLE, Int.reduceLT, Int.reduceToNat, Nat.reduceAdd, Nat.reduceSub, Nat.reduceLeDiff, Nat.reduceEqDiff, Int.reduceNeg, Int.reduceEq, Nat.reduceLT, Nat.reduceMul, mulI, fdivI, rngI1, rngI2, Int.cast_ofNat_Int, Int.toNat_natCast, Option.bind_none, Option.map_none, Int.reduceAdd, Int.reduceSub, forTu, *]
      refine ⟨_, _, rfl, st_v, st_v, ?_⟩
      have : i ≠ fi ws x := by
        rintro rfl
        have h1 : List.findIdx (fun w => w.nm == x) ws < ws.length := fi_lt hx
        have h2 := List.findIdx_getElem (w := h1)
        have hwi : ws[List.findIdx (fun w => w.nm == x) ws]'h1 = w := hwi
        rw [hwi, hc] at h2
        cases h2
      omega
    · rw [hc] at e
      simp -implicitDefEqProofs (disch := first | assumption | exact st_no | exact st_v | exact fst_no | omega) only [xs1, xs2, xs3, rd, rds, vals, cont, Sl.cont, D.fz, fzL, cmpD, ordD, eqD_int, eqD_in, eqD_ni, eqD_nn, eqD_bb, isD, D.isNon, idx_tup, idx_lst, idx_ro, idx_own, addI, subI, fdivD, modD, negD, truD, bltD, lenD_items, listD, tupleD, absD_int, intD, tyD, D.items, D.isL, mutD, appD, extD, mutArgs, argsOf, argOf, lentS, places, back, backOne, outs, setL, ownAt, parS, lock, unlock, wipeS, putBack, free_zero, free_succ, fst_no, fst_v, rngOf1, rngOf2, srcOf, kit_bb, wp_some, retq_rt, retq_nx, turn_nx, turn_ct, turnp_nx, turnp_ct, turnp_rt, turnp_bk, Option.toList, Int.zero_add, Int.sub_zero, List.getElem?_cons_succ, List.getElem?_cons_zero, List.set_cons_succ, List.set_cons_zero, Option.bind_some, Option.map_some, if_true, if_false, decide_true, decide_false, Bool.false_eq_true, store_zero, store_succ, st_no, st_v, atI_pos, ix50, ix51, ix52, ix53, ix54, ixN_pos, Option.bind_some, List.nodup_nil, List.nodup_cons, List.mem_cons, List.not_mem_nil, or_false, or_true, false_or, not_false_eq_true, not_true, and_self, and_true, true_and, Bool.and_true, Bool.true_and, Bool.and_self, Bool.and_false, Bool.false_and, Bool.not_true, Bool.not_false, List.length_cons, List.length_nil, List.cons_append, List.nil_append, List.replicate, Out.map, List.append_eq, List.all_cons, List.all_nil, decide_not, ne_eq, lim_lit, List.length_map, Int.reduceLE, Int.reduceLT, Int.reduceToNat, Nat.reduceAdd, Nat.reduceSub, Nat.reduceLeDiff, Nat.reduceEqDiff, Int.reduceNeg, Int.reduceEq, Nat.reduceLT, Nat.reduceMul, mulI, fdivI, rngI1, rngI2, Int.cast_ofNat_Int, Int.toNat_natCast, Option.bind_none, Option.map_none, Int.reduceAdd, Int.reduceSub, forTu, *]
      have : fi ws x ≤ i := by
        unfold fi
        by_cases h : List.findIdx (fun w => w.nm == x) ws ≤ i
        · exact h
        · have := List.not_of_lt_findIdx (xs := ws) (p := fun w => w.nm == x) (i := i) (by omega)
          rw [hwi] at this
          exact absurd hc (by simpa using this)
      have : i = fi ws x := by omega
      subst this
      trivial
  · rintro _ ⟨s2, s3, rfl, h2, h3, hle⟩
    have := fi_lt hx
    omega
end
/-! ### promises -/
inductive Pr where
  | frm (a : Str) (n : Int) | by_ (a : Str) (n : Int) | hold (a b : Str) (n : Int) | meet (a b : Str) (n : Int)
  | gap (af : Bool) (a b : Str) (l : Int) (h : Option Int)
def optD : Option Int → D
  | none => .non
  | some i => .int i
def prD : Pr → D
  | .frm a n => .tup [.str "from", .str a, .int n]
  | .by_ a n => .tup [.str "by", .str a, .int n]
  | .hold a b n => .tup [.str "hold", .str a, .str b, .int n]
  | .meet a b n => .tup [.str "meet", .str a, .str b, .int n]
  | .gap true a b l h => .tup [.str "after", .str a, .str b, .int l, optD h]
  | .gap false a b l h => .tup [.str "lead", .str a, .str b, .int l, optD h]
theorem fz_opt (o : Option Int) : (optD o).fz = true := by cases o <;> rfl
theorem fz_pr (p : Pr) : (prD p).fz = true := by
  cases p with
  | gap af a b l h => cases af <;> cases h <;> rfl
  | _ => rfl
def Nm (ws : List Wk) (x : Str) : Prop := (∃ w ∈ ws, w.nm = x) ∧ PyData.strOk x = true
def PrOk (ws : List Wk) : Pr → Prop
  | .frm a _ => Nm ws a
  | .by_ a _ => Nm ws a
  | .hold a b _ => Nm ws a ∧ Nm ws b
  | .meet a b _ => Nm ws a ∧ Nm ws b
  | .gap _ a b _ _ => Nm ws a ∧ Nm ws b
def at_ (l : List (Int × Int)) (ws : List Wk) (x : Str) : Int × Int := l.getD (fi ws x) (0, 0)
def keepB (ws : List Wk) (l : List (Int × Int)) : Pr → Bool
  | .frm a n => decide ((at_ l ws a).1 ≥ n)
  | .by_ a n => decide ((at_ l ws a).2 ≤ n)
  | .hold a b n => decide ((at_ l ws b).1 ≥ min (at_ l ws a).2 ((at_ l ws a).1 + n))
  | .meet a b n => decide ((((at_ l ws a).2 - (at_ l ws b).2).natAbs : Int) ≤ n)
  | .gap af a b lo h => decide ((at_ l ws b).1 - (if af then (at_ l ws a).2 else (at_ l ws a).1) ≥ lo) && (match h with | none => true | some h => decide ((at_ l ws b).1 - (if af then (at_ l ws a).2 else (at_ l ws a).1) ≤ h))
theorem at_get {l : List (Int × Int)} {ws : List Wk} {x : Str} (hl : l.length = ws.length) (hx : ∃ w ∈ ws, w.nm = x) : (l.map spD)[fi ws x]? = some (.tup [.int (at_ l ws x).1, .int (at_ l ws x).2]) := by
  have hlt := fi_lt hx
  have hlt2 : fi ws x < l.length := by omega
  unfold at_
  rw [List.getElem?_map, List.getElem?_eq_getElem hlt2, List.getD_eq_getElem?_getD, List.getElem?_eq_getElem hlt2]
  rfl
theorem wds : eqD (.str "from") (.str "from") = some true ∧ eqD (.str "from") (.str "by") = some false ∧ eqD (.str "from") (.str "hold") = some false ∧ eqD (.str "from") (.str "meet") = some false ∧ eqD (.str "from") (.str "after") = some false ∧ eqD (.str "from") (.str "lead") = some false ∧ eqD (.str "by") (.str "from") = some false ∧ eqD (.str "by") (.str "by") = some true ∧ eqD (.str "by") (.str "hold") = some false ∧ eqD (.str "by") (.str "meet") = some false ∧ eqD (.str "by") (.str "after") = some false ∧ eqD (.str "by") (.str "lead") = some false ∧ eqD (.str "hold") (.str "from") = some false ∧ eqD (.str "hold") (.str "by") = some false ∧ eqD (.str "hold") (.str "hold") = some true ∧ eqD (.str "hold") (.str "meet") = some false ∧ eqD (.str "hold") (.str "after") = some false ∧ eqD (.str "hold") (.str "lead") = some false ∧ eqD (.str "meet") (.str "from") = some false ∧ eqD (.str "meet") (.str "by") = some false ∧ eqD (.str "meet") (.str "hold") = some false ∧ eqD (.str "meet") (.str "meet") = some true ∧ eqD (.str "meet") (.str "after") = some false ∧ eqD (.str "meet") (.str "lead") = some false ∧ eqD (.str "after") (.str "from") = some false ∧ eqD (.str "after") (.str "by") = some false ∧ eqD (.str "after") (.str "hold") = some false ∧ eqD (.str "after") (.str "meet") = some false ∧ eqD (.str "after") (.str "after") = some true ∧ eqD (.str "after") (.str "lead") = some false ∧ eqD (.str "lead") (.str "from") = some false ∧ eqD (.str "lead") (.str "by") = some false ∧ eqD (.str "lead") (.str "hold") = some false ∧ eqD (.str "lead") (.str "meet") = some false ∧ eqD (.str "lead") (.str "after") = some false ∧ eqD (.str "lead") (.str "lead") = some true := by
  refine ⟨?_, ?_, ?_, ?_, ?_, ?_, ?_, ?_, ?_, ?_, ?_, ?_, ?_, ?_, ?_, ?_, ?_, ?_, ?_, ?_, ?_, ?_, ?_, ?_, ?_, ?_, ?_, ?_, ?_, ?_, ?_, ?_, ?_, ?_, ?_, ?_⟩ <;> exact (str_eq (by decide +kernel) (by decide +kernel)).trans (by decide +kernel)
theorem oneNone {h : Option Int} : isD true (optD h) = (match h with | none => some true | some _ => none) := by cases h <;> rfl
section
variable {k n B : Nat} {hor : Int} {ws : List Wk} {pr : List D} {hs : List Hm} {day d : D} {l : List (Int × Int)}
theorem minutes {x : Str} (hy : DayD n hor ws pr hs day) (hl : l.length = n) (hx : Nm ws x) : evF T 1000 (k + 2) 1 [.v day, .v (.tup (l.map spD)), .v (.str x)] = some (.tup [.int (at_ l ws x).1, .int (at_ l ws x).2], [.no, .no, .no]) := by
  refine wp_eq.mp (evF_wp T_minutes_of rfl ?_)
  have fy := hy.fz
  have e1 := wnumber (k := k) hy hx.1 hx.2
  have fw := fz_sp l
  have e2 := at_get (l := l) (by rw [hl, hy.wl]) hx.1
  simp -implicitDefEqProofs (disch := first | assumption | exact st_no | exact st_v | exact fst_no | omega) only [xs1, xs2, xs3, rd, rds, vals, cont, Sl.cont, D.fz, fzL, cmpD, ordD, eqD_int, eqD_in, eqD_ni, eqD_nn, eqD_bb, isD, D.isNon, idx_tup, idx_lst, idx_ro, idx_own, addI, subI, fdivD, modD, negD, truD, bltD, lenD_items, listD, tupleD, absD_int, intD, tyD, D.items, D.isL, mutD, appD, extD, mutArgs, argsOf, argOf, lentS, places, back, backOne, outs, setL, ownAt, parS, lock, unlock, wipeS, putBack, free_zero, free_succ, fst_no, fst_v, rngOf1, rngOf2, srcOf, kit_bb, wp_some, retq_rt, retq_nx, turn_nx, turn_ct, turnp_nx, turnp_ct, turnp_rt, turnp_bk, Option.toList, Int.zero_add, Int.sub_zero, List.getElem?_cons_succ, List.getElem?_cons_zero, List.set_cons_succ, List.set_cons_zero, Option.bind_some, Option.map_some, if_true, if_false, decide_true, decide_false, Bool.false_eq_true, store_zero, store_succ, st_no, st_v, atI_pos, ix50, ix51, ix52, ix53, ix54, ixN_pos, Option.bind_some, List.nodup_nil, List.nodup_cons, List.mem_cons, List.not_mem_nil, or_false, or_true, false_or, not_false_eq_true, not_true, and_self, and_true, true_and, Bool.and_true, Bool.true_and, Bool.and_self, Bool.and_false, Bool.false_and, Bool.not_true, Bool.not_false, List.length_cons, List.length_nil, List.cons_append, List.nil_append, List.replicate, Out.map, List.append_eq, List.all_cons, List.all_nil, decide_not, ne_eq, lim_lit, List.length_map, Int.reduceLE, Int.reduceLT, Int.reduceToNat, Nat.reduceAdd, Nat.reduceSub, Nat.reduceLeDiff, Nat.reduceEqDiff, Int.reduceNeg, Int.reduceEq, Nat.reduceLT, Nat.reduceMul, mulI, fdivI, rngI1, rngI2, Int.cast_ofNat_Int, Int.toNat_natCast, Option.bind_none, Option.map_none, Int.reduceAdd, Int.reduceSub, b_minutes_of, fy, e1, fw, e2]
theorem iskept {p : Pr} (hy : DayD n hor ws pr hs day) (hl : l.length = n) (hp : PrOk ws p) : evF T 1000 (k + 3) 2 [.v day, .v (prD p), .v (.tup (l.map spD))] = some (.bl (keepB ws l p), [.no, .no, .no]) := by
  refine wp_eq.mp (evF_wp T_is_kept rfl ?_)
  have fy := hy.fz
  have fl := fz_sp l
  cases p with
  | frm a m =>
    have e1 := minutes (k := k) hy hl hp
    simp -implicitDefEqProofs (disch := first | assumption | exact st_no | exact st_v | exact fst_no | omega) only [xs1, xs2, xs3, rd, rds, vals, cont, Sl.cont, D.fz, fzL, cmpD, ordD, eqD_int, eqD_in, eqD_ni, eqD_nn, eqD_bb, isD, D.isNon, idx_tup, idx_lst, idx_ro, idx_own, addI, subI, fdivD, modD, negD, truD, bltD, lenD_items, listD, tupleD, absD_int, intD, tyD, D.items, D.isL, mutD, appD, extD, mutArgs, argsOf, argOf, lentS, places, back, backOne, outs, setL, ownAt, parS, lock, unlock, wipeS, putBack, free_zero, free_succ, fst_no, fst_v, rngOf1, rngOf2, srcOf, kit_bb, wp_some, retq_rt, retq_nx, turn_nx, turn_ct, turnp_nx, turnp_ct, turnp_rt, turnp_bk, Option.toList, Int.zero_add, Int.sub_zero, List.getElem?_cons_succ, List.getElem?_cons_zero, List.set_cons_succ, List.set_cons_zero, Option.bind_some, Option.map_some, if_true, if_false, decide_true, decide_false, Bool.false_eq_true, store_zero, store_succ, st_no, st_v, atI_pos, ix50, ix51, ix52, ix53, ix54, ixN_pos, Option.bind_some, List.nodup_nil, List.nodup_cons, List.mem_cons, List.not_mem_nil, or_false, or_true, false_or, not_false_eq_true, not_true, and_self, and_true, true_and, Bool.and_true, Bool.true_and, Bool.and_self, Bool.and_false, Bool.false_and, Bool.not_true, Bool.not_false, List.length_cons, List.length_nil, List.cons_append, List.nil_append, List.replicate, Out.map, List.append_eq, List.all_cons, List.all_nil, decide_not, ne_eq, lim_lit, List.length_map, Int.reduceLE, Int.reduceLT, Int.reduceToNat, Nat.reduceAdd, Nat.reduceSub, Nat.reduceLeDiff, Nat.reduceEqDiff, Int.reduceNeg, Int.reduceEq, Nat.reduceLT, Nat.reduceMul, mulI, fdivI, rngI1, rngI2, Int.cast_ofNat_Int, Int.toNat_natCast, Option.bind_none, Option.map_none, Int.reduceAdd, Int.reduceSub, b_is_kept, prD, fy, fl, e1, wds]
    rfl
  | by_ a m =>
    have e1 := minutes (k := k) hy hl hp
    simp -implicitDefEqProofs (disch := first | assumption | exact st_no | exact st_v | exact fst_no | omega) only [xs1, xs2, xs3, rd, rds, vals, cont, Sl.cont, D.fz, fzL, cmpD, ordD, eqD_int, eqD_in, eqD_ni, eqD_nn, eqD_bb, isD, D.isNon, idx_tup, idx_lst, idx_ro, idx_own, addI, subI, fdivD, modD, negD, truD, bltD, lenD_items, listD, tupleD, absD_int, intD, tyD, D.items, D.isL, mutD, appD, extD, mutArgs, argsOf, argOf, lentS, places, back, backOne, outs, setL, ownAt, parS, lock, unlock, wipeS, putBack, free_zero, free_succ, fst_no, fst_v, rngOf1, rngOf2, srcOf, kit_bb, wp_some, retq_rt, retq_nx, turn_nx, turn_ct, turnp_nx, turnp_ct, turnp_rt, turnp_bk, Option.toList, Int.zero_add, Int.sub_zero, List.getElem?_cons_succ, List.getElem?_cons_zero, List.set_cons_succ, List.set_cons_zero, Option.bind_some, Option.map_some, if_true, if_false, decide_true, decide_false, Bool.false_eq_true, store_zero, store_succ, st_no, st_v, atI_pos, ix50, ix51, ix52, ix53, ix54, ixN_pos, Option.bind_some, List.nodup_nil, List.nodup_cons, List.mem_cons, List.not_mem_nil, or_false, or_true, false_or, not_false_eq_true, not_true, and_self, and_true, true_and, Bool.and_true, Bool.true_and, Bool.and_self, Bool.and_false, Bool.false_and, Bool.not_true, Bool.not_false, List.length_cons, List.length_nil, List.cons_append, List.nil_append, List.replicate, Out.map, List.append_eq, List.all_cons, List.all_nil, decide_not, ne_eq, lim_lit, List.length_map, Int.reduceLE, Int.reduceLT, Int.reduceToNat, Nat.reduceAdd, Nat.reduceSub, Nat.reduceLeDiff, Nat.reduceEqDiff, Int.reduceNeg, Int.reduceEq, Nat.reduceLT, Nat.reduceMul, mulI, fdivI, rngI1, rngI2, Int.cast_ofNat_Int, Int.toNat_natCast, Option.bind_none, Option.map_none, Int.reduceAdd, Int.reduceSub, b_is_kept, prD, fy, fl, e1, wds]
    rfl
  | hold a b m =>
    have e1 := minutes (k := k) hy hl hp.1
    have e2 := minutes (k := k) hy hl hp.2
    simp -implicitDefEqProofs (disch := first | assumption | exact st_no | exact st_v | exact fst_no | omega) only [xs1, xs2, xs3, rd, rds, vals, cont, Sl.cont, D.fz, fzL, cmpD, ordD, eqD_int, eqD_in, eqD_ni, eqD_nn, eqD_bb, isD, D.isNon, idx_tup, idx_lst, idx_ro, idx_own, addI, subI, fdivD, modD, negD, truD, bltD, lenD_items, listD, tupleD, absD_int, intD, tyD, D.items, D.isL, mutD, appD, extD, mutArgs, argsOf, argOf, lentS, places, back, backOne, outs, setL, ownAt, parS, lock, unlock, wipeS, putBack, free_zero, free_succ, fst_no, fst_v, rngOf1, rngOf2, srcOf, kit_bb, wp_some, retq_rt, retq_nx, turn_nx, turn_ct, turnp_nx, turnp_ct, turnp_rt, turnp_bk, Option.toList, Int.zero_add, Int.sub_zero, List.getElem?_cons_succ, List.getElem?_cons_zero, List.set_cons_succ, List.set_cons_zero, Option.bind_some, Option.map_some, if_true, if_false, decide_true, decide_false, Bool.false_eq_true, store_zero, store_succ, st_no, st_v, atI_pos, ix50, ix51, ix52, ix53, ix54, ixN_pos, Option.bind_some, List.nodup_nil, List.nodup_cons, List.mem_cons, List.not_mem_nil, or_false, or_true, false_or, not_false_eq_true, not_true, and_self, and_true, true_and, Bool.and_true, Bool.true_and, Bool.and_self, Bool.and_false, Bool.false_and, Bool.not_true, Bool.not_false, List.length_cons, List.length_nil, List.cons_append, List.nil_append, List.replicate, Out.map, List.append_eq, List.all_cons, List.all_nil, decide_not, ne_eq, lim_lit, List.length_map, Int.reduceLE, Int.reduceLT, Int.reduceToNat, Nat.reduceAdd, Nat.reduceSub, Nat.reduceLeDiff, Nat.reduceEqDiff, Int.reduceNeg, Int.reduceEq, Nat.reduceLT, Nat.reduceMul, mulI, fdivI, rngI1, rngI2, Int.cast_ofNat_Int, Int.toNat_natCast, Option.bind_none, Option.map_none, Int.reduceAdd, Int.reduceSub, b_is_kept, prD, fy, fl, e1, e2, wds, minI]
    rfl
  | meet a b m =>
    have e1 := minutes (k := k) hy hl hp.1
    have e2 := minutes (k := k) hy hl hp.2
    simp -implicitDefEqProofs (disch := first | assumption | exact st_no | exact st_v | exact fst_no | omega) only [xs1, xs2, xs3, rd, rds, vals, cont, Sl.cont, D.fz, fzL, cmpD, ordD, eqD_int, eqD_in, eqD_ni, eqD_nn, eqD_bb, isD, D.isNon, idx_tup, idx_lst, idx_ro, idx_own, addI, subI, fdivD, modD, negD, truD, bltD, lenD_items, listD, tupleD, absD_int, intD, tyD, D.items, D.isL, mutD, appD, extD, mutArgs, argsOf, argOf, lentS, places, back, backOne, outs, setL, ownAt, parS, lock, unlock, wipeS, putBack, free_zero, free_succ, fst_no, fst_v, rngOf1, rngOf2, srcOf, kit_bb, wp_some, retq_rt, retq_nx, turn_nx, turn_ct, turnp_nx, turnp_ct, turnp_rt, turnp_bk, Option.toList, Int.zero_add, Int.sub_zero, List.getElem?_cons_succ, List.getElem?_cons_zero, List.set_cons_succ, List.set_cons_zero, Option.bind_some, Option.map_some, if_true, if_false, decide_true, decide_false, Bool.false_eq_true, store_zero, store_succ, st_no, st_v, atI_pos, ix50, ix51, ix52, ix53, ix54, ixN_pos, Option.bind_some, List.nodup_nil, List.nodup_cons, List.mem_cons, List.not_mem_nil, or_false, or_true, false_or, not_false_eq_true, not_true, and_self, and_true, true_and, Bool.and_true, Bool.true_and, Bool.and_self, Bool.and_false, Bool.false_and, Bool.not_true, Bool.not_false, List.length_cons, List.length_nil, List.cons_append, List.nil_append, List.replicate, Out.map, List.append_eq, List.all_cons, List.all_nil, decide_not, ne_eq, lim_lit, List.length_map, Int.reduceLE, Int.reduceLT, Int.reduceToNat, Nat.reduceAdd, Nat.reduceSub, Nat.reduceLeDiff, Nat.reduceEqDiff, Int.reduceNeg, Int.reduceEq, Nat.reduceLT, Nat.reduceMul, mulI, fdivI, rngI1, rngI2, Int.cast_ofNat_Int, Int.toNat_natCast, Option.bind_none, Option.map_none, Int.reduceAdd, Int.reduceSub, b_is_kept, prD, fy, fl, e1, e2, wds]
    rfl
  | gap af a b lo h =>
    have e1 := minutes (k := k) hy hl hp.1
    have e2 := minutes (k := k) hy hl hp.2
    cases af with
    | true =>
      by_cases c1 : lo ≤ (at_ l ws b).1 - (at_ l ws a).2
      · cases h <;> simp -implicitDefEqProofs (disch := first | assumption | exact st_no | exact st_v | exact fst_no | omega) only [xs1, xs2, xs3, rd, rds, vals, cont, Sl.cont, D.fz, fzL, cmpD, ordD, eqD_int, eqD_in, eqD_ni, eqD_nn, eqD_bb, isD, D.isNon, idx_tup, idx_lst, idx_ro, idx_own, addI, subI, fdivD, modD, negD, truD, bltD, lenD_items, listD, tupleD, absD_int, intD, tyD, D.items, D.isL, mutD, appD, extD, mutArgs, argsOf, argOf, lentS, places, back, backOne, outs, setL, ownAt, parS, lock, unlock, wipeS, putBack, free_zero, free_succ, fst_no, fst_v, rngOf1, rngOf2, srcOf, kit_bb, wp_some, retq_rt, retq_nx, turn_nx, turn_ct, turnp_nx, turnp_ct, turnp_rt, turnp_bk, Option.toList, Int.zero_add, Int.sub_zero, List.getElem?_cons_succ, List.getElem?_cons_zero, List.set_cons_succ, List.set_cons_zero, Option.bind_some, Option.map_some, if_true, if_false, decide_true, decide_false, Bool.false_eq_true, store_zero, store_succ, st_no, st_v, atI_pos, ix50, ix51, ix52, ix53, ix54, ixN_pos, Option.bind_some, List.nodup_nil, List.nodup_cons, List.mem_cons, List.not_mem_nil, or_false, or_true, false_or, not_false_eq_true, not_true, and_self, and_true, true_and, Bool.and_true, Bool.true_and, Bool.and_self, Bool.and_false, Bool.false_and, Bool.not_true, Bool.not_false, List.length_cons, List.length_nil, List.cons_append, List.nil_append, List.replicate, Out.map, List.append_eq, List.all_cons, List.all_nil, decide_not, ne_eq, lim_lit, List.length_map, Int.reduceLE, Int.reduceLT, Int.reduceToNat, Nat.reduceAdd, Nat.reduceSub, Nat.reduceLeDiff, Nat.reduceEqDiff, Int.reduceNeg, Int.reduceEq, Nat.reduceLT, Nat.reduceMul, mulI, fdivI, rngI1, rngI2, Int.cast_ofNat_Int, Int.toNat_natCast, Option.bind_none, Option.map_none, Int.reduceAdd, Int.reduceSub, b_is_kept, prD, fy, fl, e1, e2, wds, optD, c1] <;> simp [keepB, c1]
      · cases h <;> simp -implicitDefEqProofs (disch := first | assumption | exact st_no | exact st_v | exact fst_no | omega) only [xs1, xs2, xs3, rd, rds, vals, cont, Sl.cont, D.fz, fzL, cmpD, ordD, eqD_int, eqD_in, eqD_ni, eqD_nn, eqD_bb, isD, D.isNon, idx_tup, idx_lst, idx_ro, idx_own, addI, subI, fdivD, modD, negD, truD, bltD, lenD_items, listD, tupleD, absD_int, intD, tyD, D.items, D.isL, mutD, appD, extD, mutArgs, argsOf, argOf, lentS, places, back, backOne, outs, setL, ownAt, parS, lock, unlock, wipeS, putBack, free_zero, free_succ, fst_no, fst_v, rngOf1, rngOf2, srcOf, kit_bb, wp_some, retq_rt, retq_nx, turn_nx, turn_ct, turnp_nx, turnp_ct, turnp_rt, turnp_bk, Option.toList, Int.zero_add, Int.sub_zero, List.getElem?_cons_succ, List.getElem?_cons_zero, List.set_cons_succ, List.set_cons_zero, Option.bind_some, Option.map_some, if_true, if_false, decide_true, decide_false, Bool.false_eq_true, store_zero, store_succ, st_no, st_v, atI_pos, ix50, ix51, ix52, ix53, ix54, ixN_pos, Option.bind_some, List.nodup_nil, List.nodup_cons, List.mem_cons, List.not_mem_nil, or_false, or_true, false_or, not_false_eq_true, not_true, and_self, and_true, true_and, Bool.and_true, Bool.true_and, Bool.and_self, Bool.and_false, Bool.false_and, Bool.not_true, Bool.not_false, List.length_cons, List.length_nil, List.cons_append, List.nil_append, List.replicate, Out.map, List.append_eq, List.all_cons, List.all_nil, decide_not, ne_eq, lim_lit, List.length_map, Int.reduceLE, Int.reduceLT, Int.reduceToNat, Nat.reduceAdd, Nat.reduceSub, Nat.reduceLeDiff, Nat.reduceEqDiff, Int.reduceNeg, Int.reduceEq, Nat.reduceLT, Nat.reduceMul, mulI, fdivI, rngI1, rngI2, Int.cast_ofNat_Int, Int.toNat_natCast, Option.bind_none, Option.map_none, Int.reduceAdd, Int.reduceSub, b_is_kept, prD, fy, fl, e1, e2, wds, optD, c1] <;> simp [keepB, c1]
    | false =>
      by_cases c1 : lo ≤ (at_ l ws b).1 - (at_ l ws a).1
      · cases h <;> simp -implicitDefEqProofs (disch := first | assumption | exact st_no | exact st_v | exact fst_no | omega) only [xs1, xs2, xs3, rd, rds, vals, cont, Sl.cont, D.fz, fzL, cmpD, ordD, eqD_int, eqD_in, eqD_ni, eqD_nn, eqD_bb, isD, D.isNon, idx_tup, idx_lst, idx_ro, idx_own, addI, subI, fdivD, modD, negD, truD, bltD, lenD_items, listD, tupleD, absD_int, intD, tyD, D.items, D.isL, mutD, appD, extD, mutArgs, argsOf, argOf, lentS, places, back, backOne, outs, setL, ownAt, parS, lock, unlock, wipeS, putBack, free_zero, free_succ, fst_no, fst_v, rngOf1, rngOf2, srcOf, kit_bb, wp_some, retq_rt, retq_nx, turn_nx, turn_ct, turnp_nx, turnp_ct, turnp_rt, turnp_bk, Option.toList, Int.zero_add, Int.sub_zero, List.getElem?_cons_succ, List.getElem?_cons_zero, List.set_cons_succ, List.set_cons_zero, Option.bind_some, Option.map_some, if_true, if_false, decide_true, decide_false, Bool.false_eq_true, store_zero, store_succ, st_no, st_v, atI_pos, ix50, ix51, ix52, ix53, ix54, ixN_pos, Option.bind_some, List.nodup_nil, List.nodup_cons, List.mem_cons, List.not_mem_nil, or_false, or_true, false_or, not_false_eq_true, not_true, and_self, and_true, true_and, Bool.and_true, Bool.true_and, Bool.and_self, Bool.and_false, Bool.false_and, Bool.not_true, Bool.not_false, List.length_cons, List.length_nil, List.cons_append, List.nil_append, List.replicate, Out.map, List.append_eq, List.all_cons, List.all_nil, decide_not, ne_eq, lim_lit, List.length_map, Int.reduceLE, Int.reduceLT, Int.reduceToNat, Nat.reduceAdd, Nat.reduceSub, Nat.reduceLeDiff, Nat.reduceEqDiff, Int.reduceNeg, Int.reduceEq, Nat.reduceLT, Nat.reduceMul, mulI, fdivI, rngI1, rngI2, Int.cast_ofNat_Int, Int.toNat_natCast, Option.bind_none, Option.map_none, Int.reduceAdd, Int.reduceSub, b_is_kept, prD, fy, fl, e1, e2, wds, optD, c1] <;> simp [keepB, c1]
      · cases h <;> simp -implicitDefEqProofs (disch := first | assumption | exact st_no | exact st_v | exact fst_no | omega) only [xs1, xs2, xs3, rd, rds, vals, cont, Sl.cont, D.fz, fzL, cmpD, ordD, eqD_int, eqD_in, eqD_ni, eqD_nn, eqD_bb, isD, D.isNon, idx_tup, idx_lst, idx_ro, idx_own, addI, subI, fdivD, modD, negD, truD, bltD, lenD_items, listD, tupleD, absD_int, intD, tyD, D.items, D.isL, mutD, appD, extD, mutArgs, argsOf, argOf, lentS, places, back, backOne, outs, setL, ownAt, parS, lock, unlock, wipeS, putBack, free_zero, free_succ, fst_no, fst_v, rngOf1, rngOf2, srcOf, kit_bb, wp_some, retq_rt, retq_nx, turn_nx, turn_ct, turnp_nx, turnp_ct, turnp_rt, turnp_bk, Option.toList, Int.zero_add, Int.sub_zero, List.getElem?_cons_succ, List.getElem?_cons_zero, List.set_cons_succ, List.set_cons_zero, Option.bind_some, Option.map_some, if_true, if_false, decide_true, decide_false, Bool.false_eq_true, store_zero, store_succ, st_no, st_v, atI_pos, ix50, ix51, ix52, ix53, ix54, ixN_pos, Option.bind_some, List.nodup_nil, List.nodup_cons, List.mem_cons, List.not_mem_nil, or_false, or_true, false_or, not_false_eq_true, not_true, and_self, and_true, true_and, Bool.and_true, Bool.true_and, Bool.and_self, Bool.and_false, Bool.false_and, Bool.not_true, Bool.not_false, List.length_cons, List.length_nil, List.cons_append, List.nil_append, List.replicate, Out.map, List.append_eq, List.all_cons, List.all_nil, decide_not, ne_eq, lim_lit, List.length_map, Int.reduceLE, Int.reduceLT, Int.reduceToNat, Nat.reduceAdd, Nat.reduceSub, Nat.reduceLeDiff, Nat.reduceEqDiff, Int.reduceNeg, Int.reduceEq, Nat.reduceLT, Nat.reduceMul, mulI, fdivI, rngI1, rngI2, Int.cast_ofNat_Int, Int.toNat_natCast, Option.bind_none, Option.map_none, Int.reduceAdd, Int.reduceSub, b_is_kept, prD, fy, fl, e1, e2, wds, optD, c1] <;> simp [keepB, c1]
theorem lkeeps {p : Pr} (hy : DayD n hor ws pr hs day) (hl : l.length = n) (hp : PrOk ws p) : evF T 1000 (k + 2) 19 [.v day, .v (prD p), .v (.tup (l.map spD))] = some (.bl (keepB ws l p), [.no, .no, .no]) := by
  refine wp_eq.mp (evF_wp T__law_keeps_promise rfl ?_)
  have fy := hy.fz
  have fl := fz_sp l
  have hlw : l.length = ws.length := by rw [hl, hy.wl]
  cases p with
  | frm a m =>
    have e1 := lnumber (k := k) hy hp.1
    have g1 := at_get (l := l) hlw hp.1
    simp -implicitDefEqProofs (disch := first | assumption | exact st_no | exact st_v | exact fst_no | omega) only [xs1, xs2, xs3, rd, rds, vals, cont, Sl.cont, D.fz, fzL, cmpD, ordD, eqD_int, eqD_in, eqD_ni, eqD_nn, eqD_bb, isD, D.isNon, idx_tup, idx_lst, idx_ro, idx_own, addI, subI, fdivD, modD, negD, truD, bltD, lenD_items, listD, tupleD, absD_int, intD, tyD, D.items, D.isL, mutD, appD, extD, mutArgs, argsOf, argOf, lentS, places, back, backOne, outs, setL, ownAt, parS, lock, unlock, wipeS, putBack, free_zero, free_succ, fst_no, fst_v, rngOf1, rngOf2, srcOf, kit_bb, wp_some, retq_rt, retq_nx, turn_nx, turn_ct, turnp_nx, turnp_ct, turnp_rt, turnp_bk, Option.toList, Int.zero_add, Int.sub_zero, List.getElem?_cons_succ, List.getElem?_cons_zero, List.set_cons_succ, List.set_cons_zero, Option.bind_some, Option.map_some, if_true, if_false, decide_true, decide_false, Bool.false_eq_true, store_zero, store_succ, st_no, st_v, atI_pos, ix50, ix51, ix52, ix53, ix54, ixN_pos, Option.bind_some, List.nodup_nil, List.nodup_cons, List.mem_cons, List.not_mem_nil, or_false, or_true, false_or, not_false_eq_true, not_true, and_self, and_true, true_and, Bool.and_true, Bool.true_and, Bool.and_self, Bool.and_false, Bool.false_and, Bool.not_true, Bool.not_false, List.length_cons, List.length_nil, List.cons_append, List.nil_append, List.replicate, Out.map, List.append_eq, List.all_cons, List.all_nil, decide_not, ne_eq, lim_lit, List.length_map, Int.reduceLE, Int.reduceLT, Int.reduceToNat, Nat.reduceAdd, Nat.reduceSub, Nat.reduceLeDiff, Nat.reduceEqDiff, Int.reduceNeg, Int.reduceEq, Nat.reduceLT, Nat.reduceMul, mulI, fdivI, rngI1, rngI2, Int.cast_ofNat_Int, Int.toNat_natCast, Option.bind_none, Option.map_none, Int.reduceAdd, Int.reduceSub, b__law_keeps_promise, prD, fy, fl, e1, g1, wds]
    rfl
  | by_ a m =>
    have e1 := lnumber (k := k) hy hp.1
    have g1 := at_get (l := l) hlw hp.1
    simp -implicitDefEqProofs (disch := first | assumption | exact st_no | exact st_v | exact fst_no | omega) only [xs1, xs2, xs3, rd, rds, vals, cont, Sl.cont, D.fz, fzL, cmpD, ordD, eqD_int, eqD_in, eqD_ni, eqD_nn, eqD_bb, isD, D.isNon, idx_tup, idx_lst, idx_ro, idx_own, addI, subI, fdivD, modD, negD, truD, bltD, lenD_items, listD, tupleD, absD_int, intD, tyD, D.items, D.isL, mutD, appD, extD, mutArgs, argsOf, argOf, lentS, places, back, backOne, outs, setL, ownAt, parS, lock, unlock, wipeS, putBack, free_zero, free_succ, fst_no, fst_v, rngOf1, rngOf2, srcOf, kit_bb, wp_some, retq_rt, retq_nx, turn_nx, turn_ct, turnp_nx, turnp_ct, turnp_rt, turnp_bk, Option.toList, Int.zero_add, Int.sub_zero, List.getElem?_cons_succ, List.getElem?_cons_zero, List.set_cons_succ, List.set_cons_zero, Option.bind_some, Option.map_some, if_true, if_false, decide_true, decide_false, Bool.false_eq_true, store_zero, store_succ, st_no, st_v, atI_pos, ix50, ix51, ix52, ix53, ix54, ixN_pos, Option.bind_some, List.nodup_nil, List.nodup_cons, List.mem_cons, List.not_mem_nil, or_false, or_true, false_or, not_false_eq_true, not_true, and_self, and_true, true_and, Bool.and_true, Bool.true_and, Bool.and_self, Bool.and_false, Bool.false_and, Bool.not_true, Bool.not_false, List.length_cons, List.length_nil, List.cons_append, List.nil_append, List.replicate, Out.map, List.append_eq, List.all_cons, List.all_nil, decide_not, ne_eq, lim_lit, List.length_map, Int.reduceLE, Int.reduceLT, Int.reduceToNat, Nat.reduceAdd, Nat.reduceSub, Nat.reduceLeDiff, Nat.reduceEqDiff, Int.reduceNeg, Int.reduceEq, Nat.reduceLT, Nat.reduceMul, mulI, fdivI, rngI1, rngI2, Int.cast_ofNat_Int, Int.toNat_natCast, Option.bind_none, Option.map_none, Int.reduceAdd, Int.reduceSub, b__law_keeps_promise, prD, fy, fl, e1, g1, wds]
    rfl
  | hold a b m =>
    have e1 := lnumber (k := k) hy hp.1.1
    have g1 := at_get (l := l) hlw hp.1.1
    have e2 := lnumber (k := k) hy hp.2.1
    have g2 := at_get (l := l) hlw hp.2.1
    by_cases c1 : (at_ l ws a).2 ≤ (at_ l ws b).1
    · simp -implicitDefEqProofs (disch := first | assumption | exact st_no | exact st_v | exact fst_no | omega) only [xs1, xs2, xs3, rd, rds, vals, cont, Sl.cont, D.fz, fzL, cmpD, ordD, eqD_int, eqD_in, eqD_ni, eqD_nn, eqD_bb, isD, D.isNon, idx_tup, idx_lst, idx_ro, idx_own, addI, subI, fdivD, modD, negD, truD, bltD, lenD_items, listD, tupleD, absD_int, intD, tyD, D.items, D.isL, mutD, appD, extD, mutArgs, argsOf, argOf, lentS, places, back, backOne, outs, setL, ownAt, parS, lock, unlock, wipeS, putBack, free_zero, free_succ, fst_no, fst_v, rngOf1, rngOf2, srcOf, kit_bb, wp_some, retq_rt, retq_nx, turn_nx, turn_ct, turnp_nx, turnp_ct, turnp_rt, turnp_bk, Option.toList, Int.zero_add, Int.sub_zero, List.getElem?_cons_succ, List.getElem?_cons_zero, List.set_cons_succ, List.set_cons_zero, Option.bind_some, Option.map_some, if_true, if_false, decide_true, decide_false, Bool.false_eq_true, store_zero, store_succ, st_no, st_v, atI_pos, ix50, ix51, ix52, ix53, ix54, ixN_pos, Option.bind_some, List.nodup_nil, List.nodup_cons, List.mem_cons, List.not_mem_nil, or_false, or_true, false_or, not_false_eq_true, not_true, and_self, and_true, true_and, Bool.and_true, Bool.true_and, Bool.and_self, Bool.and_false, Bool.false_and, Bool.not_true, Bool.not_false, List.length_cons, List.length_nil, List.cons_append, List.nil_append, List.replicate, Out.map, List.append_eq, List.all_cons, List.all_nil, decide_not, ne_eq, lim_lit, List.length_map, Int.reduceLE, Int.reduceLT, Int.reduceToNat, Nat.reduceAdd, Nat.reduceSub, Nat.reduceLeDiff, Nat.reduceEqDiff, Int.reduceNeg, Int.reduceEq, Nat.reduceLT, Nat.reduceMul, mulI, fdivI, rngI1, rngI2, Int.cast_ofNat_Int, Int.toNat_natCast, Option.bind_none, Option.map_none, Int.reduceAdd, Int.reduceSub, b__law_keeps_promise, prD, fy, fl, e1, e2, g1, g2, wds, c1]
      simp [keepB]; omega
    · simp -implicitDefEqProofs (disch := first | assumption | exact st_no | exact st_v | exact fst_no | omega) only [xs1, xs2, xs3, rd, rds, vals, cont, Sl.cont, D.fz, fzL, cmpD, ordD, eqD_int, eqD_in, eqD_ni, eqD_nn, eqD_bb, isD, D.isNon, idx_tup, idx_lst, idx_ro, idx_own, addI, subI, fdivD, modD, negD, truD, bltD, lenD_items, listD, tupleD, absD_int, intD, tyD, D.items, D.isL, mutD, appD, extD, mutArgs, argsOf, argOf, lentS, places, back, backOne, outs, setL, ownAt, parS, lock, unlock, wipeS, putBack, free_zero, free_succ, fst_no, fst_v, rngOf1, rngOf2, srcOf, kit_bb, wp_some, retq_rt, retq_nx, turn_nx, turn_ct, turnp_nx, turnp_ct, turnp_rt, turnp_bk, Option.toList, Int.zero_add, Int.sub_zero, List.getElem?_cons_succ, List.getElem?_cons_zero, List.set_cons_succ, List.set_cons_zero, Option.bind_some, Option.map_some, if_true, if_false, decide_true, decide_false, Bool.false_eq_true, store_zero, store_succ, st_no, st_v, atI_pos, ix50, ix51, ix52, ix53, ix54, ixN_pos, Option.bind_some, List.nodup_nil, List.nodup_cons, List.mem_cons, List.not_mem_nil, or_false, or_true, false_or, not_false_eq_true, not_true, and_self, and_true, true_and, Bool.and_true, Bool.true_and, Bool.and_self, Bool.and_false, Bool.false_and, Bool.not_true, Bool.not_false, List.length_cons, List.length_nil, List.cons_append, List.nil_append, List.replicate, Out.map, List.append_eq, List.all_cons, List.all_nil, decide_not, ne_eq, lim_lit, List.length_map, Int.reduceLE, Int.reduceLT, Int.reduceToNat, Nat.reduceAdd, Nat.reduceSub, Nat.reduceLeDiff, Nat.reduceEqDiff, Int.reduceNeg, Int.reduceEq, Nat.reduceLT, Nat.reduceMul, mulI, fdivI, rngI1, rngI2, Int.cast_ofNat_Int, Int.toNat_natCast, Option.bind_none, Option.map_none, Int.reduceAdd, Int.reduceSub, b__law_keeps_promise, prD, fy, fl, e1, e2, g1, g2, wds, c1]
      simp [keepB]; omega
  | meet a b m =>
    have e1 := lnumber (k := k) hy hp.1.1
    have g1 := at_get (l := l) hlw hp.1.1
    have e2 := lnumber (k := k) hy hp.2.1
    have g2 := at_get (l := l) hlw hp.2.1
    simp -implicitDefEqProofs (disch := first | assumption | exact st_no | exact st_v | exact fst_no | omega) only [xs1, xs2, xs3, rd, rds, vals, cont, Sl.cont, D.fz, fzL, cmpD, ordD, eqD_int, eqD_in, eqD_ni, eqD_nn, eqD_bb, isD, D.isNon, idx_tup, idx_lst, idx_ro, idx_own, addI, subI, fdivD, modD, negD, truD, bltD, lenD_items, listD, tupleD, absD_int, intD, tyD, D.items, D.isL, mutD, appD, extD, mutArgs, argsOf, argOf, lentS, places, back, backOne, outs, setL, ownAt, parS, lock, unlock, wipeS, putBack, free_zero, free_succ, fst_no, fst_v, rngOf1, rngOf2, srcOf, kit_bb, wp_some, retq_rt, retq_nx, turn_nx, turn_ct, turnp_nx, turnp_ct, turnp_rt, turnp_bk, Option.toList, Int.zero_add, Int.sub_zero, List.getElem?_cons_succ, List.getElem?_cons_zero, List.set_cons_succ, List.set_cons_zero, Option.bind_some, Option.map_some, if_true, if_false, decide_true, decide_false, Bool.false_eq_true, store_zero, store_succ, st_no, st_v, atI_pos, ix50, ix51, ix52, ix53, ix54, ixN_pos, Option.bind_some, List.nodup_nil, List.nodup_cons, List.mem_cons, List.not_mem_nil, or_false, or_true, false_or, not_false_eq_true, not_true, and_self, and_true, true_and, Bool.and_true, Bool.true_and, Bool.and_self, Bool.and_false, Bool.false_and, Bool.not_true, Bool.not_false, List.length_cons, List.length_nil, List.cons_append, List.nil_append, List.replicate, Out.map, List.append_eq, List.all_cons, List.all_nil, decide_not, ne_eq, lim_lit, List.length_map, Int.reduceLE, Int.reduceLT, Int.reduceToNat, Nat.reduceAdd, Nat.reduceSub, Nat.reduceLeDiff, Nat.reduceEqDiff, Int.reduceNeg, Int.reduceEq, Nat.reduceLT, Nat.reduceMul, mulI, fdivI, rngI1, rngI2, Int.cast_ofNat_Int, Int.toNat_natCast, Option.bind_none, Option.map_none, Int.reduceAdd, Int.reduceSub, b__law_keeps_promise, prD, fy, fl, e1, e2, g1, g2, wds]
    rfl
  | gap af a b lo h =>
    have e1 := lnumber (k := k) hy hp.1.1
    have g1 := at_get (l := l) hlw hp.1.1
    have e2 := lnumber (k := k) hy hp.2.1
    have g2 := at_get (l := l) hlw hp.2.1
    cases af with
    | true =>
      by_cases c1 : (at_ l ws a).2 + lo ≤ (at_ l ws b).1
      · have c2 : lo ≤ (at_ l ws b).1 - (at_ l ws a).2 := by omega
        cases h <;> simp -implicitDefEqProofs (disch := first | assumption | exact st_no | exact st_v | exact fst_no | omega) only [xs1, xs2, xs3, rd, rds, vals, cont, Sl.cont, D.fz, fzL, cmpD, ordD, eqD_int, eqD_in, eqD_ni, eqD_nn, eqD_bb, isD, D.isNon, idx_tup, idx_lst, idx_ro, idx_own, addI, subI, fdivD, modD, negD, truD, bltD, lenD_items, listD, tupleD, absD_int, intD, tyD, D.items, D.isL, mutD, appD, extD, mutArgs, argsOf, argOf, lentS, places, back, backOne, outs, setL, ownAt, parS, lock, unlock, wipeS, putBack, free_zero, free_succ, fst_no, fst_v, rngOf1, rngOf2, srcOf, kit_bb, wp_some, retq_rt, retq_nx, turn_nx, turn_ct, turnp_nx, turnp_ct, turnp_rt, turnp_bk, Option.toList, Int.zero_add, Int.sub_zero, List.getElem?_cons_succ, List.getElem?_cons_zero, List.set_cons_succ, List.set_cons_zero, Option.bind_some, Option.map_some, if_true, if_false, decide_true, decide_false, Bool.false_eq_true, store_zero, store_succ, st_no, st_v, atI_pos, ix50, ix51, ix52, ix53, ix54, ixN_pos, Option.bind_some, List.nodup_nil, List.nodup_cons, List.mem_cons, List.not_mem_nil, or_false, or_true, false_or, not_false_eq_true, not_true, and_self, and_true, true_and, Bool.and_true, Bool.true_and, Bool.and_self, Bool.and_false, Bool.false_and, Bool.not_true, Bool.not_false, List.length_cons, List.length_nil, List.cons_append, List.nil_append, List.replicate, Out.map, List.append_eq, List.all_cons, List.all_nil, decide_not, ne_eq, lim_lit, List.length_map, Int.reduceLE, Int.reduceLT, Int.reduceToNat, Nat.reduceAdd, Nat.reduceSub, Nat.reduceLeDiff, Nat.reduceEqDiff, Int.reduceNeg, Int.reduceEq, Nat.reduceLT, Nat.reduceMul, mulI, fdivI, rngI1, rngI2, Int.cast_ofNat_Int, Int.toNat_natCast, Option.bind_none, Option.map_none, Int.reduceAdd, Int.reduceSub, b__law_keeps_promise, prD, fy, fl, e1, e2, g1, g2, wds, optD, c1] <;> simp [keepB, c2]
        omega
      · have c2 : ¬ lo ≤ (at_ l ws b).1 - (at_ l ws a).2 := by omega
        cases h <;> simp -implicitDefEqProofs (disch := first | assumption | exact st_no | exact st_v | exact fst_no | omega) only [xs1, xs2, xs3, rd, rds, vals, cont, Sl.cont, D.fz, fzL, cmpD, ordD, eqD_int, eqD_in, eqD_ni, eqD_nn, eqD_bb, isD, D.isNon, idx_tup, idx_lst, idx_ro, idx_own, addI, subI, fdivD, modD, negD, truD, bltD, lenD_items, listD, tupleD, absD_int, intD, tyD, D.items, D.isL, mutD, appD, extD, mutArgs, argsOf, argOf, lentS, places, back, backOne, outs, setL, ownAt, parS, lock, unlock, wipeS, putBack, free_zero, free_succ, fst_no, fst_v, rngOf1, rngOf2, srcOf, kit_bb, wp_some, retq_rt, retq_nx, turn_nx, turn_ct, turnp_nx, turnp_ct, turnp_rt, turnp_bk, Option.toList, Int.zero_add, Int.sub_zero, List.getElem?_cons_succ, List.getElem?_cons_zero, List.set_cons_succ, List.set_cons_zero, Option.bind_some, Option.map_some, if_true, if_false, decide_true, decide_false, Bool.false_eq_true, store_zero, store_succ, st_no, st_v, atI_pos, ix50, ix51, ix52, ix53, ix54, ixN_pos, Option.bind_some, List.nodup_nil, List.nodup_cons, List.mem_cons, List.not_mem_nil, or_false, or_true, false_or, not_false_eq_true, not_true, and_self, and_true, true_and, Bool.and_true, Bool.true_and, Bool.and_self, Bool.and_false, Bool.false_and, Bool.not_true, Bool.not_false, List.length_cons, List.length_nil, List.cons_append, List.nil_append, List.replicate, Out.map, List.append_eq, List.all_cons, List.all_nil, decide_not, ne_eq, lim_lit, List.length_map, Int.reduceLE, Int.reduceLT, Int.reduceToNat, Nat.reduceAdd, Nat.reduceSub, Nat.reduceLeDiff, Nat.reduceEqDiff, Int.reduceNeg, Int.reduceEq, Nat.reduceLT, Nat.reduceMul, mulI, fdivI, rngI1, rngI2, Int.cast_ofNat_Int, Int.toNat_natCast, Option.bind_none, Option.map_none, Int.reduceAdd, Int.reduceSub, b__law_keeps_promise, prD, fy, fl, e1, e2, g1, g2, wds, optD, c1] <;> simp [keepB, c2]
    | false =>
      by_cases c1 : (at_ l ws a).1 + lo ≤ (at_ l ws b).1
      · have c2 : lo ≤ (at_ l ws b).1 - (at_ l ws a).1 := by omega
        cases h <;> simp -implicitDefEqProofs (disch := first | assumption | exact st_no | exact st_v | exact fst_no | omega) only [xs1, xs2, xs3, rd, rds, vals, cont, Sl.cont, D.fz, fzL, cmpD, ordD, eqD_int, eqD_in, eqD_ni, eqD_nn, eqD_bb, isD, D.isNon, idx_tup, idx_lst, idx_ro, idx_own, addI, subI, fdivD, modD, negD, truD, bltD, lenD_items, listD, tupleD, absD_int, intD, tyD, D.items, D.isL, mutD, appD, extD, mutArgs, argsOf, argOf, lentS, places, back, backOne, outs, setL, ownAt, parS, lock, unlock, wipeS, putBack, free_zero, free_succ, fst_no, fst_v, rngOf1, rngOf2, srcOf, kit_bb, wp_some, retq_rt, retq_nx, turn_nx, turn_ct, turnp_nx, turnp_ct, turnp_rt, turnp_bk, Option.toList, Int.zero_add, Int.sub_zero, List.getElem?_cons_succ, List.getElem?_cons_zero, List.set_cons_succ, List.set_cons_zero, Option.bind_some, Option.map_some, if_true, if_false, decide_true, decide_false, Bool.false_eq_true, store_zero, store_succ, st_no, st_v, atI_pos, ix50, ix51, ix52, ix53, ix54, ixN_pos, Option.bind_some, List.nodup_nil, List.nodup_cons, List.mem_cons, List.not_mem_nil, or_false, or_true, false_or, not_false_eq_true, not_true, and_self, and_true, true_and, Bool.and_true, Bool.true_and, Bool.and_self, Bool.and_false, Bool.false_and, Bool.not_true, Bool.not_false, List.length_cons, List.length_nil, List.cons_append, List.nil_append, List.replicate, Out.map, List.append_eq, List.all_cons, List.all_nil, decide_not, ne_eq, lim_lit, List.length_map, Int.reduceLE, Int.reduceLT, Int.reduceToNat, Nat.reduceAdd, Nat.reduceSub, Nat.reduceLeDiff, Nat.reduceEqDiff, Int.reduceNeg, Int.reduceEq, Nat.reduceLT, Nat.reduceMul, mulI, fdivI, rngI1, rngI2, Int.cast_ofNat_Int, Int.toNat_natCast, Option.bind_none, Option.map_none, Int.reduceAdd, Int.reduceSub, b__law_keeps_promise, prD, fy, fl, e1, e2, g1, g2, wds, optD, c1] <;> simp [keepB, c2]
        omega
      · have c2 : ¬ lo ≤ (at_ l ws b).1 - (at_ l ws a).1 := by omega
        cases h <;> simp -implicitDefEqProofs (disch := first | assumption | exact st_no | exact st_v | exact fst_no | omega) only [xs1, xs2, xs3, rd, rds, vals, cont, Sl.cont, D.fz, fzL, cmpD, ordD, eqD_int, eqD_in, eqD_ni, eqD_nn, eqD_bb, isD, D.isNon, idx_tup, idx_lst, idx_ro, idx_own, addI, subI, fdivD, modD, negD, truD, bltD, lenD_items, listD, tupleD, absD_int, intD, tyD, D.items, D.isL, mutD, appD, extD, mutArgs, argsOf, argOf, lentS, places, back, backOne, outs, setL, ownAt, parS, lock, unlock, wipeS, putBack, free_zero, free_succ, fst_no, fst_v, rngOf1, rngOf2, srcOf, kit_bb, wp_some, retq_rt, retq_nx, turn_nx, turn_ct, turnp_nx, turnp_ct, turnp_rt, turnp_bk, Option.toList, Int.zero_add, Int.sub_zero, List.getElem?_cons_succ, List.getElem?_cons_zero, List.set_cons_succ, List.set_cons_zero, Option.bind_some, Option.map_some, if_true, if_false, decide_true, decide_false, Bool.false_eq_true, store_zero, store_succ, st_no, st_v, atI_pos, ix50, ix51, ix52, ix53, ix54, ixN_pos, Option.bind_some, List.nodup_nil, List.nodup_cons, List.mem_cons, List.not_mem_nil, or_false, or_true, false_or, not_false_eq_true, not_true, and_self, and_true, true_and, Bool.and_true, Bool.true_and, Bool.and_self, Bool.and_false, Bool.false_and, Bool.not_true, Bool.not_false, List.length_cons, List.length_nil, List.cons_append, List.nil_append, List.replicate, Out.map, List.append_eq, List.all_cons, List.all_nil, decide_not, ne_eq, lim_lit, List.length_map, Int.reduceLE, Int.reduceLT, Int.reduceToNat, Nat.reduceAdd, Nat.reduceSub, Nat.reduceLeDiff, Nat.reduceEqDiff, Int.reduceNeg, Int.reduceEq, Nat.reduceLT, Nat.reduceMul, mulI, fdivI, rngI1, rngI2, Int.cast_ofNat_Int, Int.toNat_natCast, Option.bind_none, Option.map_none, Int.reduceAdd, Int.reduceSub, b__law_keeps_promise, prD, fy, fl, e1, e2, g1, g2, wds, optD, c1] <;> simp [keepB, c2]
end
end K09


set_option maxRecDepth 100000
set_option maxHeartbeats 4000000
namespace K09
open PySem Co
theorem strs_flat (l : List Str) : (l.map D.str).all D.flat = true := flat_map (fun _ => rfl) l
section
variable {k n B : Nat} {hor : Int} {ws : List Wk} {pr : List D} {hs : List Hm} {day d : D}
theorem near_ok {v lo hi : Int} (hd : Dd B d) (hB : B ≤ 900000000) : Wp (fun r => ∃ x d', r = (.int x, [.bo d', .no, .no, .no]) ∧ lo ≤ x ∧ x ≤ max lo hi ∧ Dd (B + 1) d') (evF T 1000 (k + 2) 24 [.bo d, .v (.int v), .v (.int lo), .v (.int hi)]) := by
  refine evF_wp T__law_near rfl ?_
  have hf := hd.fz
  simp -implicitDefEqProofs (disch := first | assumption | exact st_no | exact st_v | exact fst_no | omega) only [xs1, xs2, xs3, rd, rds, vals, cont, Sl.cont, D.fz, fzL, cmpD, ordD, eqD_int, eqD_in, eqD_ni, eqD_nn, eqD_bb, isD, D.isNon, idx_tup, idx_lst, idx_ro, idx_own, addI, subI, fdivD, modD, negD, truD, bltD, lenD_items, listD, tupleD, absD_int, intD, tyD, D.items, D.isL, mutD, appD, extD, mutArgs, argsOf, argOf, lentS, places, back, backOne, outs, setL, ownAt, parS, lock, unlock, wipeS, putBack, free_zero, free_succ, fst_no, fst_v, rngOf1, rngOf2, srcOf, kit_bb, wp_some, retq_rt, retq_nx, turn_nx, turn_ct, turnp_nx, turnp_ct, turnp_rt, turnp_bk, Option.toList, Int.zero_add, Int.sub_zero, List.getElem?_cons_succ, List.getElem?_cons_zero, List.set_cons_succ, List.set_cons_zero, Option.bind_some, Option.map_some, if_true, if_false, decide_true, decide_false, Bool.false_eq_true, store_zero, store_succ, st_no, st_v, atI_pos, ix50, ix51, ix52, ix53, ix54, ixN_pos, Option.bind_some, List.nodup_nil, List.nodup_cons, List.mem_cons, List.not_mem_nil, or_false, or_true, false_or, not_false_eq_true, not_true, and_self, and_true, true_and, Bool.and_true, Bool.true_and, Bool.and_self, Bool.and_false, Bool.false_and, Bool.not_true, Bool.not_false, List.length_cons, List.length_nil, List.cons_append, List.nil_append, List.replicate, Out.map, List.append_eq, List.all_cons, List.all_nil, decide_not, ne_eq, lim_lit, List.length_map, Int.reduceLE, Int.reduceLT, Int.reduceToNat, Nat.reduceAdd, Nat.reduceSub, Nat.reduceLeDiff, Nat.reduceEqDiff, Int.reduceNeg, Int.reduceEq, Nat.reduceLT, Nat.reduceMul, mulI, fdivI, rngI1, rngI2, Int.cast_ofNat_Int, Int.toNat_natCast, Option.bind_none, Option.map_none, Int.reduceAdd, Int.reduceSub, b__law_near, minI, maxI, *]
  repeat' first
    | simp -implicitDefEqProofs (disch := first | assumption | exact st_no | exact st_v | exact fst_no | omega) only [xs1, xs2, xs3, rd, rds, vals, cont, Sl.cont, D.fz, fzL, cmpD, ordD, eqD_int, eqD_in, eqD_ni, eqD_nn, eqD_bb, isD, D.isNon, idx_tup, idx_lst, idx_ro, idx_own, addI, subI, fdivD, modD, negD, truD, bltD, lenD_items, listD, tupleD, absD_int, intD, tyD, D.items, D.isL, mutD, appD, extD, mutArgs, argsOf, argOf, lentS, places, back, backOne, outs, setL, ownAt, parS, lock, unlock, wipeS, putBack, free_zero, free_succ, fst_no, fst_v, rngOf1, rngOf2, srcOf, kit_bb, wp_some, retq_rt, retq_nx, turn_nx, turn_ct, turnp_nx, turnp_ct, turnp_rt, turnp_bk, Option.toList, Int.zero_add, Int.sub_zero, List.getElem?_cons_succ, List.getElem?_cons_zero, List.set_cons_succ, List.set_cons_zero, Option.bind_some, Option.map_some, if_true, if_false, decide_true, decide_false, Bool.false_eq_true, store_zero, store_succ, st_no, st_v, atI_pos, ix50, ix51, ix52, ix53, ix54, ixN_pos, Option.bind_some, List.nodup_nil, List.nodup_cons, List.mem_cons, List.not_mem_nil, or_false, or_true, false_or, not_false_eq_true, not_true, and_self, and_true, true_and, Bool.and_true, Bool.true_and, Bool.and_self, Bool.and_false, Bool.false_and, Bool.not_true, Bool.not_false, List.length_cons, List.length_nil, List.cons_append, List.nil_append, List.replicate, Out.map, List.append_eq, List.all_cons, List.all_nil, decide_not, ne_eq, lim_lit, List.length_map, Int.reduceLE, Int.reduceLT, Int.reduceToNat, Nat.reduceAdd, Nat.reduceSub, Nat.reduceLeDiff, Nat.reduceEqDiff, Int.reduceNeg, Int.reduceEq, Nat.reduceLT, Nat.reduceMul, mulI, fdivI, rngI1, rngI2, Int.cast_ofNat_Int, Int.toNat_natCast, Option.bind_none, Option.map_none, Int.reduceAdd, Int.reduceSub, minI, maxI, *]
    | ((repeat with_reducible refine wp_b ?_); refine wp_if (fun hc => ?_) (fun hc => ?_) <;> (try simp only [decide_eq_true_eq] at hc) <;> (try (exfalso; omega)))
    | ((repeat with_reducible refine wp_b ?_); (with_reducible apply wp_mono); (case h => ((with_reducible apply draw_ok); (try (case hd => assumption)); all_goals (first | assumption | omega))); rintro _ ⟨x, d1, rfl, x0, x1, hd1⟩; have hf1 := hd1.fz; (first | (refine giv (x1 ?_) ?_; omega; intro x1) | skip); (first | (refine giv (p := x < (ws.length : Int)) ?_ ?_; omega; intro h9; obtain ⟨a, ea, ha⟩ := nm_at (ws := ws) x0 h9 hyw) | skip); (first | (refine giv (p := x < (l.length : Int)) ?_ ?_; omega; intro h9; obtain ⟨p, ep⟩ := sp_at (l := l) x0 h9) | skip))
    | ((repeat with_reducible refine wp_b ?_); (with_reducible apply wp_mono); (case h => ((with_reducible apply near_ok); (try (case hd => assumption)); all_goals (first | assumption | omega))); rintro _ ⟨y, d1, rfl, y0, y1, hd1⟩; have hf1 := hd1.fz)
    | ((repeat with_reducible refine wp_b ?_); (with_reducible apply wp_mono); (case h => ((with_reducible apply pair_ok); (try (case hd => assumption)); all_goals (first | assumption | omega))); rintro _ ⟨i, j, d1, rfl, i0, i1, j0, j1, hd1⟩; have hf1 := hd1.fz; obtain ⟨a, ea, ha⟩ := nm_at (ws := ws) i0 (by omega) hyw; obtain ⟨b, eb, hb⟩ := nm_at (ws := ws) j0 (by omega) hyw; obtain ⟨p, ep⟩ := sp_at (l := l) i0 (by omega); obtain ⟨q, eq⟩ := sp_at (l := l) j0 (by omega))
    | ((repeat with_reducible refine wp_b ?_); (with_reducible apply wp_mono); (case h => ((with_reducible apply between_ok); (try (case hd => assumption)); all_goals (first | assumption | omega))); rintro _ ⟨z, d1, rfl, z0, z1, hd1⟩; have hf1 := hd1.fz)
  exact ⟨_, _, rfl, by omega, by omega, hd1⟩
theorem pair_ok {m : Int} (hd : Dd B d) (hB : B ≤ 900000000) (h2 : 2 ≤ m ∧ m ≤ 1000) : Wp (fun r => ∃ i j d', r = (.tup [.int i, .int j], [.bo d', .no]) ∧ 0 ≤ i ∧ i < m ∧ 0 ≤ j ∧ j < m ∧ Dd (B + 2) d') (evF T 1000 (k + 2) 14 [.bo d, .v (.int m)]) := by
  refine evF_wp T__law_pair rfl ?_
  have hf := hd.fz
  simp -implicitDefEqProofs (disch := first | assumption | exact st_no | exact st_v | exact fst_no | omega) only [xs1, xs2, xs3, rd, rds, vals, cont, Sl.cont, D.fz, fzL, cmpD, ordD, eqD_int, eqD_in, eqD_ni, eqD_nn, eqD_bb, isD, D.isNon, idx_tup, idx_lst, idx_ro, idx_own, addI, subI, fdivD, modD, negD, truD, bltD, lenD_items, listD, tupleD, absD_int, intD, tyD, D.items, D.isL, mutD, appD, extD, mutArgs, argsOf, argOf, lentS, places, back, backOne, outs, setL, ownAt, parS, lock, unlock, wipeS, putBack, free_zero, free_succ, fst_no, fst_v, rngOf1, rngOf2, srcOf, kit_bb, wp_some, retq_rt, retq_nx, turn_nx, turn_ct, turnp_nx, turnp_ct, turnp_rt, turnp_bk, Option.toList, Int.zero_add, Int.sub_zero, List.getElem?_cons_succ, List.getElem?_cons_zero, List.set_cons_succ, List.set_cons_zero, Option.bind_some, Option.map_some, if_true, if_false, decide_true, decide_false, Bool.false_eq_true, store_zero, store_succ, st_no, st_v, atI_pos, ix50, ix51, ix52, ix53, ix54, ixN_pos, Option.bind_some, List.nodup_nil, List.nodup_cons, List.mem_cons, List.not_mem_nil, or_false, or_true, false_or, not_false_eq_true, not_true, and_self, and_true, true_and, Bool.and_true, Bool.true_and, Bool.and_self, Bool.and_false, Bool.false_and, Bool.not_true, Bool.not_false, List.length_cons, List.length_nil, List.cons_append, List.nil_append, List.replicate, Out.map, List.append_eq, List.all_cons, List.all_nil, decide_not, ne_eq, lim_lit, List.length_map, Int.reduceLE, Int.reduceLT, Int.reduceToNat, Nat.reduceAdd, Nat.reduceSub, Nat.reduceLeDiff, Nat.reduceEqDiff, Int.reduceNeg, Int.reduceEq, Nat.reduceLT, Nat.reduceMul, mulI, fdivI, rngI1, rngI2, Int.cast_ofNat_Int, Int.toNat_natCast, Option.bind_none, Option.map_none, Int.reduceAdd, Int.reduceSub, b__law_pair, *]
  repeat' first
    | simp -implicitDefEqProofs (disch := first | assumption | exact st_no | exact st_v | exact fst_no | omega) only [xs1, xs2, xs3, rd, rds, vals, cont, Sl.cont, D.fz, fzL, cmpD, ordD, eqD_int, eqD_in, eqD_ni, eqD_nn, eqD_bb, isD, D.isNon, idx_tup, idx_lst, idx_ro, idx_own, addI, subI, fdivD, modD, negD, truD, bltD, lenD_items, listD, tupleD, absD_int, intD, tyD, D.items, D.isL, mutD, appD, extD, mutArgs, argsOf, argOf, lentS, places, back, backOne, outs, setL, ownAt, parS, lock, unlock, wipeS, putBack, free_zero, free_succ, fst_no, fst_v, rngOf1, rngOf2, srcOf, kit_bb, wp_some, retq_rt, retq_nx, turn_nx, turn_ct, turnp_nx, turnp_ct, turnp_rt, turnp_bk, Option.toList, Int.zero_add, Int.sub_zero, List.getElem?_cons_succ, List.getElem?_cons_zero, List.set_cons_succ, List.set_cons_zero, Option.bind_some, Option.map_some, if_true, if_false, decide_true, decide_false, Bool.false_eq_true, store_zero, store_succ, st_no, st_v, atI_pos, ix50, ix51, ix52, ix53, ix54, ixN_pos, Option.bind_some, List.nodup_nil, List.nodup_cons, List.mem_cons, List.not_mem_nil, or_false, or_true, false_or, not_false_eq_true, not_true, and_self, and_true, true_and, Bool.and_true, Bool.true_and, Bool.and_self, Bool.and_false, Bool.false_and, Bool.not_true, Bool.not_false, List.length_cons, List.length_nil, List.cons_append, List.nil_append, List.replicate, Out.map, List.append_eq, List.all_cons, List.all_nil, decide_not, ne_eq, lim_lit, List.length_map, Int.reduceLE, Int.reduceLT, Int.reduceToNat, Nat.reduceAdd, Nat.reduceSub, Nat.reduceLeDiff, Nat.reduceEqDiff, Int.reduceNeg, Int.reduceEq, Nat.reduceLT, Nat.reduceMul, mulI, fdivI, rngI1, rngI2, Int.cast_ofNat_Int, Int.toNat_natCast, Option.bind_none, Option.map_none, Int.reduceAdd, Int.reduceSub, *]
    | ((repeat with_reducible refine wp_b ?_); refine wp_if (fun hc => ?_) (fun hc => ?_) <;> (try simp only [decide_eq_true_eq] at hc) <;> (try (exfalso; omega)))
    | ((repeat with_reducible refine wp_b ?_); (with_reducible apply wp_mono); (case h => ((with_reducible apply draw_ok); (try (case hd => assumption)); all_goals (first | assumption | omega))); rintro _ ⟨x, d1, rfl, x0, x1, hd1⟩; have hf1 := hd1.fz; (first | (refine giv (x1 ?_) ?_; omega; intro x1) | skip); (first | (refine giv (p := x < (ws.length : Int)) ?_ ?_; omega; intro h9; obtain ⟨a, ea, ha⟩ := nm_at (ws := ws) x0 h9 hyw) | skip); (first | (refine giv (p := x < (l.length : Int)) ?_ ?_; omega; intro h9; obtain ⟨p, ep⟩ := sp_at (l := l) x0 h9) | skip))
    | ((repeat with_reducible refine wp_b ?_); (with_reducible apply wp_mono); (case h => ((with_reducible apply near_ok); (try (case hd => assumption)); all_goals (first | assumption | omega))); rintro _ ⟨y, d1, rfl, y0, y1, hd1⟩; have hf1 := hd1.fz)
    | ((repeat with_reducible refine wp_b ?_); (with_reducible apply wp_mono); (case h => ((with_reducible apply pair_ok); (try (case hd => assumption)); all_goals (first | assumption | omega))); rintro _ ⟨i, j, d1, rfl, i0, i1, j0, j1, hd1⟩; have hf1 := hd1.fz; obtain ⟨a, ea, ha⟩ := nm_at (ws := ws) i0 (by omega) hyw; obtain ⟨b, eb, hb⟩ := nm_at (ws := ws) j0 (by omega) hyw; obtain ⟨p, ep⟩ := sp_at (l := l) i0 (by omega); obtain ⟨q, eq⟩ := sp_at (l := l) j0 (by omega))
    | ((repeat with_reducible refine wp_b ?_); (with_reducible apply wp_mono); (case h => ((with_reducible apply between_ok); (try (case hd => assumption)); all_goals (first | assumption | omega))); rintro _ ⟨z, d1, rfl, z0, z1, hd1⟩; have hf1 := hd1.fz)
  all_goals exact ⟨_, _, _, rfl, by omega, by omega, by omega, by omega, by assumption⟩
def nmD (w : Wk) : D := .str w.nm
theorem fz_nm (ws : List Wk) : fzL (ws.map nmD) = true := fz_map (fun _ => rfl) ws
theorem names_comp (hy : DayD n hor ws pr hs day) {c : Nat} {ρ : Co.Env} (h : ∀ w ∈ ws, compTu (evF T 1000 k) 1000 (.idx (.var c) (.int 0)) (.tnm c) (.bl true) [c] (workD w) ρ = some (some (nmD w), ρ)) :
    Wp (fun r => r = (ws.map nmD, ρ)) (compL (compTu (evF T 1000 k) 1000 (.idx (.var c) (.int 0)) (.tnm c) (.bl true) [c]) (ws.map workD) [] ρ) :=
  wp_cmap nmD (by have := hy.n1; have := hy.wl; omega) h
theorem nm_at {x : Int} (h0 : 0 ≤ x) (h1 : x < ws.length) (hw : ∀ w ∈ ws, WkOk w) : ∃ a, (ws.map nmD)[x.toNat]? = some (.str a) ∧ Nm ws a := by
  have hl : x.toNat < ws.length := by omega
  exact ⟨ws[x.toNat].nm, by rw [List.getElem?_map, List.getElem?_eq_getElem hl]; rfl, ⟨_, List.getElem_mem hl, rfl⟩, (hw _ (List.getElem_mem hl)).n⟩
theorem sp_at {l : List (Int × Int)} {x : Int} (h0 : 0 ≤ x) (h1 : x < l.length) : ∃ p : Int × Int, (l.map spD)[x.toNat]? = some (.tup [.int p.1, .int p.2]) := by
  obtain ⟨p, e, _⟩ := get_sp (l := l) (i := x.toNat) (by omega)
  exact ⟨p, e⟩
theorem w_in : inD (.str "from") (.own [.str "from", .str "by"]) = some true ∧ inD (.str "by") (.own [.str "from", .str "by"]) = some true ∧ inD (.str "after") (.own [.str "from", .str "by"]) = some false ∧ inD (.str "lead") (.own [.str "from", .str "by"]) = some false ∧ inD (.str "hold") (.own [.str "from", .str "by"]) = some false ∧ inD (.str "meet") (.own [.str "from", .str "by"]) = some false := by
  refine ⟨?_, ?_, ?_, ?_, ?_, ?_⟩ <;> decide +kernel
theorem nearp_ok {l : List (Int × Int)} (hd : Dd B d) (hB : B ≤ 800000000) (hy : DayD n hor ws pr hs day) (hl : l.length = n) : Wp (fun r => ∃ p d', r = (prD p, [.bo d', .no, .no]) ∧ PrOk ws p ∧ Dd (B + 10) d') (evF T 1000 (k + 3) 25 [.bo d, .v day, .v (.tup (l.map spD))]) := by
  refine evF_wp T__law_near_promise rfl ?_
  have hf := hd.fz
  have fy := hy.fz
  have i3 := hy.i3
  have fw := fz_wk ws
  have fl := fz_sp l
  have fn := fz_nm ws
  have hn0 := hy.n0
  have hn1 := hy.n1
  have hwl := hy.wl
  simp -implicitDefEqProofs (disch := first | assumption | exact st_no | exact st_v | exact fst_no | omega) only [xs1, xs2, xs3, rd, rds, vals, cont, Sl.cont, D.fz, fzL, cmpD, ordD, eqD_int, eqD_in, eqD_ni, eqD_nn, eqD_bb, isD, D.isNon, idx_tup, idx_lst, idx_ro, idx_own, addI, subI, fdivD, modD, negD, truD, bltD, lenD_items, listD, tupleD, absD_int, intD, tyD, D.items, D.isL, mutD, appD, extD, mutArgs, argsOf, argOf, lentS, places, back, backOne, outs, setL, ownAt, parS, lock, unlock, wipeS, putBack, free_zero, free_succ, fst_no, fst_v, rngOf1, rngOf2, srcOf, kit_bb, wp_some, retq_rt, retq_nx, turn_nx, turn_ct, turnp_nx, turnp_ct, turnp_rt, turnp_bk, Option.toList, Int.zero_add, Int.sub_zero, List.getElem?_cons_succ, List.getElem?_cons_zero, List.set_cons_succ, List.set_cons_zero, Option.bind_some, Option.map_some, if_true, if_false, decide_true, decide_false, Bool.false_eq_true, store_zero, store_succ, st_no, st_v, atI_pos, ix50, ix51, ix52, ix53, ix54, ixN_pos, Option.bind_some, List.nodup_nil, List.nodup_cons, List.mem_cons, List.not_mem_nil, or_false, or_true, false_or, not_false_eq_true, not_true, and_self, and_true, true_and, Bool.and_true, Bool.true_and, Bool.and_self, Bool.and_false, Bool.false_and, Bool.not_true, Bool.not_false, List.length_cons, List.length_nil, List.cons_append, List.nil_append, List.replicate, Out.map, List.append_eq, List.all_cons, List.all_nil, decide_not, ne_eq, lim_lit, List.length_map, Int.reduceLE, Int.reduceLT, Int.reduceToNat, Nat.reduceAdd, Nat.reduceSub, Nat.reduceLeDiff, Nat.reduceEqDiff, Int.reduceNeg, Int.reduceEq, Nat.reduceLT, Nat.reduceMul, mulI, fdivI, rngI1, rngI2, Int.cast_ofNat_Int, Int.toNat_natCast, Option.bind_none, Option.map_none, Int.reduceAdd, Int.reduceSub, b__law_near_promise, fy, i3, fw]
  repeat with_reducible refine wp_b ?_
  refine wp_mono (names_comp hy ?_) ?_
  · intro w _
    simp -implicitDefEqProofs (disch := first | assumption | exact st_no | exact st_v | exact fst_no | omega) only [xs1, xs2, xs3, rd, rds, vals, cont, Sl.cont, D.fz, fzL, cmpD, ordD, eqD_int, eqD_in, eqD_ni, eqD_nn, eqD_bb, isD, D.isNon, idx_tup, idx_lst, idx_ro, idx_own, addI, subI, fdivD, modD, negD, truD, bltD, lenD_items, listD, tupleD, absD_int, intD, tyD, D.items, D.isL, mutD, appD, extD, mutArgs, argsOf, argOf, lentS, places, back, backOne, outs, setL, ownAt, parS, lock, unlock, wipeS, putBack, free_zero, free_succ, fst_no, fst_v, rngOf1, rngOf2, srcOf, kit_bb, wp_some, retq_rt, retq_nx, turn_nx, turn_ct, turnp_nx, turnp_ct, turnp_rt, turnp_bk, Option.toList, Int.zero_add, Int.sub_zero, List.getElem?_cons_succ, List.getElem?_cons_zero, List.set_cons_succ, List.set_cons_zero, Option.bind_some, Option.map_some, if_true, if_false, decide_true, decide_false, Bool.false_eq_true, store_zero, store_succ, st_no, st_v, atI_pos, ix50, ix51, ix52, ix53, ix54, ixN_pos, Option.bind_some, List.nodup_nil, List.nodup_cons, List.mem_cons, List.not_mem_nil, or_false, or_true, false_or, not_false_eq_true, not_true, and_self, and_true, true_and, Bool.and_true, Bool.true_and, Bool.and_self, Bool.and_false, Bool.false_and, Bool.not_true, Bool.not_false, List.length_cons, List.length_nil, List.cons_append, List.nil_append, List.replicate, Out.map, List.append_eq, List.all_cons, List.all_nil, decide_not, ne_eq, lim_lit, List.length_map, Int.reduceLE, Int.reduceLT, Int.reduceToNat, Nat.reduceAdd, Nat.reduceSub, Nat.reduceLeDiff, Nat.reduceEqDiff, Int.reduceNeg, Int.reduceEq, Nat.reduceLT, Nat.reduceMul, mulI, fdivI, rngI1, rngI2, Int.cast_ofNat_Int, Int.toNat_natCast, Option.bind_none, Option.map_none, Int.reduceAdd, Int.reduceSub, compTu, workD, nmD, fy, fl, hf]
  rintro _ rfl
  simp -implicitDefEqProofs (disch := first | assumption | exact st_no | exact st_v | exact fst_no | omega) only [xs1, xs2, xs3, rd, rds, vals, cont, Sl.cont, D.fz, fzL, cmpD, ordD, eqD_int, eqD_in, eqD_ni, eqD_nn, eqD_bb, isD, D.isNon, idx_tup, idx_lst, idx_ro, idx_own, addI, subI, fdivD, modD, negD, truD, bltD, lenD_items, listD, tupleD, absD_int, intD, tyD, D.items, D.isL, mutD, appD, extD, mutArgs, argsOf, argOf, lentS, places, back, backOne, outs, setL, ownAt, parS, lock, unlock, wipeS, putBack, free_zero, free_succ, fst_no, fst_v, rngOf1, rngOf2, srcOf, kit_bb, wp_some, retq_rt, retq_nx, turn_nx, turn_ct, turnp_nx, turnp_ct, turnp_rt, turnp_bk, Option.toList, Int.zero_add, Int.sub_zero, List.getElem?_cons_succ, List.getElem?_cons_zero, List.set_cons_succ, List.set_cons_zero, Option.bind_some, Option.map_some, if_true, if_false, decide_true, decide_false, Bool.false_eq_true, store_zero, store_succ, st_no, st_v, atI_pos, ix50, ix51, ix52, ix53, ix54, ixN_pos, Option.bind_some, List.nodup_nil, List.nodup_cons, List.mem_cons, List.not_mem_nil, or_false, or_true, false_or, not_false_eq_true, not_true, and_self, and_true, true_and, Bool.and_true, Bool.true_and, Bool.and_self, Bool.and_false, Bool.false_and, Bool.not_true, Bool.not_false, List.length_cons, List.length_nil, List.cons_append, List.nil_append, List.replicate, Out.map, List.append_eq, List.all_cons, List.all_nil, decide_not, ne_eq, lim_lit, List.length_map, Int.reduceLE, Int.reduceLT, Int.reduceToNat, Nat.reduceAdd, Nat.reduceSub, Nat.reduceLeDiff, Nat.reduceEqDiff, Int.reduceNeg, Int.reduceEq, Nat.reduceLT, Nat.reduceMul, mulI, fdivI, rngI1, rngI2, Int.cast_ofNat_Int, Int.toNat_natCast, Option.bind_none, Option.map_none, Int.reduceAdd, Int.reduceSub, fy, fl, hf]
  repeat with_reducible refine wp_b ?_
  refine wp_mono (pick_ok (.inr ⟨_, .inr (.inl rfl), rfl, rfl⟩) hd (by omega) rfl (by simp) (by simp)) ?_
  rintro _ ⟨i, d1, rfl, hi, hd1⟩
  have hf1 := hd1.fz
  have hi : i < 8 := hi
  have hyw := hy.wk
  rcases (show i = 0 ∨ i = 1 ∨ i = 2 ∨ i = 3 ∨ i = 4 ∨ i = 5 ∨ i = 6 ∨ i = 7 by omega) with rfl | rfl | rfl | rfl | rfl | rfl | rfl | rfl <;> simp only [List.getD_cons_zero, List.getD_cons_succ]
  all_goals skip
  repeat' first
    | simp -implicitDefEqProofs (disch := first | assumption | exact st_no | exact st_v | exact fst_no | omega) only [xs1, xs2, xs3, rd, rds, vals, cont, Sl.cont, D.fz, fzL, cmpD, ordD, eqD_int, eqD_in, eqD_ni, eqD_nn, eqD_bb, isD, D.isNon, idx_tup, idx_lst, idx_ro, idx_own, addI, subI, fdivD, modD, negD, truD, bltD, lenD_items, listD, tupleD, absD_int, intD, tyD, D.items, D.isL, mutD, appD, extD, mutArgs, argsOf, argOf, lentS, places, back, backOne, outs, setL, ownAt, parS, lock, unlock, wipeS, putBack, free_zero, free_succ, fst_no, fst_v, rngOf1, rngOf2, srcOf, kit_bb, wp_some, retq_rt, retq_nx, turn_nx, turn_ct, turnp_nx, turnp_ct, turnp_rt, turnp_bk, Option.toList, Int.zero_add, Int.sub_zero, List.getElem?_cons_succ, List.getElem?_cons_zero, List.set_cons_succ, List.set_cons_zero, Option.bind_some, Option.map_some, if_true, if_false, decide_true, decide_false, Bool.false_eq_true, store_zero, store_succ, st_no, st_v, atI_pos, ix50, ix51, ix52, ix53, ix54, ixN_pos, Option.bind_some, List.nodup_nil, List.nodup_cons, List.mem_cons, List.not_mem_nil, or_false, or_true, false_or, not_false_eq_true, not_true, and_self, and_true, true_and, Bool.and_true, Bool.true_and, Bool.and_self, Bool.and_false, Bool.false_and, Bool.not_true, Bool.not_false, List.length_cons, List.length_nil, List.cons_append, List.nil_append, List.replicate, Out.map, List.append_eq, List.all_cons, List.all_nil, decide_not, ne_eq, lim_lit, List.length_map, Int.reduceLE, Int.reduceLT, Int.reduceToNat, Nat.reduceAdd, Nat.reduceSub, Nat.reduceLeDiff, Nat.reduceEqDiff, Int.reduceNeg, Int.reduceEq, Nat.reduceLT, Nat.reduceMul, mulI, fdivI, rngI1, rngI2, Int.cast_ofNat_Int, Int.toNat_natCast, Option.bind_none, Option.map_none, Int.reduceAdd, Int.reduceSub, wds, w_in, *]
    | ((repeat with_reducible refine wp_b ?_); refine wp_if (fun hc => ?_) (fun hc => ?_) <;> (try simp only [decide_eq_true_eq] at hc) <;> (try (exfalso; omega)))
    | ((repeat with_reducible refine wp_b ?_); (with_reducible apply wp_mono); (case h => ((with_reducible apply draw_ok); (try (case hd => assumption)); all_goals (first | assumption | omega))); rintro _ ⟨x, d1, rfl, x0, x1, hd1⟩; have hf1 := hd1.fz; (first | (refine giv (x1 ?_) ?_; omega; intro x1) | skip); (first | (refine giv (p := x < (ws.length : Int)) ?_ ?_; omega; intro h9; obtain ⟨a, ea, ha⟩ := nm_at (ws := ws) x0 h9 hyw) | skip); (first | (refine giv (p := x < (l.length : Int)) ?_ ?_; omega; intro h9; obtain ⟨p, ep⟩ := sp_at (l := l) x0 h9) | skip))
    | ((repeat with_reducible refine wp_b ?_); (with_reducible apply wp_mono); (case h => ((with_reducible apply near_ok); (try (case hd => assumption)); all_goals (first | assumption | omega))); rintro _ ⟨y, d1, rfl, y0, y1, hd1⟩; have hf1 := hd1.fz)
    | ((repeat with_reducible refine wp_b ?_); (with_reducible apply wp_mono); (case h => ((with_reducible apply pair_ok); (try (case hd => assumption)); all_goals (first | assumption | omega))); rintro _ ⟨i, j, d1, rfl, i0, i1, j0, j1, hd1⟩; have hf1 := hd1.fz; obtain ⟨a, ea, ha⟩ := nm_at (ws := ws) i0 (by omega) hyw; obtain ⟨b, eb, hb⟩ := nm_at (ws := ws) j0 (by omega) hyw; obtain ⟨p, ep⟩ := sp_at (l := l) i0 (by omega); obtain ⟨q, eq⟩ := sp_at (l := l) j0 (by omega))
    | ((repeat with_reducible refine wp_b ?_); (with_reducible apply wp_mono); (case h => ((with_reducible apply between_ok); (try (case hd => assumption)); all_goals (first | assumption | omega))); rintro _ ⟨z, d1, rfl, z0, z1, hd1⟩; have hf1 := hd1.fz)
  all_goals first
    | exact ⟨.frm _ _, _, rfl, by assumption, Dd.mono (by assumption) (by omega)⟩
    | exact ⟨.by_ _ _, _, rfl, by assumption, Dd.mono (by assumption) (by omega)⟩
    | exact ⟨.hold _ _ _, _, rfl, ⟨by assumption, by assumption⟩, Dd.mono (by assumption) (by omega)⟩
    | exact ⟨.meet _ _ _, _, rfl, ⟨by assumption, by assumption⟩, Dd.mono (by assumption) (by omega)⟩
    | exact ⟨.gap true _ _ _ none, _, rfl, ⟨by assumption, by assumption⟩, Dd.mono (by assumption) (by omega)⟩
    | exact ⟨.gap false _ _ _ none, _, rfl, ⟨by assumption, by assumption⟩, Dd.mono (by assumption) (by omega)⟩
    | exact ⟨.gap true _ _ _ (some _), _, rfl, ⟨by assumption, by assumption⟩, Dd.mono (by assumption) (by omega)⟩
    | exact ⟨.gap false _ _ _ (some _), _, rfl, ⟨by assumption, by assumption⟩, Dd.mono (by assumption) (by omega)⟩
end
end K09


set_option maxRecDepth 100000
set_option maxHeartbeats 4000000
namespace K09
open PySem Co
theorem pool_eq {k : Nat} : ∃ l : List Str, evF T 1000 (k + 1) 13 [] = some (.own (l.map D.str), []) ∧ l.length = 55 ∧ OkS l ∧ l.Nodup := by
  refine ⟨[("w" : Str), ("run" : Str), ("m7" : Str), ("e" : Str), ("feeder" : Str), ("north12" : Str), ("b2b" : Str), ("k" : Str), ("loads" : Str), ("slow9" : Str), ("q" : Str), ("unload" : Str), ("ab" : Str), ("main" : Str), ("x1" : Str), ("express" : Str), ("z" : Str), ("turn2" : Str), ("cargo" : Str), ("p" : Str), ("oil" : Str), ("y0" : Str), ("timber" : Str), ("grain4" : Str), ("d" : Str), ("ore" : Str), ("c3" : Str), ("empties" : Str), ("g" : Str), ("steel77" : Str), ("post" : Str), ("j" : Str), ("milk" : Str), ("t8" : Str), ("quarry" : Str), ("v" : Str), ("sand" : Str), ("o" : Str), ("coal" : Str), ("n5" : Str), ("f" : Str), ("lime" : Str), ("u2" : Str), ("beet" : Str), ("i" : Str), ("scrap" : Str), ("h4" : Str), ("salt" : Str), ("l" : Str), ("zinc" : Str), ("r6" : Str), ("s" : Str), ("coalmine" : Str), ("a1b2c3d4" : Str), ("hub" : Str)], rfl, rfl, ?_, ?_⟩
  · unfold OkS; decide +kernel
  · decide +kernel
section
variable {k n B : Nat} {hor : Int} {ws : List Wk} {pr : List D} {hs : List Hm} {day d : D}
theorem workD_def (w : Wk) : workD w = .tup [.str w.nm, .str w.y1, .str w.y2, .str w.cg, .int w.a, .int w.b] := rfl
def rngI (n : Int) : List Int := (List.range n.toNat).map fun (k : Nat) => (k : Int)
theorem shufR_ok {n : Int} (hd : Dd B d) (hB : B ≤ 700000000) (hn : 0 ≤ n ∧ n ≤ 1000) :
    Wp (fun r => ∃ (p : List Int) (d' : D), r = (.own (p.map D.int), [.bo d', .no]) ∧ p.Perm (rngI n) ∧ Dd (B + n.toNat) d') (evF T 1000 (k + 3) 10 [.bo d, .v (.own (rngD 0 n))]) := by
  rw [rngd_map]
  refine wp_mono (shuffled_ok hd (by omega) (fzL_ints _) (by rw [List.length_map, List.length_map, List.length_range]; omega)) ?_
  rintro _ ⟨m, d', rfl, hp, hd'⟩
  obtain ⟨p, rfl, hp2⟩ := perm_unmap (f := D.int) (l := rngI n) hp
  exact ⟨p, d', rfl, hp2, by simpa using hd'⟩
theorem rngI_mem {n : Int} {p : List Int} (h : p.Perm (rngI n)) : (∀ i : Int, 0 ≤ i → i < p.length → i ∈ p) ∧ p.length = n.toNat := by
  have hl : p.length = n.toNat := by rw [h.length_eq]; simp [rngI]
  refine ⟨fun i h0 h1 => h.mem_iff.mpr ?_, hl⟩
  exact List.mem_map.mpr ⟨i.toNat, List.mem_range.mpr (by omega), by omega⟩
theorem popS_ok {l : List Str} (hd : Dd B d) (hB : B ≤ 900000000) (h1 : 1 ≤ l.length) (h2 : l.length ≤ 1000) :
    Wp (fun r => ∃ x l' d', r = (.str x, [.bo d', .bo (.own (l'.map D.str))]) ∧ (x :: l').Perm l ∧ l'.length + 1 = l.length ∧ Dd (B + 1) d') (evF T 1000 (k + 2) 7 [.bo d, .bo (.own (l.map D.str))]) := by
  refine wp_mono (pop_ok hd hB (fz_str l) (by simpa using h1) (by simpa using h2)) ?_
  rintro _ ⟨n, d', rfl, hn, hd'⟩
  rw [List.length_map] at hn
  exact ⟨l[n], l.eraseIdx n, d', by rw [getD_map hn, map_erase], erase_perm hn, by rw [List.length_eraseIdx_of_lt hn]; omega, hd'⟩
theorem pickS_ok {l : List Str} (hd : Dd B d) (hB : B ≤ 900000000) (h1 : 1 ≤ l.length) (h2 : l.length ≤ 1000) :
    Wp (fun r => ∃ x d', r = (.str x, [.bo d', .bo (.own (l.map D.str))]) ∧ x ∈ l ∧ Dd (B + 1) d') (evF T 1000 (k + 2) 6 [.bo d, .bo (.own (l.map D.str))]) := by
  refine wp_mono (pick_ok (.inl ⟨rfl, rfl⟩) hd hB (fz_str l) (by simpa using h1) (by simpa using h2)) ?_
  rintro _ ⟨n, d', rfl, hn, hd'⟩
  rw [List.length_map] at hn
  exact ⟨l[n], d', by rw [getD_map hn], List.getElem_mem hn, hd'⟩
def WksOk (ws : List Wk) : Prop := ∀ w ∈ ws, WkOk w
theorem WksOk.nil : WksOk [] := by intro w h; cases h
theorem WksOk.app {ws : List Wk} {w : Wk} (h : WksOk ws) (hw : WkOk w) : WksOk (ws ++ [w]) := by
  intro v hv
  rcases List.mem_append.mp hv with hv | hv
  · exact h v hv
  · have : v = w := by simpa using hv
    rw [this]; exact hw
def HmsOk (hs : List Hm) : Prop := ∀ h ∈ hs, HmOk h
theorem HmsOk.nil : HmsOk [] := by intro w h; cases h
theorem HmsOk.app {ws : List Hm} {w : Hm} (h : HmsOk ws) (hw : HmOk w) : HmsOk (ws ++ [w]) := by
  intro v hv
  rcases List.mem_append.mp hv with hv | hv
  · exact h v hv
  · have : v = w := by simpa using hv
    rw [this]; exact hw
theorem frame_ok {m : Nat} {lo : Int} (hd : Dd B d) (hB : B ≤ 600000000) (hm : 1 ≤ m ∧ m ≤ 10) (hlo : 1 ≤ lo ∧ lo ≤ 60) :
    Wp (fun r => ∃ hor ws hs day l' d', r = (.tup [day, .lst l'], [.bo d', .no, .no]) ∧ DayD m hor ws [] hs day ∧ Dd (B + 1000) d') (evF T 1000 (k + 4) 21 [.bo d, .v (.int m), .v (.int lo)]) := by
  refine evF_wp T__law_frame rfl ?_
  have hf := hd.fz
  obtain ⟨pl, e0, hl0, hok, _⟩ := pool_eq (k := k + 2)
  have fp := fz_str pl
  simp -implicitDefEqProofs (disch := first | assumption | exact st_no | exact st_v | exact fst_no | omega) only [xs1, xs2, xs3, rd, rds, vals, cont, Sl.cont, D.fz, fzL, cmpD, ordD, eqD_int, eqD_in, eqD_ni, eqD_nn, eqD_bb, isD, D.isNon, idx_tup, idx_lst, idx_ro, idx_own, addI, subI, fdivD, modD, negD, truD, bltD, lenD_items, listD, tupleD, absD_int, intD, tyD, D.items, D.isL, mutD, appD, extD, mutArgs, argsOf, argOf, lentS, places, back, backOne, outs, setL, ownAt, parS, lock, unlock, wipeS, putBack, free_zero, free_succ, fst_no, fst_v, rngOf1, rngOf2, srcOf, kit_bb, wp_some, retq_rt, retq_nx, turn_nx, turn_ct, turnp_nx, turnp_ct, turnp_rt, turnp_bk, Option.toList, Int.zero_add, Int.sub_zero, List.getElem?_cons_succ, List.getElem?_cons_zero, List.set_cons_succ, List.set_cons_zero, Option.bind_some, Option.map_some, if_true, if_false, decide_true, decide_false, Bool.false_eq_true, store_zero, store_succ, st_no, st_v, atI_pos, ix50, ix51, ix52, ix53, ix54, ixN_pos, Option.bind_some, List.nodup_nil, List.nodup_cons, List.mem_cons, List.not_mem_nil, or_false, or_true, false_or, not_false_eq_true, not_true, and_self, and_true, true_and, Bool.and_true, Bool.true_and, Bool.and_self, Bool.and_false, Bool.false_and, Bool.not_true, Bool.not_false, List.length_cons, List.length_nil, List.cons_append, List.nil_append, List.replicate, Out.map, List.append_eq, List.all_cons, List.all_nil, decide_not, ne_eq, lim_lit, List.length_map, Int.reduceLE, Int.reduceLT, Int.reduceToNat, Nat.reduceAdd, Nat.reduceSub, Nat.reduceLeDiff, Nat.reduceEqDiff, Int.reduceNeg, Int.reduceEq, Nat.reduceLT, Nat.reduceMul, mulI, fdivI, rngI1, rngI2, Int.cast_ofNat_Int, Int.toNat_natCast, Option.bind_none, Option.map_none, Int.reduceAdd, Int.reduceSub, b__law_frame, *]
  repeat' first
    | simp -implicitDefEqProofs (disch := first | assumption | exact st_no | exact st_v | exact fst_no | omega) only [xs1, xs2, xs3, rd, rds, vals, cont, Sl.cont, D.fz, fzL, cmpD, ordD, eqD_int, eqD_in, eqD_ni, eqD_nn, eqD_bb, isD, D.isNon, idx_tup, idx_lst, idx_ro, idx_own, addI, subI, fdivD, modD, negD, truD, bltD, lenD_items, listD, tupleD, absD_int, intD, tyD, D.items, D.isL, mutD, appD, extD, mutArgs, argsOf, argOf, lentS, places, back, backOne, outs, setL, ownAt, parS, lock, unlock, wipeS, putBack, free_zero, free_succ, fst_no, fst_v, rngOf1, rngOf2, srcOf, kit_bb, wp_some, retq_rt, retq_nx, turn_nx, turn_ct, turnp_nx, turnp_ct, turnp_rt, turnp_bk, Option.toList, Int.zero_add, Int.sub_zero, List.getElem?_cons_succ, List.getElem?_cons_zero, List.set_cons_succ, List.set_cons_zero, Option.bind_some, Option.map_some, if_true, if_false, decide_true, decide_false, Bool.false_eq_true, store_zero, store_succ, st_no, st_v, atI_pos, ix50, ix51, ix52, ix53, ix54, ixN_pos, Option.bind_some, List.nodup_nil, List.nodup_cons, List.mem_cons, List.not_mem_nil, or_false, or_true, false_or, not_false_eq_true, not_true, and_self, and_true, true_and, Bool.and_true, Bool.true_and, Bool.and_self, Bool.and_false, Bool.false_and, Bool.not_true, Bool.not_false, List.length_cons, List.length_nil, List.cons_append, List.nil_append, List.replicate, Out.map, List.append_eq, List.all_cons, List.all_nil, decide_not, ne_eq, lim_lit, List.length_map, Int.reduceLE, Int.reduceLT, Int.reduceToNat, Nat.reduceAdd, Nat.reduceSub, Nat.reduceLeDiff, Nat.reduceEqDiff, Int.reduceNeg, Int.reduceEq, Nat.reduceLT, Nat.reduceMul, mulI, fdivI, rngI1, rngI2, Int.cast_ofNat_Int, Int.toNat_natCast, Option.bind_none, Option.map_none, Int.reduceAdd, Int.reduceSub, *]
    | ((repeat with_reducible refine wp_b ?_); refine wp_if (fun hc => ?_) (fun hc => ?_) <;> (try simp only [decide_eq_true_eq] at hc) <;> (try (exfalso; omega)))
    | ((repeat with_reducible refine wp_b ?_); (with_reducible apply wp_mono); (case h => ((with_reducible apply draw_ok); (try (case hd => assumption)); all_goals (first | assumption | omega))); rintro _ ⟨x, d1, rfl, x0, x1, hd1⟩; have hf1 := hd1.fz; (first | (refine giv (x1 ?_) ?_; omega; intro x1) | skip))
    | ((repeat with_reducible refine wp_b ?_); (with_reducible apply wp_mono); (case h => ((with_reducible apply between_ok); (try (case hd => assumption)); all_goals (first | assumption | omega))); rintro _ ⟨z, d1, rfl, z0, z1, hd1⟩; have hf1 := hd1.fz; (first | (refine giv (z1 ?_) ?_; omega; intro z1) | skip))
    | ((repeat with_reducible refine wp_b ?_); (with_reducible apply wp_mono); (case h => ((with_reducible apply shufR_ok); (try (case hd => assumption)); all_goals (first | assumption | omega))); rintro _ ⟨p, d1, rfl, hpp, hd1⟩; have hf1 := hd1.fz; have fpi := fzL_ints p)
    | ((repeat with_reducible refine wp_b ?_); (with_reducible apply wp_mono); (case h => ((with_reducible apply pickS_ok); (try (case hd => assumption)); all_goals (first | assumption | omega))); rintro _ ⟨w, d1, rfl, hw, hd1⟩; have hf1 := hd1.fz)
    | ((repeat with_reducible refine wp_b ?_); (with_reducible apply wp_mono); (case h => ((with_reducible apply popS_ok); (try (case hd => assumption)); all_goals (first | assumption | omega))); rintro _ ⟨y, l', d1, rfl, hp, hl', hd1⟩; have hf1 := hd1.fz; (first | (have hok' := OkS.perm hp hok); have yok := hok' y (by simp); have hok := OkS.tail hok' | skip))
  have hfree : ∀ (t : Int), (1 + x) - 0 = t → (rngD 0 (1 + x)).length = (1 + x).toNat := fun _ _ => by rw [rngd_len, Int.sub_zero]
  repeat with_reducible refine wp_b ?_
  refine wp_comp (fun i acc ρ => ∃ (l ys : List Str) (d' : D), ρ = [.bo d', .v (.int m), .v (.int lo), .v (.own (l.map D.str)), .no, .no, .no, .no, .no, .no, .no, .no, .no, .no, .no, .no] ∧ acc = ys.map D.str ∧ OkS l ∧ OkS ys ∧ ys.length = i ∧ l.length + i = 55 ∧ Dd (B + 1 + i) d') ?_ ?_ ?_ ?_
  · exact ⟨pl, [], d1, rfl, rfl, hok, OkS.nil, rfl, by omega, by simpa using hd1⟩
  · rw [rngd_len, lim_lit]; simp; omega
  · rintro i v acc _ hi ⟨l, ys, d0, rfl, rfl, hok, hys, hyl, hll, hd0⟩
    obtain ⟨rfl, hlt⟩ := rngd_get hi
    have hf0 := hd0.fz
    have fl := fz_str l
    simp -implicitDefEqProofs (disch := first | assumption | exact st_no | exact st_v | exact fst_no | omega) only [xs1, xs2, xs3, rd, rds, vals, cont, Sl.cont, D.fz, fzL, cmpD, ordD, eqD_int, eqD_in, eqD_ni, eqD_nn, eqD_bb, isD, D.isNon, idx_tup, idx_lst, idx_ro, idx_own, addI, subI, fdivD, modD, negD, truD, bltD, lenD_items, listD, tupleD, absD_int, intD, tyD, D.items, D.isL, mutD, appD, extD, mutArgs, argsOf, argOf, lentS, places, back, backOne, outs, setL, ownAt, parS, lock, unlock, wipeS, putBack, free_zero, free_succ, fst_no, fst_v, rngOf1, rngOf2, srcOf, kit_bb, wp_some, retq_rt, retq_nx, turn_nx, turn_ct, turnp_nx, turnp_ct, turnp_rt, turnp_bk, Option.toList, Int.zero_add, Int.sub_zero, List.getElem?_cons_succ, List.getElem?_cons_zero, List.set_cons_succ, List.set_cons_zero, Option.bind_some, Option.map_some, if_true, if_false, decide_true, decide_false, Bool.false_eq_true, store_zero, store_succ, st_no, st_v, atI_pos, ix50, ix51, ix52, ix53, ix54, ixN_pos, Option.bind_some, List.nodup_nil, List.nodup_cons, List.mem_cons, List.not_mem_nil, or_false, or_true, false_or, not_false_eq_true, not_true, and_self, and_true, true_and, Bool.and_true, Bool.true_and, Bool.and_self, Bool.and_false, Bool.false_and, Bool.not_true, Bool.not_false, List.length_cons, List.length_nil, List.cons_append, List.nil_append, List.replicate, Out.map, List.append_eq, List.all_cons, List.all_nil, decide_not, ne_eq, lim_lit, List.length_map, Int.reduceLE, Int.reduceLT, Int.reduceToNat, Nat.reduceAdd, Nat.reduceSub, Nat.reduceLeDiff, Nat.reduceEqDiff, Int.reduceNeg, Int.reduceEq, Nat.reduceLT, Nat.reduceMul, mulI, fdivI, rngI1, rngI2, Int.cast_ofNat_Int, Int.toNat_natCast, Option.bind_none, Option.map_none, Int.reduceAdd, Int.reduceSub, compTu, *]
    repeat' first
      | simp -implicitDefEqProofs (disch := first | assumption | exact st_no | exact st_v | exact fst_no | omega) only [xs1, xs2, xs3, rd, rds, vals, cont, Sl.cont, D.fz, fzL, cmpD, ordD, eqD_int, eqD_in, eqD_ni, eqD_nn, eqD_bb, isD, D.isNon, idx_tup, idx_lst, idx_ro, idx_own, addI, subI, fdivD, modD, negD, truD, bltD, lenD_items, listD, tupleD, absD_int, intD, tyD, D.items, D.isL, mutD, appD, extD, mutArgs, argsOf, argOf, lentS, places, back, backOne, outs, setL, ownAt, parS, lock, unlock, wipeS, putBack, free_zero, free_succ, fst_no, fst_v, rngOf1, rngOf2, srcOf, kit_bb, wp_some, retq_rt, retq_nx, turn_nx, turn_ct, turnp_nx, turnp_ct, turnp_rt, turnp_bk, Option.toList, Int.zero_add, Int.sub_zero, List.getElem?_cons_succ, List.getElem?_cons_zero, List.set_cons_succ, List.set_cons_zero, Option.bind_some, Option.map_some, if_true, if_false, decide_true, decide_false, Bool.false_eq_true, store_zero, store_succ, st_no, st_v, atI_pos, ix50, ix51, ix52, ix53, ix54, ixN_pos, Option.bind_some, List.nodup_nil, List.nodup_cons, List.mem_cons, List.not_mem_nil, or_false, or_true, false_or, not_false_eq_true, not_true, and_self, and_true, true_and, Bool.and_true, Bool.true_and, Bool.and_self, Bool.and_false, Bool.false_and, Bool.not_true, Bool.not_false, List.length_cons, List.length_nil, List.cons_append, List.nil_append, List.replicate, Out.map, List.append_eq, List.all_cons, List.all_nil, decide_not, ne_eq, lim_lit, List.length_map, Int.reduceLE, Int.reduceLT, Int.reduceToNat, Nat.reduceAdd, Nat.reduceSub, Nat.reduceLeDiff, Nat.reduceEqDiff, Int.reduceNeg, Int.reduceEq, Nat.reduceLT, Nat.reduceMul, mulI, fdivI, rngI1, rngI2, Int.cast_ofNat_Int, Int.toNat_natCast, Option.bind_none, Option.map_none, Int.reduceAdd, Int.reduceSub, *]
      | ((repeat with_reducible refine wp_b ?_); refine wp_if (fun hc => ?_) (fun hc => ?_) <;> (try simp only [decide_eq_true_eq] at hc) <;> (try (exfalso; omega)))
      | ((repeat with_reducible refine wp_b ?_); (with_reducible apply wp_mono); (case h => ((with_reducible apply draw_ok); (try (case hd => assumption)); all_goals (first | assumption | omega))); rintro _ ⟨x, d1, rfl, x0, x1, hd1⟩; have hf1 := hd1.fz; (first | (refine giv (x1 ?_) ?_; omega; intro x1) | skip))
      | ((repeat with_reducible refine wp_b ?_); (with_reducible apply wp_mono); (case h => ((with_reducible apply between_ok); (try (case hd => assumption)); all_goals (first | assumption | omega))); rintro _ ⟨z, d1, rfl, z0, z1, hd1⟩; have hf1 := hd1.fz; (first | (refine giv (z1 ?_) ?_; omega; intro z1) | skip))
      | ((repeat with_reducible refine wp_b ?_); (with_reducible apply wp_mono); (case h => ((with_reducible apply shufR_ok); (try (case hd => assumption)); all_goals (first | assumption | omega))); rintro _ ⟨p, d1, rfl, hpp, hd1⟩; have hf1 := hd1.fz; have fpi := fzL_ints p)
      | ((repeat with_reducible refine wp_b ?_); (with_reducible apply wp_mono); (case h => ((with_reducible apply pickS_ok); (try (case hd => assumption)); all_goals (first | assumption | omega))); rintro _ ⟨w, d1, rfl, hw, hd1⟩; have hf1 := hd1.fz)
      | ((repeat with_reducible refine wp_b ?_); (with_reducible apply wp_mono); (case h => ((with_reducible apply popS_ok); (try (case hd => assumption)); all_goals (first | assumption | omega))); rintro _ ⟨y, l', d1, rfl, hp, hl', hd1⟩; have hf1 := hd1.fz; (first | (have hok' := OkS.perm hp hok); have yok := hok' y (by simp); have hok := OkS.tail hok' | skip))
    exact ⟨l', ys ++ [y], d1, rfl, by simp, hok, hys.app yok, by simp [hyl], by omega, hd1⟩
  rintro acc _ ⟨l, ys, d0, rfl, rfl, hok, hys, hyl, hll, hd0⟩ _
  rw [rngd_len] at hyl hll hd0
  have hyl2 : 1 ≤ ys.length ∧ ys.length ≤ 2 := by omega
  have hll2 : 53 ≤ l.length ∧ l.length ≤ 54 := by omega
  have hd0 := hd0.mono (show _ ≤ B + 3 by omega)
  clear hyl hll hfree
  have hf0 := hd0.fz
  have fl := fz_str l
  have fys := fz_str ys
  simp -implicitDefEqProofs (disch := first | assumption | exact st_no | exact st_v | exact fst_no | omega) only [xs1, xs2, xs3, rd, rds, vals, cont, Sl.cont, D.fz, fzL, cmpD, ordD, eqD_int, eqD_in, eqD_ni, eqD_nn, eqD_bb, isD, D.isNon, idx_tup, idx_lst, idx_ro, idx_own, addI, subI, fdivD, modD, negD, truD, bltD, lenD_items, listD, tupleD, absD_int, intD, tyD, D.items, D.isL, mutD, appD, extD, mutArgs, argsOf, argOf, lentS, places, back, backOne, outs, setL, ownAt, parS, lock, unlock, wipeS, putBack, free_zero, free_succ, fst_no, fst_v, rngOf1, rngOf2, srcOf, kit_bb, wp_some, retq_rt, retq_nx, turn_nx, turn_ct, turnp_nx, turnp_ct, turnp_rt, turnp_bk, Option.toList, Int.zero_add, Int.sub_zero, List.getElem?_cons_succ, List.getElem?_cons_zero, List.set_cons_succ, List.set_cons_zero, Option.bind_some, Option.map_some, if_true, if_false, decide_true, decide_false, Bool.false_eq_true, store_zero, store_succ, st_no, st_v, atI_pos, ix50, ix51, ix52, ix53, ix54, ixN_pos, Option.bind_some, List.nodup_nil, List.nodup_cons, List.mem_cons, List.not_mem_nil, or_false, or_true, false_or, not_false_eq_true, not_true, and_self, and_true, true_and, Bool.and_true, Bool.true_and, Bool.and_self, Bool.and_false, Bool.false_and, Bool.not_true, Bool.not_false, List.length_cons, List.length_nil, List.cons_append, List.nil_append, List.replicate, Out.map, List.append_eq, List.all_cons, List.all_nil, decide_not, ne_eq, lim_lit, List.length_map, Int.reduceLE, Int.reduceLT, Int.reduceToNat, Nat.reduceAdd, Nat.reduceSub, Nat.reduceLeDiff, Nat.reduceEqDiff, Int.reduceNeg, Int.reduceEq, Nat.reduceLT, Nat.reduceMul, mulI, fdivI, rngI1, rngI2, Int.cast_ofNat_Int, Int.toNat_natCast, Option.bind_none, Option.map_none, Int.reduceAdd, Int.reduceSub, *]
  repeat with_reducible refine wp_b ?_
  refine wp_forR (fun i ρ => ∃ (l : List Str) (ws : List Wk) (d' : D) (s12 s13 s6 : Sl), ρ = [.bo d', .v (.int m), .v (.int lo), .v (.own (l.map D.str)), .v (.own (ys.map D.str)), .v (.own (ws.map workD)), s6, .no, .no, .no, .no, .no, s12, s13, .no, .no] ∧ St s6 ∧ St s12 ∧ St s13 ∧ OkS l ∧ 53 ≤ l.length + 2 * i ∧ l.length ≤ 54 ∧ ws.length = i ∧ WksOk ws ∧ Dd (B + 3 + 6 * i) d') ?_ ?_ ?_
  · exact ⟨l, [], d0, _, _, _, rfl, st_no, st_no, st_no, hok, by omega, by omega, rfl, WksOk.nil, by simpa using hd0⟩
  · rintro i _ hlt ⟨l, ws, d0, s12, s13, s6, rfl, h6, h12, h13, hok, hl1, hl2, hwl, hwk, hd0⟩
    have hf0 := hd0.fz
    have fl := fz_str l
    have fws := fz_wk ws
    have hap : ws.length < 16777216 := by omega
    simp -implicitDefEqProofs (disch := first | assumption | exact st_no | exact st_v | exact fst_no | omega) only [xs1, xs2, xs3, rd, rds, vals, cont, Sl.cont, D.fz, fzL, cmpD, ordD, eqD_int, eqD_in, eqD_ni, eqD_nn, eqD_bb, isD, D.isNon, idx_tup, idx_lst, idx_ro, idx_own, addI, subI, fdivD, modD, negD, truD, bltD, lenD_items, listD, tupleD, absD_int, intD, tyD, D.items, D.isL, mutD, appD, extD, mutArgs, argsOf, argOf, lentS, places, back, backOne, outs, setL, ownAt, parS, lock, unlock, wipeS, putBack, free_zero, free_succ, fst_no, fst_v, rngOf1, rngOf2, srcOf, kit_bb, wp_some, retq_rt, retq_nx, turn_nx, turn_ct, turnp_nx, turnp_ct, turnp_rt, turnp_bk, Option.toList, Int.zero_add, Int.sub_zero, List.getElem?_cons_succ, List.getElem?_cons_zero, List.set_cons_succ, List.set_cons_zero, Option.bind_some, Option.map_some, if_true, if_false, decide_true, decide_false, Bool.false_eq_true, store_zero, store_succ, st_no, st_v, atI_pos, ix50, ix51, ix52, ix53, ix54, ixN_pos, Option.bind_some, List.nodup_nil, List.nodup_cons, List.mem_cons, List.not_mem_nil, or_false, or_true, false_or, not_false_eq_true, not_true, and_self, and_true, true_and, Bool.and_true, Bool.true_and, Bool.and_self, Bool.and_false, Bool.false_and, Bool.not_true, Bool.not_false, List.length_cons, List.length_nil, List.cons_append, List.nil_append, List.replicate, Out.map, List.append_eq, List.all_cons, List.all_nil, decide_not, ne_eq, lim_lit, List.length_map, Int.reduceLE, Int.reduceLT, Int.reduceToNat, Nat.reduceAdd, Nat.reduceSub, Nat.reduceLeDiff, Nat.reduceEqDiff, Int.reduceNeg, Int.reduceEq, Nat.reduceLT, Nat.reduceMul, mulI, fdivI, rngI1, rngI2, Int.cast_ofNat_Int, Int.toNat_natCast, Option.bind_none, Option.map_none, Int.reduceAdd, Int.reduceSub, forTu, *]
    repeat' first
      | simp -implicitDefEqProofs (disch := first | assumption | exact st_no | exact st_v | exact fst_no | omega) only [xs1, xs2, xs3, rd, rds, vals, cont, Sl.cont, D.fz, fzL, cmpD, ordD, eqD_int, eqD_in, eqD_ni, eqD_nn, eqD_bb, isD, D.isNon, idx_tup, idx_lst, idx_ro, idx_own, addI, subI, fdivD, modD, negD, truD, bltD, lenD_items, listD, tupleD, absD_int, intD, tyD, D.items, D.isL, mutD, appD, extD, mutArgs, argsOf, argOf, lentS, places, back, backOne, outs, setL, ownAt, parS, lock, unlock, wipeS, putBack, free_zero, free_succ, fst_no, fst_v, rngOf1, rngOf2, srcOf, kit_bb, wp_some, retq_rt, retq_nx, turn_nx, turn_ct, turnp_nx, turnp_ct, turnp_rt, turnp_bk, Option.toList, Int.zero_add, Int.sub_zero, List.getElem?_cons_succ, List.getElem?_cons_zero, List.set_cons_succ, List.set_cons_zero, Option.bind_some, Option.map_some, if_true, if_false, decide_true, decide_false, Bool.false_eq_true, store_zero, store_succ, st_no, st_v, atI_pos, ix50, ix51, ix52, ix53, ix54, ixN_pos, Option.bind_some, List.nodup_nil, List.nodup_cons, List.mem_cons, List.not_mem_nil, or_false, or_true, false_or, not_false_eq_true, not_true, and_self, and_true, true_and, Bool.and_true, Bool.true_and, Bool.and_self, Bool.and_false, Bool.false_and, Bool.not_true, Bool.not_false, List.length_cons, List.length_nil, List.cons_append, List.nil_append, List.replicate, Out.map, List.append_eq, List.all_cons, List.all_nil, decide_not, ne_eq, lim_lit, List.length_map, Int.reduceLE, Int.reduceLT, Int.reduceToNat, Nat.reduceAdd, Nat.reduceSub, Nat.reduceLeDiff, Nat.reduceEqDiff, Int.reduceNeg, Int.reduceEq, Nat.reduceLT, Nat.reduceMul, mulI, fdivI, rngI1, rngI2, Int.cast_ofNat_Int, Int.toNat_natCast, Option.bind_none, Option.map_none, Int.reduceAdd, Int.reduceSub, minI, *]
      | ((repeat with_reducible refine wp_b ?_); refine wp_if (fun hc => ?_) (fun hc => ?_) <;> (try simp only [decide_eq_true_eq] at hc) <;> (try (exfalso; omega)))
      | ((repeat with_reducible refine wp_b ?_); (with_reducible apply wp_mono); (case h => ((with_reducible apply draw_ok); (try (case hd => assumption)); all_goals (first | assumption | omega))); rintro _ ⟨x, d1, rfl, x0, x1, hd1⟩; have hf1 := hd1.fz; (first | (refine giv (x1 ?_) ?_; omega; intro x1) | skip))
      | ((repeat with_reducible refine wp_b ?_); (with_reducible apply wp_mono); (case h => ((with_reducible apply between_ok); (try (case hd => assumption)); all_goals (first | assumption | omega))); rintro _ ⟨z, d1, rfl, z0, z1, hd1⟩; have hf1 := hd1.fz; (first | (refine giv (z1 ?_) ?_; omega; intro z1) | skip))
      | ((repeat with_reducible refine wp_b ?_); (with_reducible apply wp_mono); (case h => ((with_reducible apply shufR_ok); (try (case hd => assumption)); all_goals (first | assumption | omega))); rintro _ ⟨p, d1, rfl, hpp, hd1⟩; have hf1 := hd1.fz; have fpi := fzL_ints p)
      | ((repeat with_reducible refine wp_b ?_); (with_reducible apply wp_mono); (case h => ((with_reducible apply pickS_ok); (try (case hd => assumption)); all_goals (first | assumption | omega))); rintro _ ⟨w, d1, rfl, hw, hd1⟩; have hf1 := hd1.fz)
      | ((repeat with_reducible refine wp_b ?_); (with_reducible apply wp_mono); (case h => ((with_reducible apply popS_ok); (try (case hd => assumption)); all_goals (first | assumption | omega))); rintro _ ⟨y, l', d1, rfl, hp, hl', hd1⟩; have hf1 := hd1.fz; (first | (have hok' := OkS.perm hp hok); have yok := hok' y (by simp); have hok := OkS.tail hok' | skip))
    rename_i y1 l1 _ hp1 hl1' _ _ _ yok1 _ w1 _ hw1 _ _ _ _ _
    exact ⟨l', ws ++ [⟨y1, w1, w, y, z, z + x⟩], d1, .v (.int z), .v (.int (z + x)), .v (.int i), by simp [workD], st_v, st_v, st_v, hok, by omega, by omega, by simp [hwl], hwk.app ⟨yok1, z0, show z ≤ 60 by omega, show z ≤ z + x by omega, show z + x ≤ 120 by omega⟩, hd1.mono (by omega)⟩
  rintro _ ⟨l, ws, d0, s12, s13, s6, rfl, h6, h12, h13, hok, hl1, hl2, hwl, hwk, hd0⟩
  rw [Int.toNat_natCast] at hwl hd0
  have hd0 := hd0.mono (show _ ≤ B + 63 by omega)
  have hf0 := hd0.fz
  have fl := fz_str l
  have fws := fz_wk ws
  clear hl1
  simp -implicitDefEqProofs (disch := first | assumption | exact st_no | exact st_v | exact fst_no | omega) only [xs1, xs2, xs3, rd, rds, vals, cont, Sl.cont, D.fz, fzL, cmpD, ordD, eqD_int, eqD_in, eqD_ni, eqD_nn, eqD_bb, isD, D.isNon, idx_tup, idx_lst, idx_ro, idx_own, addI, subI, fdivD, modD, negD, truD, bltD, lenD_items, listD, tupleD, absD_int, intD, tyD, D.items, D.isL, mutD, appD, extD, mutArgs, argsOf, argOf, lentS, places, back, backOne, outs, setL, ownAt, parS, lock, unlock, wipeS, putBack, free_zero, free_succ, fst_no, fst_v, rngOf1, rngOf2, srcOf, kit_bb, wp_some, retq_rt, retq_nx, turn_nx, turn_ct, turnp_nx, turnp_ct, turnp_rt, turnp_bk, Option.toList, Int.zero_add, Int.sub_zero, List.getElem?_cons_succ, List.getElem?_cons_zero, List.set_cons_succ, List.set_cons_zero, Option.bind_some, Option.map_some, if_true, if_false, decide_true, decide_false, Bool.false_eq_true, store_zero, store_succ, st_no, st_v, atI_pos, ix50, ix51, ix52, ix53, ix54, ixN_pos, Option.bind_some, List.nodup_nil, List.nodup_cons, List.mem_cons, List.not_mem_nil, or_false, or_true, false_or, not_false_eq_true, not_true, and_self, and_true, true_and, Bool.and_true, Bool.true_and, Bool.and_self, Bool.and_false, Bool.false_and, Bool.not_true, Bool.not_false, List.length_cons, List.length_nil, List.cons_append, List.nil_append, List.replicate, Out.map, List.append_eq, List.all_cons, List.all_nil, decide_not, ne_eq, lim_lit, List.length_map, Int.reduceLE, Int.reduceLT, Int.reduceToNat, Nat.reduceAdd, Nat.reduceSub, Nat.reduceLeDiff, Nat.reduceEqDiff, Int.reduceNeg, Int.reduceEq, Nat.reduceLT, Nat.reduceMul, mulI, fdivI, rngI1, rngI2, Int.cast_ofNat_Int, Int.toNat_natCast, Option.bind_none, Option.map_none, Int.reduceAdd, Int.reduceSub, *]
  repeat with_reducible refine wp_b ?_
  refine wp_forM (f := workD) (fun i ρ => ∃ (hs : List Hm) (d' : D) (s8 s14 : Sl), ρ = [.bo d', .v (.int m), .v (.int lo), .v (.own (l.map D.str)), .v (.own (ys.map D.str)), .lk (.own (ws.map workD)), s6, .v (.own (hs.map humpD)), s8, .no, .no, .no, s12, s13, s14, .no] ∧ St s8 ∧ St s14 ∧ hs.length ≤ 3 ∧ HmsOk hs ∧ Dd (B + 63 + 20 * i) d') ?_ ?_ ?_
  · exact ⟨[], d0, _, _, rfl, st_no, st_no, by simp, HmsOk.nil, by simpa using hd0⟩
  · rintro i w _ hi hil hw ⟨hs, d0, s8, s14, rfl, h8, h14, hhl, hhs, hd0⟩
    have hf0 := hd0.fz
    have fhs := fz_hm hs
    have wok := (hwk w hw).n
    have hap : hs.length < 16777216 := by omega
    rw [workD_def]
    simp -implicitDefEqProofs (disch := first | assumption | exact st_no | exact st_v | exact fst_no | omega) only [xs1, xs2, xs3, rd, rds, vals, cont, Sl.cont, D.fz, fzL, cmpD, ordD, eqD_int, eqD_in, eqD_ni, eqD_nn, eqD_bb, isD, D.isNon, idx_tup, idx_lst, idx_ro, idx_own, addI, subI, fdivD, modD, negD, truD, bltD, lenD_items, listD, tupleD, absD_int, intD, tyD, D.items, D.isL, mutD, appD, extD, mutArgs, argsOf, argOf, lentS, places, back, backOne, outs, setL, ownAt, parS, lock, unlock, wipeS, putBack, free_zero, free_succ, fst_no, fst_v, rngOf1, rngOf2, srcOf, kit_bb, wp_some, retq_rt, retq_nx, turn_nx, turn_ct, turnp_nx, turnp_ct, turnp_rt, turnp_bk, Option.toList, Int.zero_add, Int.sub_zero, List.getElem?_cons_succ, List.getElem?_cons_zero, List.set_cons_succ, List.set_cons_zero, Option.bind_some, Option.map_some, if_true, if_false, decide_true, decide_false, Bool.false_eq_true, store_zero, store_succ, st_no, st_v, atI_pos, ix50, ix51, ix52, ix53, ix54, ixN_pos, Option.bind_some, List.nodup_nil, List.nodup_cons, List.mem_cons, List.not_mem_nil, or_false, or_true, false_or, not_false_eq_true, not_true, and_self, and_true, true_and, Bool.and_true, Bool.true_and, Bool.and_self, Bool.and_false, Bool.false_and, Bool.not_true, Bool.not_false, List.length_cons, List.length_nil, List.cons_append, List.nil_append, List.replicate, Out.map, List.append_eq, List.all_cons, List.all_nil, decide_not, ne_eq, lim_lit, List.length_map, Int.reduceLE, Int.reduceLT, Int.reduceToNat, Nat.reduceAdd, Nat.reduceSub, Nat.reduceLeDiff, Nat.reduceEqDiff, Int.reduceNeg, Int.reduceEq, Nat.reduceLT, Nat.reduceMul, mulI, fdivI, rngI1, rngI2, Int.cast_ofNat_Int, Int.toNat_natCast, Option.bind_none, Option.map_none, Int.reduceAdd, Int.reduceSub, forTu, *]
    repeat' first
      | simp -implicitDefEqProofs (disch := first | assumption | exact st_no | exact st_v | exact fst_no | omega) only [xs1, xs2, xs3, rd, rds, vals, cont, Sl.cont, D.fz, fzL, cmpD, ordD, eqD_int, eqD_in, eqD_ni, eqD_nn, eqD_bb, isD, D.isNon, idx_tup, idx_lst, idx_ro, idx_own, addI, subI, fdivD, modD, negD, truD, bltD, lenD_items, listD, tupleD, absD_int, intD, tyD, D.items, D.isL, mutD, appD, extD, mutArgs, argsOf, argOf, lentS, places, back, backOne, outs, setL, ownAt, parS, lock, unlock, wipeS, putBack, free_zero, free_succ, fst_no, fst_v, rngOf1, rngOf2, srcOf, kit_bb, wp_some, retq_rt, retq_nx, turn_nx, turn_ct, turnp_nx, turnp_ct, turnp_rt, turnp_bk, Option.toList, Int.zero_add, Int.sub_zero, List.getElem?_cons_succ, List.getElem?_cons_zero, List.set_cons_succ, List.set_cons_zero, Option.bind_some, Option.map_some, if_true, if_false, decide_true, decide_false, Bool.false_eq_true, store_zero, store_succ, st_no, st_v, atI_pos, ix50, ix51, ix52, ix53, ix54, ixN_pos, Option.bind_some, List.nodup_nil, List.nodup_cons, List.mem_cons, List.not_mem_nil, or_false, or_true, false_or, not_false_eq_true, not_true, and_self, and_true, true_and, Bool.and_true, Bool.true_and, Bool.and_self, Bool.and_false, Bool.false_and, Bool.not_true, Bool.not_false, List.length_cons, List.length_nil, List.cons_append, List.nil_append, List.replicate, Out.map, List.append_eq, List.all_cons, List.all_nil, decide_not, ne_eq, lim_lit, List.length_map, Int.reduceLE, Int.reduceLT, Int.reduceToNat, Nat.reduceAdd, Nat.reduceSub, Nat.reduceLeDiff, Nat.reduceEqDiff, Int.reduceNeg, Int.reduceEq, Nat.reduceLT, Nat.reduceMul, mulI, fdivI, rngI1, rngI2, Int.cast_ofNat_Int, Int.toNat_natCast, Option.bind_none, Option.map_none, Int.reduceAdd, Int.reduceSub, rngd_len, *]
      | ((repeat with_reducible refine wp_b ?_); refine wp_if (fun hc => ?_) (fun hc => ?_) <;> (try simp only [decide_eq_true_eq] at hc) <;> (try (exfalso; omega)))
      | ((repeat with_reducible refine wp_b ?_); (with_reducible apply wp_mono); (case h => ((with_reducible apply draw_ok); (try (case hd => assumption)); all_goals (first | assumption | omega))); rintro _ ⟨x, d1, rfl, x0, x1, hd1⟩; have hf1 := hd1.fz; (first | (refine giv (x1 ?_) ?_; omega; intro x1) | skip))
      | ((repeat with_reducible refine wp_b ?_); (with_reducible apply wp_mono); (case h => ((with_reducible apply between_ok); (try (case hd => assumption)); all_goals (first | assumption | omega))); rintro _ ⟨z, d1, rfl, z0, z1, hd1⟩; have hf1 := hd1.fz; (first | (refine giv (z1 ?_) ?_; omega; intro z1) | skip))
      | ((repeat with_reducible refine wp_b ?_); (with_reducible apply wp_mono); (case h => ((with_reducible apply shufR_ok); (try (case hd => assumption)); all_goals (first | assumption | omega))); rintro _ ⟨p, d1, rfl, hpp, hd1⟩; have hf1 := hd1.fz; have fpi := fzL_ints p)
      | ((repeat with_reducible refine wp_b ?_); (with_reducible apply wp_mono); (case h => ((with_reducible apply pickS_ok); (try (case hd => assumption)); all_goals (first | assumption | omega))); rintro _ ⟨w, d1, rfl, hw, hd1⟩; have hf1 := hd1.fz)
      | ((repeat with_reducible refine wp_b ?_); (with_reducible apply wp_mono); (case h => ((with_reducible apply popS_ok); (try (case hd => assumption)); all_goals (first | assumption | omega))); rintro _ ⟨y, l', d1, rfl, hp, hl', hd1⟩; have hf1 := hd1.fz; (first | (have hok' := OkS.perm hp hok); have yok := hok' y (by simp); have hok := OkS.tail hok' | skip))
    · obtain ⟨hpm, hpl⟩ := rngI_mem hpp
      rename_i x2 _ _ _ _ _ _ _
      refine ⟨hs ++ [⟨w.nm, 2 + x2, x, p⟩], d1, _, _, by rw [List.map_append]; rfl, st_v, st_v, by simp; omega, hhs.app ⟨wok, show 2 ≤ 2 + x2 ∧ 2 + x2 ≤ 6 by omega, x0, show x ≤ 20 by omega, show 1 ≤ p.length by omega, show p.length ≤ 12 by omega, hpm⟩, hd1.mono (by omega)⟩
    · exact ⟨hs, d1, _, _, rfl, st_v, h14, hhl, hhs, hd1.mono (by omega)⟩
    · exact ⟨hs, d0, _, _, rfl, st_v, h14, hhl, hhs, hd0.mono (by omega)⟩
  rintro _ ⟨hs, d0, s8, s14, rfl, h8, h14, hhl, hhs, hd0⟩
  have hd0 := hd0.mono (show _ ≤ B + 270 by omega)
  have hf0 := hd0.fz
  have fhs := fz_hm hs
  have hy : DayD m 240 ws [] hs (.tup [.str "day", .int 240, .tup (ys.map D.str), .tup (ws.map workD), .tup [], .tup [], .tup [], .tup [], .tup [], .tup (hs.map humpD), .tup []]) := ⟨⟨_, fys, rfl⟩, rfl, by omega, by omega, hwl, hm.1, hm.2, hwk, hhl, hhs⟩
  simp -implicitDefEqProofs (disch := first | assumption | exact st_no | exact st_v | exact fst_no | omega) only [xs1, xs2, xs3, rd, rds, vals, cont, Sl.cont, D.fz, fzL, cmpD, ordD, eqD_int, eqD_in, eqD_ni, eqD_nn, eqD_bb, isD, D.isNon, idx_tup, idx_lst, idx_ro, idx_own, addI, subI, fdivD, modD, negD, truD, bltD, lenD_items, listD, tupleD, absD_int, intD, tyD, D.items, D.isL, mutD, appD, extD, mutArgs, argsOf, argOf, lentS, places, back, backOne, outs, setL, ownAt, parS, lock, unlock, wipeS, putBack, free_zero, free_succ, fst_no, fst_v, rngOf1, rngOf2, srcOf, kit_bb, wp_some, retq_rt, retq_nx, turn_nx, turn_ct, turnp_nx, turnp_ct, turnp_rt, turnp_bk, Option.toList, Int.zero_add, Int.sub_zero, List.getElem?_cons_succ, List.getElem?_cons_zero, List.set_cons_succ, List.set_cons_zero, Option.bind_some, Option.map_some, if_true, if_false, decide_true, decide_false, Bool.false_eq_true, store_zero, store_succ, st_no, st_v, atI_pos, ix50, ix51, ix52, ix53, ix54, ixN_pos, Option.bind_some, List.nodup_nil, List.nodup_cons, List.mem_cons, List.not_mem_nil, or_false, or_true, false_or, not_false_eq_true, not_true, and_self, and_true, true_and, Bool.and_true, Bool.true_and, Bool.and_self, Bool.and_false, Bool.false_and, Bool.not_true, Bool.not_false, List.length_cons, List.length_nil, List.cons_append, List.nil_append, List.replicate, Out.map, List.append_eq, List.all_cons, List.all_nil, decide_not, ne_eq, lim_lit, List.length_map, Int.reduceLE, Int.reduceLT, Int.reduceToNat, Nat.reduceAdd, Nat.reduceSub, Nat.reduceLeDiff, Nat.reduceEqDiff, Int.reduceNeg, Int.reduceEq, Nat.reduceLT, Nat.reduceMul, mulI, fdivI, rngI1, rngI2, Int.cast_ofNat_Int, Int.toNat_natCast, Option.bind_none, Option.map_none, Int.reduceAdd, Int.reduceSub, hf0, fl, fws, fys, fhs]
  generalize hD : D.tup [.str "day", .int 240, .tup (ys.map D.str), .tup (ws.map workD), .tup [], .tup [], .tup [], .tup [], .tup [], .tup (hs.map humpD), .tup []] = day at hy ⊢
  have fy := hy.fz
  repeat with_reducible refine wp_b ?_
  refine wp_mono (spans_ok hy) ?_
  rintro _ ⟨sp, rfl, hsl, hsp⟩
  have fsp := fz_sp sp
  simp -implicitDefEqProofs (disch := first | assumption | exact st_no | exact st_v | exact fst_no | omega) only [xs1, xs2, xs3, rd, rds, vals, cont, Sl.cont, D.fz, fzL, cmpD, ordD, eqD_int, eqD_in, eqD_ni, eqD_nn, eqD_bb, isD, D.isNon, idx_tup, idx_lst, idx_ro, idx_own, addI, subI, fdivD, modD, negD, truD, bltD, lenD_items, listD, tupleD, absD_int, intD, tyD, D.items, D.isL, mutD, appD, extD, mutArgs, argsOf, argOf, lentS, places, back, backOne, outs, setL, ownAt, parS, lock, unlock, wipeS, putBack, free_zero, free_succ, fst_no, fst_v, rngOf1, rngOf2, srcOf, kit_bb, wp_some, retq_rt, retq_nx, turn_nx, turn_ct, turnp_nx, turnp_ct, turnp_rt, turnp_bk, Option.toList, Int.zero_add, Int.sub_zero, List.getElem?_cons_succ, List.getElem?_cons_zero, List.set_cons_succ, List.set_cons_zero, Option.bind_some, Option.map_some, if_true, if_false, decide_true, decide_false, Bool.false_eq_true, store_zero, store_succ, st_no, st_v, atI_pos, ix50, ix51, ix52, ix53, ix54, ixN_pos, Option.bind_some, List.nodup_nil, List.nodup_cons, List.mem_cons, List.not_mem_nil, or_false, or_true, false_or, not_false_eq_true, not_true, and_self, and_true, true_and, Bool.and_true, Bool.true_and, Bool.and_self, Bool.and_false, Bool.false_and, Bool.not_true, Bool.not_false, List.length_cons, List.length_nil, List.cons_append, List.nil_append, List.replicate, Out.map, List.append_eq, List.all_cons, List.all_nil, decide_not, ne_eq, lim_lit, List.length_map, Int.reduceLE, Int.reduceLT, Int.reduceToNat, Nat.reduceAdd, Nat.reduceSub, Nat.reduceLeDiff, Nat.reduceEqDiff, Int.reduceNeg, Int.reduceEq, Nat.reduceLT, Nat.reduceMul, mulI, fdivI, rngI1, rngI2, Int.cast_ofNat_Int, Int.toNat_natCast, Option.bind_none, Option.map_none, Int.reduceAdd, Int.reduceSub, fsp, hf0, fy]
  repeat with_reducible refine wp_b ?_
  refine wp_mono (wp_cmap (f := spD) (fun p => D.int p.1) (by omega) ?_) ?_
  · intro p _
    rw [show spD p = .tup [.int p.1, .int p.2] from rfl]
    simp -implicitDefEqProofs (disch := first | assumption | exact st_no | exact st_v | exact fst_no | omega) only [xs1, xs2, xs3, rd, rds, vals, cont, Sl.cont, D.fz, fzL, cmpD, ordD, eqD_int, eqD_in, eqD_ni, eqD_nn, eqD_bb, isD, D.isNon, idx_tup, idx_lst, idx_ro, idx_own, addI, subI, fdivD, modD, negD, truD, bltD, lenD_items, listD, tupleD, absD_int, intD, tyD, D.items, D.isL, mutD, appD, extD, mutArgs, argsOf, argOf, lentS, places, back, backOne, outs, setL, ownAt, parS, lock, unlock, wipeS, putBack, free_zero, free_succ, fst_no, fst_v, rngOf1, rngOf2, srcOf, kit_bb, wp_some, retq_rt, retq_nx, turn_nx, turn_ct, turnp_nx, turnp_ct, turnp_rt, turnp_bk, Option.toList, Int.zero_add, Int.sub_zero, List.getElem?_cons_succ, List.getElem?_cons_zero, List.set_cons_succ, List.set_cons_zero, Option.bind_some, Option.map_some, if_true, if_false, decide_true, decide_false, Bool.false_eq_true, store_zero, store_succ, st_no, st_v, atI_pos, ix50, ix51, ix52, ix53, ix54, ixN_pos, Option.bind_some, List.nodup_nil, List.nodup_cons, List.mem_cons, List.not_mem_nil, or_false, or_true, false_or, not_false_eq_true, not_true, and_self, and_true, true_and, Bool.and_true, Bool.true_and, Bool.and_self, Bool.and_false, Bool.false_and, Bool.not_true, Bool.not_false, List.length_cons, List.length_nil, List.cons_append, List.nil_append, List.replicate, Out.map, List.append_eq, List.all_cons, List.all_nil, decide_not, ne_eq, lim_lit, List.length_map, Int.reduceLE, Int.reduceLT, Int.reduceToNat, Nat.reduceAdd, Nat.reduceSub, Nat.reduceLeDiff, Nat.reduceEqDiff, Int.reduceNeg, Int.reduceEq, Nat.reduceLT, Nat.reduceMul, mulI, fdivI, rngI1, rngI2, Int.cast_ofNat_Int, Int.toNat_natCast, Option.bind_none, Option.map_none, Int.reduceAdd, Int.reduceSub, compTu, hf0, fy]
  rintro _ rfl
  have e1 : sp.map (fun p => D.int p.1) = (sp.map (·.1)).map D.int := by rw [List.map_map]; rfl
  have hne : sp.map (·.1) ≠ [] := by
    intro h
    have := congrArg List.length h
    simp at this
    subst this
    simp at hsl
    omega
  obtain ⟨mx, e2, hmx, _⟩ := max_ints hne
  obtain ⟨p, hp, rfl⟩ := List.mem_map.mp hmx
  have hpb := hsp p hp
  have hsum := sum_le (l := sp.map (·.1)) (a := 1) (b := 540) fun x hx => by
    obtain ⟨q, hq, rfl⟩ := List.mem_map.mp hx
    have := hsp q hq
    omega
  rw [List.length_map, hsl] at hsum
  rw [e1]
  have e3 := sum_ints (l := sp.map (·.1))
  generalize (sp.map (·.1)).sum = sm at e3 hsum
  have fi := fzL_ints (sp.map (·.1))
  simp -implicitDefEqProofs (disch := first | assumption | exact st_no | exact st_v | exact fst_no | omega) only [xs1, xs2, xs3, rd, rds, vals, cont, Sl.cont, D.fz, fzL, cmpD, ordD, eqD_int, eqD_in, eqD_ni, eqD_nn, eqD_bb, isD, D.isNon, idx_tup, idx_lst, idx_ro, idx_own, addI, subI, fdivD, modD, negD, truD, bltD, lenD_items, listD, tupleD, absD_int, intD, tyD, D.items, D.isL, mutD, appD, extD, mutArgs, argsOf, argOf, lentS, places, back, backOne, outs, setL, ownAt, parS, lock, unlock, wipeS, putBack, free_zero, free_succ, fst_no, fst_v, rngOf1, rngOf2, srcOf, kit_bb, wp_some, retq_rt, retq_nx, turn_nx, turn_ct, turnp_nx, turnp_ct, turnp_rt, turnp_bk, Option.toList, Int.zero_add, Int.sub_zero, List.getElem?_cons_succ, List.getElem?_cons_zero, List.set_cons_succ, List.set_cons_zero, Option.bind_some, Option.map_some, if_true, if_false, decide_true, decide_false, Bool.false_eq_true, store_zero, store_succ, st_no, st_v, atI_pos, ix50, ix51, ix52, ix53, ix54, ixN_pos, Option.bind_some, List.nodup_nil, List.nodup_cons, List.mem_cons, List.not_mem_nil, or_false, or_true, false_or, not_false_eq_true, not_true, and_self, and_true, true_and, Bool.and_true, Bool.true_and, Bool.and_self, Bool.and_false, Bool.false_and, Bool.not_true, Bool.not_false, List.length_cons, List.length_nil, List.cons_append, List.nil_append, List.replicate, Out.map, List.append_eq, List.all_cons, List.all_nil, decide_not, ne_eq, lim_lit, List.length_map, Int.reduceLE, Int.reduceLT, Int.reduceToNat, Nat.reduceAdd, Nat.reduceSub, Nat.reduceLeDiff, Nat.reduceEqDiff, Int.reduceNeg, Int.reduceEq, Nat.reduceLT, Nat.reduceMul, mulI, fdivI, rngI1, rngI2, Int.cast_ofNat_Int, Int.toNat_natCast, Option.bind_none, Option.map_none, Int.reduceAdd, Int.reduceSub, hf0, fy, fi, e2, e3]
  repeat with_reducible refine wp_b ?_
  refine wp_mono (draw_ok hd0 (by omega) (by omega)) ?_
  rintro _ ⟨x, d1, rfl, x0, x1, hd1⟩
  have hf1 := hd1.fz
  have x1 := x1 (by omega)
  simp -implicitDefEqProofs (disch := first | assumption | exact st_no | exact st_v | exact fst_no | omega) only [xs1, xs2, xs3, rd, rds, vals, cont, Sl.cont, D.fz, fzL, cmpD, ordD, eqD_int, eqD_in, eqD_ni, eqD_nn, eqD_bb, isD, D.isNon, idx_tup, idx_lst, idx_ro, idx_own, addI, subI, fdivD, modD, negD, truD, bltD, lenD_items, listD, tupleD, absD_int, intD, tyD, D.items, D.isL, mutD, appD, extD, mutArgs, argsOf, argOf, lentS, places, back, backOne, outs, setL, ownAt, parS, lock, unlock, wipeS, putBack, free_zero, free_succ, fst_no, fst_v, rngOf1, rngOf2, srcOf, kit_bb, wp_some, retq_rt, retq_nx, turn_nx, turn_ct, turnp_nx, turnp_ct, turnp_rt, turnp_bk, Option.toList, Int.zero_add, Int.sub_zero, List.getElem?_cons_succ, List.getElem?_cons_zero, List.set_cons_succ, List.set_cons_zero, Option.bind_some, Option.map_some, if_true, if_false, decide_true, decide_false, Bool.false_eq_true, store_zero, store_succ, st_no, st_v, atI_pos, ix50, ix51, ix52, ix53, ix54, ixN_pos, Option.bind_some, List.nodup_nil, List.nodup_cons, List.mem_cons, List.not_mem_nil, or_false, or_true, false_or, not_false_eq_true, not_true, and_self, and_true, true_and, Bool.and_true, Bool.true_and, Bool.and_self, Bool.and_false, Bool.false_and, Bool.not_true, Bool.not_false, List.length_cons, List.length_nil, List.cons_append, List.nil_append, List.replicate, Out.map, List.append_eq, List.all_cons, List.all_nil, decide_not, ne_eq, lim_lit, List.length_map, Int.reduceLE, Int.reduceLT, Int.reduceToNat, Nat.reduceAdd, Nat.reduceSub, Nat.reduceLeDiff, Nat.reduceEqDiff, Int.reduceNeg, Int.reduceEq, Nat.reduceLT, Nat.reduceMul, mulI, fdivI, rngI1, rngI2, Int.cast_ofNat_Int, Int.toNat_natCast, Option.bind_none, Option.map_none, Int.reduceAdd, Int.reduceSub, hf1, fy, fi, minI]
  generalize hh : min 240 (p.1 + x) = hz
  have e4 : evF T 1000 (k + 3) 20 [.v day, .v (.int 1), .v (.int hz)] = some (dayD hz (ys.map D.str) ws [] hs, [.no, .no, .no]) := by
    subst hD
    have ff : fzL [.str "day", .int 240, .tup (ys.map D.str), .tup (ws.map workD), .tup [], .tup [], .tup [], .tup [], .tup [], .tup (hs.map humpD), .tup []] = true := fy
    exact put_eq (k := k + 2) (p := 1) (t := .int hz) (by simp) ff rfl (by simp)
  have hy2 : DayD m hz ws [] hs (dayD hz (ys.map D.str) ws [] hs) := ⟨⟨_, fys, rfl⟩, rfl, by omega, by omega, hwl, hm.1, hm.2, hwk, hhl, hhs⟩
  have fy2 := hy2.fz
  generalize dayD hz (ys.map D.str) ws [] hs = day2 at e4 hy2 fy2
  simp -implicitDefEqProofs (disch := first | assumption | exact st_no | exact st_v | exact fst_no | omega) only [xs1, xs2, xs3, rd, rds, vals, cont, Sl.cont, D.fz, fzL, cmpD, ordD, eqD_int, eqD_in, eqD_ni, eqD_nn, eqD_bb, isD, D.isNon, idx_tup, idx_lst, idx_ro, idx_own, addI, subI, fdivD, modD, negD, truD, bltD, lenD_items, listD, tupleD, absD_int, intD, tyD, D.items, D.isL, mutD, appD, extD, mutArgs, argsOf, argOf, lentS, places, back, backOne, outs, setL, ownAt, parS, lock, unlock, wipeS, putBack, free_zero, free_succ, fst_no, fst_v, rngOf1, rngOf2, srcOf, kit_bb, wp_some, retq_rt, retq_nx, turn_nx, turn_ct, turnp_nx, turnp_ct, turnp_rt, turnp_bk, Option.toList, Int.zero_add, Int.sub_zero, List.getElem?_cons_succ, List.getElem?_cons_zero, List.set_cons_succ, List.set_cons_zero, Option.bind_some, Option.map_some, if_true, if_false, decide_true, decide_false, Bool.false_eq_true, store_zero, store_succ, st_no, st_v, atI_pos, ix50, ix51, ix52, ix53, ix54, ixN_pos, Option.bind_some, List.nodup_nil, List.nodup_cons, List.mem_cons, List.not_mem_nil, or_false, or_true, false_or, not_false_eq_true, not_true, and_self, and_true, true_and, Bool.and_true, Bool.true_and, Bool.and_self, Bool.and_false, Bool.false_and, Bool.not_true, Bool.not_false, List.length_cons, List.length_nil, List.cons_append, List.nil_append, List.replicate, Out.map, List.append_eq, List.all_cons, List.all_nil, decide_not, ne_eq, lim_lit, List.length_map, Int.reduceLE, Int.reduceLT, Int.reduceToNat, Nat.reduceAdd, Nat.reduceSub, Nat.reduceLeDiff, Nat.reduceEqDiff, Int.reduceNeg, Int.reduceEq, Nat.reduceLT, Nat.reduceMul, mulI, fdivI, rngI1, rngI2, Int.cast_ofNat_Int, Int.toNat_natCast, Option.bind_none, Option.map_none, Int.reduceAdd, Int.reduceSub, e4, hf1, fy2, D.frz, frz_str]
  exact ⟨hz, ws, hs, day2, l.map D.str, d1, rfl, hy2, hd1.mono (by omega)⟩
end
end K09


set_option maxRecDepth 100000
set_option maxHeartbeats 4000000
namespace K09
open PySem Co
instance : Inhabited Pr := ⟨.frm "" 0⟩
def brk (ws : List Wk) (l : List (Int × Int)) (ps : List Pr) : List Int := ((List.range ps.length).filter fun i => !keepB ws l ps[i]!).map fun (i : Nat) => (i : Int)
def PsOk (ws : List Wk) (ps : List Pr) : Prop := ∀ p ∈ ps, PrOk ws p
theorem fz_ps (ps : List Pr) : fzL (ps.map prD) = true := fz_map fz_pr ps
section
variable {k n B : Nat} {hor : Int} {ws : List Wk} {ps : List Pr} {hs : List Hm} {day d : D} {l : List (Int × Int)}
theorem brk_map : ((List.range ps.length).filter fun i => !keepB ws l ps[i]!).map (fun (i : Nat) => D.int (i : Int)) = (brk ws l ps).map D.int := by
  unfold brk
  rw [List.map_map]
  rfl
theorem ps_at {i : Nat} (h : i < ps.length) (hp : PsOk ws ps) : (ps.map prD)[i]? = some (prD ps[i]!) ∧ PrOk ws ps[i]! := by
  have e : ps[i]! = ps[i] := by simp [h]
  rw [e]
  exact ⟨by rw [List.getElem?_map, List.getElem?_eq_getElem h]; rfl, hp _ (List.getElem_mem h)⟩
theorem broken_eq (hy : DayD n hor ws (ps.map prD) hs day) (hl : l.length = n) (hp : PsOk ws ps) (hn : ps.length ≤ 1000) : evF T 1000 (k + 4) 3 [.v day, .v (.tup (l.map spD))] = some (.tup ((brk ws l ps).map D.int), [.no, .no]) := by
  refine wp_eq.mp (evF_wp T_broken_promises rfl ?_)
  have fy := hy.fz
  have fl := fz_sp l
  have i4 := hy.i4
  have fp := fz_ps ps
  simp -implicitDefEqProofs (disch := first | assumption | exact st_no | exact st_v | exact fst_no | omega) only [xs1, xs2, xs3, rd, rds, vals, cont, Sl.cont, D.fz, fzL, cmpD, ordD, eqD_int, eqD_in, eqD_ni, eqD_nn, eqD_bb, isD, D.isNon, idx_tup, idx_lst, idx_ro, idx_own, addI, subI, fdivD, modD, negD, truD, bltD, lenD_items, listD, tupleD, absD_int, intD, tyD, D.items, D.isL, mutD, appD, extD, mutArgs, argsOf, argOf, lentS, places, back, backOne, outs, setL, ownAt, parS, parS3, lock, unlock, wipeS, putBack, free_zero, free_succ, fst_no, fst_v, rngOf1, rngOf2, srcOf, kit_bb, wp_some, retq_rt, retq_nx, turn_nx, turn_ct, turnp_nx, turnp_ct, turnp_rt, turnp_bk, Option.toList, Int.zero_add, Int.sub_zero, List.getElem?_cons_succ, List.getElem?_cons_zero, List.set_cons_succ, List.set_cons_zero, Option.bind_some, Option.map_some, if_true, if_false, decide_true, decide_false, Bool.false_eq_true, store_zero, store_succ, st_no, st_v, atI_pos, ix50, ix51, ix52, ix53, ix54, ixN_pos, Option.bind_some, List.nodup_nil, List.nodup_cons, List.mem_cons, List.not_mem_nil, or_false, or_true, false_or, not_false_eq_true, not_true, and_self, and_true, true_and, Bool.and_true, Bool.true_and, Bool.and_self, Bool.and_false, Bool.false_and, Bool.not_true, Bool.not_false, List.length_cons, List.length_nil, List.cons_append, List.nil_append, List.replicate, Out.map, List.append_eq, List.all_cons, List.all_nil, decide_not, ne_eq, lim_lit, List.length_map, Int.reduceLE, Int.reduceLT, Int.reduceToNat, Nat.reduceAdd, Nat.reduceSub, Nat.reduceLeDiff, Nat.reduceEqDiff, Int.reduceNeg, Int.reduceEq, Nat.reduceLT, Nat.reduceMul, mulI, fdivI, rngI1, rngI2, Int.cast_ofNat_Int, Int.toNat_natCast, Option.bind_none, Option.map_none, Int.reduceAdd, Int.reduceSub, b_broken_promises, fy, fl, i4, fp]
  rw [enum_map]
  repeat with_reducible refine wp_b ?_
  refine wp_mono (wp_cfil (fun i => !keepB ws l ps[i]!) (fun (i : Nat) => D.int (i : Int)) (by simp; omega) ?_) ?_
  · intro i hi
    obtain ⟨e1, e2⟩ := ps_at (List.mem_range.mp hi) hp
    have e3 := iskept (k := k) hy hl e2
    have e4 := fz_pr ps[i]!
    cases hb : keepB ws l ps[i]!
    · rw [hb] at e3
      simp -implicitDefEqProofs (disch := first | assumption | exact st_no | exact st_v | exact fst_no | omega) only [xs1, xs2, xs3, rd, rds, vals, cont, Sl.cont, D.fz, fzL, cmpD, ordD, eqD_int, eqD_in, eqD_ni, eqD_nn, eqD_bb, isD, D.isNon, idx_tup, idx_lst, idx_ro, idx_own, addI, subI, fdivD, modD, negD, truD, bltD, lenD_items, listD, tupleD, absD_int, intD, tyD, D.items, D.isL, mutD, appD, extD, mutArgs, argsOf, argOf, lentS, places, back, backOne, outs, setL, ownAt, parS, parS3, lock, unlock, wipeS, putBack, free_zero, free_succ, fst_no, fst_v, rngOf1, rngOf2, srcOf, kit_bb, wp_some, retq_rt, retq_nx, turn_nx, turn_ct, turnp_nx, turnp_ct, turnp_rt, turnp_bk, Option.toList, Int.zero_add, Int.sub_zero, List.getElem?_cons_succ, List.getElem?_cons_zero, List.set_cons_succ, List.set_cons_zero, Option.bind_some, Option.map_some, if_true, if_false, decide_true, decide_false, Bool.false_eq_true, store_zero, store_succ, st_no, st_v, atI_pos, ix50, ix51, ix52, ix53, ix54, ixN_pos, Option.bind_some, List.nodup_nil, List.nodup_cons, List.mem_cons, List.not_mem_nil, or_false, or_true, false_or, not_false_eq_true, not_true, and_self, and_true, true_and, Bool.and_true, Bool.true_and, Bool.and_self, Bool.and_false, Bool.false_and, Bool.not_true, Bool.not_false, List.length_cons, List.length_nil, List.cons_append, List.nil_append, List.replicate, Out.map, List.append_eq, List.all_cons, List.all_nil, decide_not, ne_eq, lim_lit, List.length_map, Int.reduceLE, Int.reduceLT, Int.reduceToNat, Nat.reduceAdd, Nat.reduceSub, Nat.reduceLeDiff, Nat.reduceEqDiff, Int.reduceNeg, Int.reduceEq, Nat.reduceLT, Nat.reduceMul, mulI, fdivI, rngI1, rngI2, Int.cast_ofNat_Int, Int.toNat_natCast, Option.bind_none, Option.map_none, Int.reduceAdd, Int.reduceSub, compTu, fy, fl, e3, e4]
    · rw [hb] at e3
      simp -implicitDefEqProofs (disch := first | assumption | exact st_no | exact st_v | exact fst_no | omega) only [xs1, xs2, xs3, rd, rds, vals, cont, Sl.cont, D.fz, fzL, cmpD, ordD, eqD_int, eqD_in, eqD_ni, eqD_nn, eqD_bb, isD, D.isNon, idx_tup, idx_lst, idx_ro, idx_own, addI, subI, fdivD, modD, negD, truD, bltD, lenD_items, listD, tupleD, absD_int, intD, tyD, D.items, D.isL, mutD, appD, extD, mutArgs, argsOf, argOf, lentS, places, back, backOne, outs, setL, ownAt, parS, parS3, lock, unlock, wipeS, putBack, free_zero, free_succ, fst_no, fst_v, rngOf1, rngOf2, srcOf, kit_bb, wp_some, retq_rt, retq_nx, turn_nx, turn_ct, turnp_nx, turnp_ct, turnp_rt, turnp_bk, Option.toList, Int.zero_add, Int.sub_zero, List.getElem?_cons_succ, List.getElem?_cons_zero, List.set_cons_succ, List.set_cons_zero, Option.bind_some, Option.map_some, if_true, if_false, decide_true, decide_false, Bool.false_eq_true, store_zero, store_succ, st_no, st_v, atI_pos, ix50, ix51, ix52, ix53, ix54, ixN_pos, Option.bind_some, List.nodup_nil, List.nodup_cons, List.mem_cons, List.not_mem_nil, or_false, or_true, false_or, not_false_eq_true, not_true, and_self, and_true, true_and, Bool.and_true, Bool.true_and, Bool.and_self, Bool.and_false, Bool.false_and, Bool.not_true, Bool.not_false, List.length_cons, List.length_nil, List.cons_append, List.nil_append, List.replicate, Out.map, List.append_eq, List.all_cons, List.all_nil, decide_not, ne_eq, lim_lit, List.length_map, Int.reduceLE, Int.reduceLT, Int.reduceToNat, Nat.reduceAdd, Nat.reduceSub, Nat.reduceLeDiff, Nat.reduceEqDiff, Int.reduceNeg, Int.reduceEq, Nat.reduceLT, Nat.reduceMul, mulI, fdivI, rngI1, rngI2, Int.cast_ofNat_Int, Int.toNat_natCast, Option.bind_none, Option.map_none, Int.reduceAdd, Int.reduceSub, compTu, fy, fl, e3, e4]
  · rintro _ rfl
    rw [brk_map]
    have fb := fzL_ints (brk ws l ps)
    simp -implicitDefEqProofs (disch := first | assumption | exact st_no | exact st_v | exact fst_no | omega) only [xs1, xs2, xs3, rd, rds, vals, cont, Sl.cont, D.fz, fzL, cmpD, ordD, eqD_int, eqD_in, eqD_ni, eqD_nn, eqD_bb, isD, D.isNon, idx_tup, idx_lst, idx_ro, idx_own, addI, subI, fdivD, modD, negD, truD, bltD, lenD_items, listD, tupleD, absD_int, intD, tyD, D.items, D.isL, mutD, appD, extD, mutArgs, argsOf, argOf, lentS, places, back, backOne, outs, setL, ownAt, parS, parS3, lock, unlock, wipeS, putBack, free_zero, free_succ, fst_no, fst_v, rngOf1, rngOf2, srcOf, kit_bb, wp_some, retq_rt, retq_nx, turn_nx, turn_ct, turnp_nx, turnp_ct, turnp_rt, turnp_bk, Option.toList, Int.zero_add, Int.sub_zero, List.getElem?_cons_succ, List.getElem?_cons_zero, List.set_cons_succ, List.set_cons_zero, Option.bind_some, Option.map_some, if_true, if_false, decide_true, decide_false, Bool.false_eq_true, store_zero, store_succ, st_no, st_v, atI_pos, ix50, ix51, ix52, ix53, ix54, ixN_pos, Option.bind_some, List.nodup_nil, List.nodup_cons, List.mem_cons, List.not_mem_nil, or_false, or_true, false_or, not_false_eq_true, not_true, and_self, and_true, true_and, Bool.and_true, Bool.true_and, Bool.and_self, Bool.and_false, Bool.false_and, Bool.not_true, Bool.not_false, List.length_cons, List.length_nil, List.cons_append, List.nil_append, List.replicate, Out.map, List.append_eq, List.all_cons, List.all_nil, decide_not, ne_eq, lim_lit, List.length_map, Int.reduceLE, Int.reduceLT, Int.reduceToNat, Nat.reduceAdd, Nat.reduceSub, Nat.reduceLeDiff, Nat.reduceEqDiff, Int.reduceNeg, Int.reduceEq, Nat.reduceLT, Nat.reduceMul, mulI, fdivI, rngI1, rngI2, Int.cast_ofNat_Int, Int.toNat_natCast, Option.bind_none, Option.map_none, Int.reduceAdd, Int.reduceSub, fb, fy, fl]
theorem ints_eq {l : List Int} (hl : l.length ≤ 100000) : evF T 1000 (k + 2) 12 [.v (.tup (l.map D.int)), .v (.int l.length)] = some (.bl true, [.no, .no]) := by
  refine wp_eq.mp (evF_wp T__law_ints rfl ?_)
  have e : ∀ i : Int, evF T 1000 (k + 1) 11 [.v (.int i)] = some (.bl true, [.no]) := fun i => by
    refine wp_eq.mp (evF_wp T__law_is_int rfl ?_)
    simp -implicitDefEqProofs (disch := first | assumption | exact st_no | exact st_v | exact fst_no | omega) only [xs1, xs2, xs3, rd, rds, vals, cont, Sl.cont, D.fz, fzL, cmpD, ordD, eqD_int, eqD_in, eqD_ni, eqD_nn, eqD_bb, isD, D.isNon, idx_tup, idx_lst, idx_ro, idx_own, addI, subI, fdivD, modD, negD, truD, bltD, lenD_items, listD, tupleD, absD_int, intD, tyD, D.items, D.isL, mutD, appD, extD, mutArgs, argsOf, argOf, lentS, places, back, backOne, outs, setL, ownAt, parS, parS3, lock, unlock, wipeS, putBack, free_zero, free_succ, fst_no, fst_v, rngOf1, rngOf2, srcOf, kit_bb, wp_some, retq_rt, retq_nx, turn_nx, turn_ct, turnp_nx, turnp_ct, turnp_rt, turnp_bk, Option.toList, Int.zero_add, Int.sub_zero, List.getElem?_cons_succ, List.getElem?_cons_zero, List.set_cons_succ, List.set_cons_zero, Option.bind_some, Option.map_some, if_true, if_false, decide_true, decide_false, Bool.false_eq_true, store_zero, store_succ, st_no, st_v, atI_pos, ix50, ix51, ix52, ix53, ix54, ixN_pos, Option.bind_some, List.nodup_nil, List.nodup_cons, List.mem_cons, List.not_mem_nil, or_false, or_true, false_or, not_false_eq_true, not_true, and_self, and_true, true_and, Bool.and_true, Bool.true_and, Bool.and_self, Bool.and_false, Bool.false_and, Bool.not_true, Bool.not_false, List.length_cons, List.length_nil, List.cons_append, List.nil_append, List.replicate, Out.map, List.append_eq, List.all_cons, List.all_nil, decide_not, ne_eq, lim_lit, List.length_map, Int.reduceLE, Int.reduceLT, Int.reduceToNat, Nat.reduceAdd, Nat.reduceSub, Nat.reduceLeDiff, Nat.reduceEqDiff, Int.reduceNeg, Int.reduceEq, Nat.reduceLT, Nat.reduceMul, mulI, fdivI, rngI1, rngI2, Int.cast_ofNat_Int, Int.toNat_natCast, Option.bind_none, Option.map_none, Int.reduceAdd, Int.reduceSub, b__law_is_int, kits]
  have fl := fzL_ints l
  simp -implicitDefEqProofs (disch := first | assumption | exact st_no | exact st_v | exact fst_no | omega) only [xs1, xs2, xs3, rd, rds, vals, cont, Sl.cont, D.fz, fzL, cmpD, ordD, eqD_int, eqD_in, eqD_ni, eqD_nn, eqD_bb, isD, D.isNon, idx_tup, idx_lst, idx_ro, idx_own, addI, subI, fdivD, modD, negD, truD, bltD, lenD_items, listD, tupleD, absD_int, intD, tyD, D.items, D.isL, mutD, appD, extD, mutArgs, argsOf, argOf, lentS, places, back, backOne, outs, setL, ownAt, parS, parS3, lock, unlock, wipeS, putBack, free_zero, free_succ, fst_no, fst_v, rngOf1, rngOf2, srcOf, kit_bb, wp_some, retq_rt, retq_nx, turn_nx, turn_ct, turnp_nx, turnp_ct, turnp_rt, turnp_bk, Option.toList, Int.zero_add, Int.sub_zero, List.getElem?_cons_succ, List.getElem?_cons_zero, List.set_cons_succ, List.set_cons_zero, Option.bind_some, Option.map_some, if_true, if_false, decide_true, decide_false, Bool.false_eq_true, store_zero, store_succ, st_no, st_v, atI_pos, ix50, ix51, ix52, ix53, ix54, ixN_pos, Option.bind_some, List.nodup_nil, List.nodup_cons, List.mem_cons, List.not_mem_nil, or_false, or_true, false_or, not_false_eq_true, not_true, and_self, and_true, true_and, Bool.and_true, Bool.true_and, Bool.and_self, Bool.and_false, Bool.false_and, Bool.not_true, Bool.not_false, List.length_cons, List.length_nil, List.cons_append, List.nil_append, List.replicate, Out.map, List.append_eq, List.all_cons, List.all_nil, decide_not, ne_eq, lim_lit, List.length_map, Int.reduceLE, Int.reduceLT, Int.reduceToNat, Nat.reduceAdd, Nat.reduceSub, Nat.reduceLeDiff, Nat.reduceEqDiff, Int.reduceNeg, Int.reduceEq, Nat.reduceLT, Nat.reduceMul, mulI, fdivI, rngI1, rngI2, Int.cast_ofNat_Int, Int.toNat_natCast, Option.bind_none, Option.map_none, Int.reduceAdd, Int.reduceSub, b__law_ints, kits, fl]
  repeat with_reducible refine wp_b ?_
  refine wp_mono (wp_cmap (f := D.int) (fun _ => D.bl true) (by omega) ?_) ?_
  · intro i _
    have := e i
    simp -implicitDefEqProofs (disch := first | assumption | exact st_no | exact st_v | exact fst_no | omega) only [xs1, xs2, xs3, rd, rds, vals, cont, Sl.cont, D.fz, fzL, cmpD, ordD, eqD_int, eqD_in, eqD_ni, eqD_nn, eqD_bb, isD, D.isNon, idx_tup, idx_lst, idx_ro, idx_own, addI, subI, fdivD, modD, negD, truD, bltD, lenD_items, listD, tupleD, absD_int, intD, tyD, D.items, D.isL, mutD, appD, extD, mutArgs, argsOf, argOf, lentS, places, back, backOne, outs, setL, ownAt, parS, parS3, lock, unlock, wipeS, putBack, free_zero, free_succ, fst_no, fst_v, rngOf1, rngOf2, srcOf, kit_bb, wp_some, retq_rt, retq_nx, turn_nx, turn_ct, turnp_nx, turnp_ct, turnp_rt, turnp_bk, Option.toList, Int.zero_add, Int.sub_zero, List.getElem?_cons_succ, List.getElem?_cons_zero, List.set_cons_succ, List.set_cons_zero, Option.bind_some, Option.map_some, if_true, if_false, decide_true, decide_false, Bool.false_eq_true, store_zero, store_succ, st_no, st_v, atI_pos, ix50, ix51, ix52, ix53, ix54, ixN_pos, Option.bind_some, List.nodup_nil, List.nodup_cons, List.mem_cons, List.not_mem_nil, or_false, or_true, false_or, not_false_eq_true, not_true, and_self, and_true, true_and, Bool.and_true, Bool.true_and, Bool.and_self, Bool.and_false, Bool.false_and, Bool.not_true, Bool.not_false, List.length_cons, List.length_nil, List.cons_append, List.nil_append, List.replicate, Out.map, List.append_eq, List.all_cons, List.all_nil, decide_not, ne_eq, lim_lit, List.length_map, Int.reduceLE, Int.reduceLT, Int.reduceToNat, Nat.reduceAdd, Nat.reduceSub, Nat.reduceLeDiff, Nat.reduceEqDiff, Int.reduceNeg, Int.reduceEq, Nat.reduceLT, Nat.reduceMul, mulI, fdivI, rngI1, rngI2, Int.cast_ofNat_Int, Int.toNat_natCast, Option.bind_none, Option.map_none, Int.reduceAdd, Int.reduceSub, compTu, fl, this]
  · rintro _ rfl
    have al : allD [.own (l.map fun _ => D.bl true)] = some (.bl true) := by
      have := all_bl (l := l.map D.int) (p := fun _ => true)
      rw [List.map_map] at this
      have e : (l.map D.int).all (fun _ => true) = true := by simp
      rw [e] at this
      exact this
    simp -implicitDefEqProofs (disch := first | assumption | exact st_no | exact st_v | exact fst_no | omega) only [xs1, xs2, xs3, rd, rds, vals, cont, Sl.cont, D.fz, fzL, cmpD, ordD, eqD_int, eqD_in, eqD_ni, eqD_nn, eqD_bb, isD, D.isNon, idx_tup, idx_lst, idx_ro, idx_own, addI, subI, fdivD, modD, negD, truD, bltD, lenD_items, listD, tupleD, absD_int, intD, tyD, D.items, D.isL, mutD, appD, extD, mutArgs, argsOf, argOf, lentS, places, back, backOne, outs, setL, ownAt, parS, parS3, lock, unlock, wipeS, putBack, free_zero, free_succ, fst_no, fst_v, rngOf1, rngOf2, srcOf, kit_bb, wp_some, retq_rt, retq_nx, turn_nx, turn_ct, turnp_nx, turnp_ct, turnp_rt, turnp_bk, Option.toList, Int.zero_add, Int.sub_zero, List.getElem?_cons_succ, List.getElem?_cons_zero, List.set_cons_succ, List.set_cons_zero, Option.bind_some, Option.map_some, if_true, if_false, decide_true, decide_false, Bool.false_eq_true, store_zero, store_succ, st_no, st_v, atI_pos, ix50, ix51, ix52, ix53, ix54, ixN_pos, Option.bind_some, List.nodup_nil, List.nodup_cons, List.mem_cons, List.not_mem_nil, or_false, or_true, false_or, not_false_eq_true, not_true, and_self, and_true, true_and, Bool.and_true, Bool.true_and, Bool.and_self, Bool.and_false, Bool.false_and, Bool.not_true, Bool.not_false, List.length_cons, List.length_nil, List.cons_append, List.nil_append, List.replicate, Out.map, List.append_eq, List.all_cons, List.all_nil, decide_not, ne_eq, lim_lit, List.length_map, Int.reduceLE, Int.reduceLT, Int.reduceToNat, Nat.reduceAdd, Nat.reduceSub, Nat.reduceLeDiff, Nat.reduceEqDiff, Int.reduceNeg, Int.reduceEq, Nat.reduceLT, Nat.reduceMul, mulI, fdivI, rngI1, rngI2, Int.cast_ofNat_Int, Int.toNat_natCast, Option.bind_none, Option.map_none, Int.reduceAdd, Int.reduceSub, fl, al]
theorem rest {dsc : D} {m : Nat} {lo : Int} {np : Nat} (hfz : dsc.fz = true) (hd : Dd B d) (hB : B ≤ 1000) (hm : 1 ≤ m ∧ m ≤ 10) (hlo : 1 ≤ lo ∧ lo ≤ 60) (hp : np ≤ 30) :
    Wp (RetQ (fun r => r.1 = .bl true) [.v dsc]) (evB (evF T 1000 (k + 6)) 1000 (tailOf 3 b_law) [.v dsc, .v d, .no, .no, .no, .v (.int m), .v (.int lo), .v (.int np), .no, .no, .no, .no]) := by
  have hf := hd.fz
  simp -implicitDefEqProofs (disch := first | assumption | exact st_no | exact st_v | exact fst_no | omega) only [xs1, xs2, xs3, rd, rds, vals, cont, Sl.cont, D.fz, fzL, cmpD, ordD, eqD_int, eqD_in, eqD_ni, eqD_nn, eqD_bb, isD, D.isNon, idx_tup, idx_lst, idx_ro, idx_own, addI, subI, fdivD, modD, negD, truD, bltD, lenD_items, listD, tupleD, absD_int, intD, tyD, D.items, D.isL, mutD, appD, extD, mutArgs, argsOf, argOf, lentS, places, back, backOne, outs, setL, ownAt, parS, parS3, lock, unlock, wipeS, putBack, free_zero, free_succ, fst_no, fst_v, rngOf1, rngOf2, srcOf, kit_bb, wp_some, retq_rt, retq_nx, turn_nx, turn_ct, turnp_nx, turnp_ct, turnp_rt, turnp_bk, Option.toList, Int.zero_add, Int.sub_zero, List.getElem?_cons_succ, List.getElem?_cons_zero, List.set_cons_succ, List.set_cons_zero, Option.bind_some, Option.map_some, if_true, if_false, decide_true, decide_false, Bool.false_eq_true, store_zero, store_succ, st_no, st_v, atI_pos, ix50, ix51, ix52, ix53, ix54, ixN_pos, Option.bind_some, List.nodup_nil, List.nodup_cons, List.mem_cons, List.not_mem_nil, or_false, or_true, false_or, not_false_eq_true, not_true, and_self, and_true, true_and, Bool.and_true, Bool.true_and, Bool.and_self, Bool.and_false, Bool.false_and, Bool.not_true, Bool.not_false, List.length_cons, List.length_nil, List.cons_append, List.nil_append, List.replicate, Out.map, List.append_eq, List.all_cons, List.all_nil, decide_not, ne_eq, lim_lit, List.length_map, Int.reduceLE, Int.reduceLT, Int.reduceToNat, Nat.reduceAdd, Nat.reduceSub, Nat.reduceLeDiff, Nat.reduceEqDiff, Int.reduceNeg, Int.reduceEq, Nat.reduceLT, Nat.reduceMul, mulI, fdivI, rngI1, rngI2, Int.cast_ofNat_Int, Int.toNat_natCast, Option.bind_none, Option.map_none, Int.reduceAdd, Int.reduceSub, b_law, tailOf, hf, hfz]
  repeat with_reducible refine wp_b ?_
  refine wp_mono (frame_ok (k := k + 2) hd (by omega) hm hlo) ?_
  rintro _ ⟨hor, ws, hs, day, pool, d1, rfl, hy, hd1⟩
  have hf1 := hd1.fz
  have fy := hy.fz
  simp -implicitDefEqProofs (disch := first | assumption | exact st_no | exact st_v | exact fst_no | omega) only [xs1, xs2, xs3, rd, rds, vals, cont, Sl.cont, D.fz, fzL, cmpD, ordD, eqD_int, eqD_in, eqD_ni, eqD_nn, eqD_bb, isD, D.isNon, idx_tup, idx_lst, idx_ro, idx_own, addI, subI, fdivD, modD, negD, truD, bltD, lenD_items, listD, tupleD, absD_int, intD, tyD, D.items, D.isL, mutD, appD, extD, mutArgs, argsOf, argOf, lentS, places, back, backOne, outs, setL, ownAt, parS, parS3, lock, unlock, wipeS, putBack, free_zero, free_succ, fst_no, fst_v, rngOf1, rngOf2, srcOf, kit_bb, wp_some, retq_rt, retq_nx, turn_nx, turn_ct, turnp_nx, turnp_ct, turnp_rt, turnp_bk, Option.toList, Int.zero_add, Int.sub_zero, List.getElem?_cons_succ, List.getElem?_cons_zero, List.set_cons_succ, List.set_cons_zero, Option.bind_some, Option.map_some, if_true, if_false, decide_true, decide_false, Bool.false_eq_true, store_zero, store_succ, st_no, st_v, atI_pos, ix50, ix51, ix52, ix53, ix54, ixN_pos, Option.bind_some, List.nodup_nil, List.nodup_cons, List.mem_cons, List.not_mem_nil, or_false, or_true, false_or, not_false_eq_true, not_true, and_self, and_true, true_and, Bool.and_true, Bool.true_and, Bool.and_self, Bool.and_false, Bool.false_and, Bool.not_true, Bool.not_false, List.length_cons, List.length_nil, List.cons_append, List.nil_append, List.replicate, Out.map, List.append_eq, List.all_cons, List.all_nil, decide_not, ne_eq, lim_lit, List.length_map, Int.reduceLE, Int.reduceLT, Int.reduceToNat, Nat.reduceAdd, Nat.reduceSub, Nat.reduceLeDiff, Nat.reduceEqDiff, Int.reduceNeg, Int.reduceEq, Nat.reduceLT, Nat.reduceMul, mulI, fdivI, rngI1, rngI2, Int.cast_ofNat_Int, Int.toNat_natCast, Option.bind_none, Option.map_none, Int.reduceAdd, Int.reduceSub, hf1, fy, hfz]
  repeat with_reducible refine wp_b ?_
  refine wp_mono (linked_ok (k := k + 3) hd1 (by omega) hy) ?_
  rintro _ ⟨log, d2, rfl, ⟨l, rfl, hl⟩, hd2⟩
  have hf2 := hd2.fz
  have fl := fz_sp l
  simp -implicitDefEqProofs (disch := first | assumption | exact st_no | exact st_v | exact fst_no | omega) only [xs1, xs2, xs3, rd, rds, vals, cont, Sl.cont, D.fz, fzL, cmpD, ordD, eqD_int, eqD_in, eqD_ni, eqD_nn, eqD_bb, isD, D.isNon, idx_tup, idx_lst, idx_ro, idx_own, addI, subI, fdivD, modD, negD, truD, bltD, lenD_items, listD, tupleD, absD_int, intD, tyD, D.items, D.isL, mutD, appD, extD, mutArgs, argsOf, argOf, lentS, places, back, backOne, outs, setL, ownAt, parS, parS3, lock, unlock, wipeS, putBack, free_zero, free_succ, fst_no, fst_v, rngOf1, rngOf2, srcOf, kit_bb, wp_some, retq_rt, retq_nx, turn_nx, turn_ct, turnp_nx, turnp_ct, turnp_rt, turnp_bk, Option.toList, Int.zero_add, Int.sub_zero, List.getElem?_cons_succ, List.getElem?_cons_zero, List.set_cons_succ, List.set_cons_zero, Option.bind_some, Option.map_some, if_true, if_false, decide_true, decide_false, Bool.false_eq_true, store_zero, store_succ, st_no, st_v, atI_pos, ix50, ix51, ix52, ix53, ix54, ixN_pos, Option.bind_some, List.nodup_nil, List.nodup_cons, List.mem_cons, List.not_mem_nil, or_false, or_true, false_or, not_false_eq_true, not_true, and_self, and_true, true_and, Bool.and_true, Bool.true_and, Bool.and_self, Bool.and_false, Bool.false_and, Bool.not_true, Bool.not_false, List.length_cons, List.length_nil, List.cons_append, List.nil_append, List.replicate, Out.map, List.append_eq, List.all_cons, List.all_nil, decide_not, ne_eq, lim_lit, List.length_map, Int.reduceLE, Int.reduceLT, Int.reduceToNat, Nat.reduceAdd, Nat.reduceSub, Nat.reduceLeDiff, Nat.reduceEqDiff, Int.reduceNeg, Int.reduceEq, Nat.reduceLT, Nat.reduceMul, mulI, fdivI, rngI1, rngI2, Int.cast_ofNat_Int, Int.toNat_natCast, Option.bind_none, Option.map_none, Int.reduceAdd, Int.reduceSub, hf2, fy, fl, hfz]
  repeat with_reducible refine wp_b ?_
  refine wp_mono (wp_cdraw (fun d => [.v dsc, .v d, .v (.tup (l.map spD)), .v day, .no, .v (.int m), .v (.int lo), .v (.int np), .v (.lst pool), .no, .no, .no]) prD (PrOk ws) 10 (n := np) hd2 (by rw [rngd_len]; omega) (by omega) ?_) ?_
  · intro i d' v hi hv hd'
    obtain ⟨rfl, _⟩ := rngd_get hv
    have hf' := hd'.fz
    simp -implicitDefEqProofs (disch := first | assumption | exact st_no | exact st_v | exact fst_no | omega) only [xs1, xs2, xs3, rd, rds, vals, cont, Sl.cont, D.fz, fzL, cmpD, ordD, eqD_int, eqD_in, eqD_ni, eqD_nn, eqD_bb, isD, D.isNon, idx_tup, idx_lst, idx_ro, idx_own, addI, subI, fdivD, modD, negD, truD, bltD, lenD_items, listD, tupleD, absD_int, intD, tyD, D.items, D.isL, mutD, appD, extD, mutArgs, argsOf, argOf, lentS, places, back, backOne, outs, setL, ownAt, parS, parS3, lock, unlock, wipeS, putBack, free_zero, free_succ, fst_no, fst_v, rngOf1, rngOf2, srcOf, kit_bb, wp_some, retq_rt, retq_nx, turn_nx, turn_ct, turnp_nx, turnp_ct, turnp_rt, turnp_bk, Option.toList, Int.zero_add, Int.sub_zero, List.getElem?_cons_succ, List.getElem?_cons_zero, List.set_cons_succ, List.set_cons_zero, Option.bind_some, Option.map_some, if_true, if_false, decide_true, decide_false, Bool.false_eq_true, store_zero, store_succ, st_no, st_v, atI_pos, ix50, ix51, ix52, ix53, ix54, ixN_pos, Option.bind_some, List.nodup_nil, List.nodup_cons, List.mem_cons, List.not_mem_nil, or_false, or_true, false_or, not_false_eq_true, not_true, and_self, and_true, true_and, Bool.and_true, Bool.true_and, Bool.and_self, Bool.and_false, Bool.false_and, Bool.not_true, Bool.not_false, List.length_cons, List.length_nil, List.cons_append, List.nil_append, List.replicate, Out.map, List.append_eq, List.all_cons, List.all_nil, decide_not, ne_eq, lim_lit, List.length_map, Int.reduceLE, Int.reduceLT, Int.reduceToNat, Nat.reduceAdd, Nat.reduceSub, Nat.reduceLeDiff, Nat.reduceEqDiff, Int.reduceNeg, Int.reduceEq, Nat.reduceLT, Nat.reduceMul, mulI, fdivI, rngI1, rngI2, Int.cast_ofNat_Int, Int.toNat_natCast, Option.bind_none, Option.map_none, Int.reduceAdd, Int.reduceSub, compTu, hf', fy, fl, hfz]
    repeat with_reducible refine wp_b ?_
    refine wp_mono (nearp_ok (k := k + 3) hd' (by omega) hy hl) ?_
    rintro _ ⟨p, d3, rfl, hpo, hd3⟩
    have hf3 := hd3.fz
    have fp := fz_pr p
    simp -implicitDefEqProofs (disch := first | assumption | exact st_no | exact st_v | exact fst_no | omega) only [xs1, xs2, xs3, rd, rds, vals, cont, Sl.cont, D.fz, fzL, cmpD, ordD, eqD_int, eqD_in, eqD_ni, eqD_nn, eqD_bb, isD, D.isNon, idx_tup, idx_lst, idx_ro, idx_own, addI, subI, fdivD, modD, negD, truD, bltD, lenD_items, listD, tupleD, absD_int, intD, tyD, D.items, D.isL, mutD, appD, extD, mutArgs, argsOf, argOf, lentS, places, back, backOne, outs, setL, ownAt, parS, parS3, lock, unlock, wipeS, putBack, free_zero, free_succ, fst_no, fst_v, rngOf1, rngOf2, srcOf, kit_bb, wp_some, retq_rt, retq_nx, turn_nx, turn_ct, turnp_nx, turnp_ct, turnp_rt, turnp_bk, Option.toList, Int.zero_add, Int.sub_zero, List.getElem?_cons_succ, List.getElem?_cons_zero, List.set_cons_succ, List.set_cons_zero, Option.bind_some, Option.map_some, if_true, if_false, decide_true, decide_false, Bool.false_eq_true, store_zero, store_succ, st_no, st_v, atI_pos, ix50, ix51, ix52, ix53, ix54, ixN_pos, Option.bind_some, List.nodup_nil, List.nodup_cons, List.mem_cons, List.not_mem_nil, or_false, or_true, false_or, not_false_eq_true, not_true, and_self, and_true, true_and, Bool.and_true, Bool.true_and, Bool.and_self, Bool.and_false, Bool.false_and, Bool.not_true, Bool.not_false, List.length_cons, List.length_nil, List.cons_append, List.nil_append, List.replicate, Out.map, List.append_eq, List.all_cons, List.all_nil, decide_not, ne_eq, lim_lit, List.length_map, Int.reduceLE, Int.reduceLT, Int.reduceToNat, Nat.reduceAdd, Nat.reduceSub, Nat.reduceLeDiff, Nat.reduceEqDiff, Int.reduceNeg, Int.reduceEq, Nat.reduceLT, Nat.reduceMul, mulI, fdivI, rngI1, rngI2, Int.cast_ofNat_Int, Int.toNat_natCast, Option.bind_none, Option.map_none, Int.reduceAdd, Int.reduceSub, hf3, fp]
    exact ⟨p, d3, rfl, hpo, hd3⟩
  rintro _ ⟨ps, d3, rfl, hpo, hpl, hd3⟩
  have hf3 := hd3.fz
  have fps := fz_ps ps
  have hy2 : ∃ day2, evF T 1000 (k + 6) 20 [.v day, .v (.int 4), .v (.tup (ps.map prD))] = some (day2, [.no, .no, .no]) ∧ DayD m hor ws (ps.map prD) hs day2 := by
    obtain ⟨⟨ys, fys, rfl⟩, h1, h2, h3, h4, h5, h6, h7, h8, h9⟩ := hy
    exact ⟨dayD hor ys ws (ps.map prD) hs, put_eq (k := k + 5) (p := 4) (t := .tup (ps.map prD)) (by simp) fy (by simp only [D.fz, fps]) (by simp), ⟨⟨ys, fys, rfl⟩, fps, h2, h3, h4, h5, h6, h7, h8, h9⟩⟩
  obtain ⟨day2, e1, hy2⟩ := hy2
  have fy2 := hy2.fz
  simp -implicitDefEqProofs (disch := first | assumption | exact st_no | exact st_v | exact fst_no | omega) only [xs1, xs2, xs3, rd, rds, vals, cont, Sl.cont, D.fz, fzL, cmpD, ordD, eqD_int, eqD_in, eqD_ni, eqD_nn, eqD_bb, isD, D.isNon, idx_tup, idx_lst, idx_ro, idx_own, addI, subI, fdivD, modD, negD, truD, bltD, lenD_items, listD, tupleD, absD_int, intD, tyD, D.items, D.isL, mutD, appD, extD, mutArgs, argsOf, argOf, lentS, places, back, backOne, outs, setL, ownAt, parS, parS3, lock, unlock, wipeS, putBack, free_zero, free_succ, fst_no, fst_v, rngOf1, rngOf2, srcOf, kit_bb, wp_some, retq_rt, retq_nx, turn_nx, turn_ct, turnp_nx, turnp_ct, turnp_rt, turnp_bk, Option.toList, Int.zero_add, Int.sub_zero, List.getElem?_cons_succ, List.getElem?_cons_zero, List.set_cons_succ, List.set_cons_zero, Option.bind_some, Option.map_some, if_true, if_false, decide_true, decide_false, Bool.false_eq_true, store_zero, store_succ, st_no, st_v, atI_pos, ix50, ix51, ix52, ix53, ix54, ixN_pos, Option.bind_some, List.nodup_nil, List.nodup_cons, List.mem_cons, List.not_mem_nil, or_false, or_true, false_or, not_false_eq_true, not_true, and_self, and_true, true_and, Bool.and_true, Bool.true_and, Bool.and_self, Bool.and_false, Bool.false_and, Bool.not_true, Bool.not_false, List.length_cons, List.length_nil, List.cons_append, List.nil_append, List.replicate, Out.map, List.append_eq, List.all_cons, List.all_nil, decide_not, ne_eq, lim_lit, List.length_map, Int.reduceLE, Int.reduceLT, Int.reduceToNat, Nat.reduceAdd, Nat.reduceSub, Nat.reduceLeDiff, Nat.reduceEqDiff, Int.reduceNeg, Int.reduceEq, Nat.reduceLT, Nat.reduceMul, mulI, fdivI, rngI1, rngI2, Int.cast_ofNat_Int, Int.toNat_natCast, Option.bind_none, Option.map_none, Int.reduceAdd, Int.reduceSub, hf3, fy, fl, hfz, fps, e1, fy2]
  repeat with_reducible refine wp_b ?_
  refine wp_forR (fun i ρ => ∃ (l : List (Int × Int)) (d' : D) (s4 s9 s10 : Sl), ρ = [.v dsc, .v d', .v (.tup (l.map spD)), .v day2, s4, .v (.int m), .v (.int lo), .v (.int np), .v (.lst pool), s9, s10, .no] ∧ St s4 ∧ St s9 ∧ St s10 ∧ l.length = m ∧ Dd (5000 + 100 * i) d') ?_ ?_ ?_
  · exact ⟨l, d3, _, _, _, rfl, st_no, st_no, st_no, hl, hd3.mono (by omega)⟩
  · rintro i _ hi ⟨l, d4, s4, s9, s10, rfl, h4, h9, h10, hl, hd4⟩
    have hf4 := hd4.fz
    have fl := fz_sp l
    have i4 := hy2.i4
    simp -implicitDefEqProofs (disch := first | assumption | exact st_no | exact st_v | exact fst_no | omega) only [xs1, xs2, xs3, rd, rds, vals, cont, Sl.cont, D.fz, fzL, cmpD, ordD, eqD_int, eqD_in, eqD_ni, eqD_nn, eqD_bb, isD, D.isNon, idx_tup, idx_lst, idx_ro, idx_own, addI, subI, fdivD, modD, negD, truD, bltD, lenD_items, listD, tupleD, absD_int, intD, tyD, D.items, D.isL, mutD, appD, extD, mutArgs, argsOf, argOf, lentS, places, back, backOne, outs, setL, ownAt, parS, parS3, lock, unlock, wipeS, putBack, free_zero, free_succ, fst_no, fst_v, rngOf1, rngOf2, srcOf, kit_bb, wp_some, retq_rt, retq_nx, turn_nx, turn_ct, turnp_nx, turnp_ct, turnp_rt, turnp_bk, Option.toList, Int.zero_add, Int.sub_zero, List.getElem?_cons_succ, List.getElem?_cons_zero, List.set_cons_succ, List.set_cons_zero, Option.bind_some, Option.map_some, if_true, if_false, decide_true, decide_false, Bool.false_eq_true, store_zero, store_succ, st_no, st_v, atI_pos, ix50, ix51, ix52, ix53, ix54, ixN_pos, Option.bind_some, List.nodup_nil, List.nodup_cons, List.mem_cons, List.not_mem_nil, or_false, or_true, false_or, not_false_eq_true, not_true, and_self, and_true, true_and, Bool.and_true, Bool.true_and, Bool.and_self, Bool.and_false, Bool.false_and, Bool.not_true, Bool.not_false, List.length_cons, List.length_nil, List.cons_append, List.nil_append, List.replicate, Out.map, List.append_eq, List.all_cons, List.all_nil, decide_not, ne_eq, lim_lit, List.length_map, Int.reduceLE, Int.reduceLT, Int.reduceToNat, Nat.reduceAdd, Nat.reduceSub, Nat.reduceLeDiff, Nat.reduceEqDiff, Int.reduceNeg, Int.reduceEq, Nat.reduceLT, Nat.reduceMul, mulI, fdivI, rngI1, rngI2, Int.cast_ofNat_Int, Int.toNat_natCast, Option.bind_none, Option.map_none, Int.reduceAdd, Int.reduceSub, forTu, hf4, fl, fy2, h4]
    rw [rngd_nat]
    repeat with_reducible refine wp_b ?_
    refine wp_mono (wp_cfil (fun i => !keepB ws l ps[i]!) (fun (i : Nat) => D.int (i : Int)) (by simp; omega) ?_) ?_
    · intro i hi
      obtain ⟨e1, e2⟩ := ps_at (ps := ps) (by rw [hpl]; exact List.mem_range.mp hi) hpo
      have e3 := lkeeps (k := k + 4) hy2 hl e2
      have e4 := fz_pr ps[i]!
      cases hb : keepB ws l ps[i]!
      · rw [hb] at e3
        simp -implicitDefEqProofs (disch := first | assumption | exact st_no | exact st_v | exact fst_no | omega) only [xs1, xs2, xs3, rd, rds, vals, cont, Sl.cont, D.fz, fzL, cmpD, ordD, eqD_int, eqD_in, eqD_ni, eqD_nn, eqD_bb, isD, D.isNon, idx_tup, idx_lst, idx_ro, idx_own, addI, subI, fdivD, modD, negD, truD, bltD, lenD_items, listD, tupleD, absD_int, intD, tyD, D.items, D.isL, mutD, appD, extD, mutArgs, argsOf, argOf, lentS, places, back, backOne, outs, setL, ownAt, parS, parS3, lock, unlock, wipeS, putBack, free_zero, free_succ, fst_no, fst_v, rngOf1, rngOf2, srcOf, kit_bb, wp_some, retq_rt, retq_nx, turn_nx, turn_ct, turnp_nx, turnp_ct, turnp_rt, turnp_bk, Option.toList, Int.zero_add, Int.sub_zero, List.getElem?_cons_succ, List.getElem?_cons_zero, List.set_cons_succ, List.set_cons_zero, Option.bind_some, Option.map_some, if_true, if_false, decide_true, decide_false, Bool.false_eq_true, store_zero, store_succ, st_no, st_v, atI_pos, ix50, ix51, ix52, ix53, ix54, ixN_pos, Option.bind_some, List.nodup_nil, List.nodup_cons, List.mem_cons, List.not_mem_nil, or_false, or_true, false_or, not_false_eq_true, not_true, and_self, and_true, true_and, Bool.and_true, Bool.true_and, Bool.and_self, Bool.and_false, Bool.false_and, Bool.not_true, Bool.not_false, List.length_cons, List.length_nil, List.cons_append, List.nil_append, List.replicate, Out.map, List.append_eq, List.all_cons, List.all_nil, decide_not, ne_eq, lim_lit, List.length_map, Int.reduceLE, Int.reduceLT, Int.reduceToNat, Nat.reduceAdd, Nat.reduceSub, Nat.reduceLeDiff, Nat.reduceEqDiff, Int.reduceNeg, Int.reduceEq, Nat.reduceLT, Nat.reduceMul, mulI, fdivI, rngI1, rngI2, Int.cast_ofNat_Int, Int.toNat_natCast, Option.bind_none, Option.map_none, Int.reduceAdd, Int.reduceSub, compTu, fy2, fl, i4, fps, e1, e3, e4]
      · rw [hb] at e3
        simp -implicitDefEqProofs (disch := first | assumption | exact st_no | exact st_v | exact fst_no | omega) only [xs1, xs2, xs3, rd, rds, vals, cont, Sl.cont, D.fz, fzL, cmpD, ordD, eqD_int, eqD_in, eqD_ni, eqD_nn, eqD_bb, isD, D.isNon, idx_tup, idx_lst, idx_ro, idx_own, addI, subI, fdivD, modD, negD, truD, bltD, lenD_items, listD, tupleD, absD_int, intD, tyD, D.items, D.isL, mutD, appD, extD, mutArgs, argsOf, argOf, lentS, places, back, backOne, outs, setL, ownAt, parS, parS3, lock, unlock, wipeS, putBack, free_zero, free_succ, fst_no, fst_v, rngOf1, rngOf2, srcOf, kit_bb, wp_some, retq_rt, retq_nx, turn_nx, turn_ct, turnp_nx, turnp_ct, turnp_rt, turnp_bk, Option.toList, Int.zero_add, Int.sub_zero, List.getElem?_cons_succ, List.getElem?_cons_zero, List.set_cons_succ, List.set_cons_zero, Option.bind_some, Option.map_some, if_true, if_false, decide_true, decide_false, Bool.false_eq_true, store_zero, store_succ, st_no, st_v, atI_pos, ix50, ix51, ix52, ix53, ix54, ixN_pos, Option.bind_some, List.nodup_nil, List.nodup_cons, List.mem_cons, List.not_mem_nil, or_false, or_true, false_or, not_false_eq_true, not_true, and_self, and_true, true_and, Bool.and_true, Bool.true_and, Bool.and_self, Bool.and_false, Bool.false_and, Bool.not_true, Bool.not_false, List.length_cons, List.length_nil, List.cons_append, List.nil_append, List.replicate, Out.map, List.append_eq, List.all_cons, List.all_nil, decide_not, ne_eq, lim_lit, List.length_map, Int.reduceLE, Int.reduceLT, Int.reduceToNat, Nat.reduceAdd, Nat.reduceSub, Nat.reduceLeDiff, Nat.reduceEqDiff, Int.reduceNeg, Int.reduceEq, Nat.reduceLT, Nat.reduceMul, mulI, fdivI, rngI1, rngI2, Int.cast_ofNat_Int, Int.toNat_natCast, Option.bind_none, Option.map_none, Int.reduceAdd, Int.reduceSub, compTu, fy2, fl, i4, fps, e1, e3, e4]
    · rintro _ rfl
      have ebr := broken_eq (k := k + 2) hy2 hl hpo (by omega)
      rw [← hpl, brk_map]
      have fb := fzL_ints (brk ws l ps)
      have hbl : (brk ws l ps).length ≤ 30 := by
        unfold brk
        rw [List.length_map]
        have := List.length_filter_le (fun i => !keepB ws l ps[i]!) (List.range ps.length)
        rw [List.length_range] at this
        omega
      have ei := ints_eq (k := k + 4) (l := brk ws l ps) (by omega)
      have q1 := eqD_self (lay_oint (l := brk ws l ps))
      have q2 := eqD_self (lay_tint (l := brk ws l ps))
      simp -implicitDefEqProofs (disch := first | assumption | exact st_no | exact st_v | exact fst_no | omega) only [xs1, xs2, xs3, rd, rds, vals, cont, Sl.cont, D.fz, fzL, cmpD, ordD, eqD_int, eqD_in, eqD_ni, eqD_nn, eqD_bb, isD, D.isNon, idx_tup, idx_lst, idx_ro, idx_own, addI, subI, fdivD, modD, negD, truD, bltD, lenD_items, listD, tupleD, absD_int, intD, tyD, D.items, D.isL, mutD, appD, extD, mutArgs, argsOf, argOf, lentS, places, back, backOne, outs, setL, ownAt, parS, parS3, lock, unlock, wipeS, putBack, free_zero, free_succ, fst_no, fst_v, rngOf1, rngOf2, srcOf, kit_bb, wp_some, retq_rt, retq_nx, turn_nx, turn_ct, turnp_nx, turnp_ct, turnp_rt, turnp_bk, Option.toList, Int.zero_add, Int.sub_zero, List.getElem?_cons_succ, List.getElem?_cons_zero, List.set_cons_succ, List.set_cons_zero, Option.bind_some, Option.map_some, if_true, if_false, decide_true, decide_false, Bool.false_eq_true, store_zero, store_succ, st_no, st_v, atI_pos, ix50, ix51, ix52, ix53, ix54, ixN_pos, Option.bind_some, List.nodup_nil, List.nodup_cons, List.mem_cons, List.not_mem_nil, or_false, or_true, false_or, not_false_eq_true, not_true, and_self, and_true, true_and, Bool.and_true, Bool.true_and, Bool.and_self, Bool.and_false, Bool.false_and, Bool.not_true, Bool.not_false, List.length_cons, List.length_nil, List.cons_append, List.nil_append, List.replicate, Out.map, List.append_eq, List.all_cons, List.all_nil, decide_not, ne_eq, lim_lit, List.length_map, Int.reduceLE, Int.reduceLT, Int.reduceToNat, Nat.reduceAdd, Nat.reduceSub, Nat.reduceLeDiff, Nat.reduceEqDiff, Int.reduceNeg, Int.reduceEq, Nat.reduceLT, Nat.reduceMul, mulI, fdivI, rngI1, rngI2, Int.cast_ofNat_Int, Int.toNat_natCast, Option.bind_none, Option.map_none, Int.reduceAdd, Int.reduceSub, hf4, fl, fy2, fb, ebr, h9, h10, ei, q1, q2]
      repeat with_reducible refine wp_b ?_
      refine wp_mono (moved_ok (k := k + 2) hd4 (by omega) hy2 ⟨l, rfl, hl⟩) ?_
      rintro _ ⟨log2, d5, rfl, ⟨l2, rfl, hl2⟩, hd5⟩
      have hf5 := hd5.fz
      have fl2 := fz_sp l2
      simp -implicitDefEqProofs (disch := first | assumption | exact st_no | exact st_v | exact fst_no | omega) only [xs1, xs2, xs3, rd, rds, vals, cont, Sl.cont, D.fz, fzL, cmpD, ordD, eqD_int, eqD_in, eqD_ni, eqD_nn, eqD_bb, isD, D.isNon, idx_tup, idx_lst, idx_ro, idx_own, addI, subI, fdivD, modD, negD, truD, bltD, lenD_items, listD, tupleD, absD_int, intD, tyD, D.items, D.isL, mutD, appD, extD, mutArgs, argsOf, argOf, lentS, places, back, backOne, outs, setL, ownAt, parS, parS3, lock, unlock, wipeS, putBack, free_zero, free_succ, fst_no, fst_v, rngOf1, rngOf2, srcOf, kit_bb, wp_some, retq_rt, retq_nx, turn_nx, turn_ct, turnp_nx, turnp_ct, turnp_rt, turnp_bk, Option.toList, Int.zero_add, Int.sub_zero, List.getElem?_cons_succ, List.getElem?_cons_zero, List.set_cons_succ, List.set_cons_zero, Option.bind_some, Option.map_some, if_true, if_false, decide_true, decide_false, Bool.false_eq_true, store_zero, store_succ, st_no, st_v, atI_pos, ix50, ix51, ix52, ix53, ix54, ixN_pos, Option.bind_some, List.nodup_nil, List.nodup_cons, List.mem_cons, List.not_mem_nil, or_false, or_true, false_or, not_false_eq_true, not_true, and_self, and_true, true_and, Bool.and_true, Bool.true_and, Bool.and_self, Bool.and_false, Bool.false_and, Bool.not_true, Bool.not_false, List.length_cons, List.length_nil, List.cons_append, List.nil_append, List.replicate, Out.map, List.append_eq, List.all_cons, List.all_nil, decide_not, ne_eq, lim_lit, List.length_map, Int.reduceLE, Int.reduceLT, Int.reduceToNat, Nat.reduceAdd, Nat.reduceSub, Nat.reduceLeDiff, Nat.reduceEqDiff, Int.reduceNeg, Int.reduceEq, Nat.reduceLT, Nat.reduceMul, mulI, fdivI, rngI1, rngI2, Int.cast_ofNat_Int, Int.toNat_natCast, Option.bind_none, Option.map_none, Int.reduceAdd, Int.reduceSub, hf5, fl2, fb]
      exact ⟨l2, d5, _, _, _, rfl, st_v, st_v, st_v, hl2, hd5.mono (by omega)⟩
  · rintro _ ⟨l, d4, s4, s9, s10, rfl, h4, h9, h10, hl, hd4⟩
    simp -implicitDefEqProofs (disch := first | assumption | exact st_no | exact st_v | exact fst_no | omega) only [xs1, xs2, xs3, rd, rds, vals, cont, Sl.cont, D.fz, fzL, cmpD, ordD, eqD_int, eqD_in, eqD_ni, eqD_nn, eqD_bb, isD, D.isNon, idx_tup, idx_lst, idx_ro, idx_own, addI, subI, fdivD, modD, negD, truD, bltD, lenD_items, listD, tupleD, absD_int, intD, tyD, D.items, D.isL, mutD, appD, extD, mutArgs, argsOf, argOf, lentS, places, back, backOne, outs, setL, ownAt, parS, parS3, lock, unlock, wipeS, putBack, free_zero, free_succ, fst_no, fst_v, rngOf1, rngOf2, srcOf, kit_bb, wp_some, retq_rt, retq_nx, turn_nx, turn_ct, turnp_nx, turnp_ct, turnp_rt, turnp_bk, Option.toList, Int.zero_add, Int.sub_zero, List.getElem?_cons_succ, List.getElem?_cons_zero, List.set_cons_succ, List.set_cons_zero, Option.bind_some, Option.map_some, if_true, if_false, decide_true, decide_false, Bool.false_eq_true, store_zero, store_succ, st_no, st_v, atI_pos, ix50, ix51, ix52, ix53, ix54, ixN_pos, Option.bind_some, List.nodup_nil, List.nodup_cons, List.mem_cons, List.not_mem_nil, or_false, or_true, false_or, not_false_eq_true, not_true, and_self, and_true, true_and, Bool.and_true, Bool.true_and, Bool.and_self, Bool.and_false, Bool.false_and, Bool.not_true, Bool.not_false, List.length_cons, List.length_nil, List.cons_append, List.nil_append, List.replicate, Out.map, List.append_eq, List.all_cons, List.all_nil, decide_not, ne_eq, lim_lit, List.length_map, Int.reduceLE, Int.reduceLT, Int.reduceToNat, Nat.reduceAdd, Nat.reduceSub, Nat.reduceLeDiff, Nat.reduceEqDiff, Int.reduceNeg, Int.reduceEq, Nat.reduceLT, Nat.reduceMul, mulI, fdivI, rngI1, rngI2, Int.cast_ofNat_Int, Int.toNat_natCast, Option.bind_none, Option.map_none, Int.reduceAdd, Int.reduceSub]
theorem law_true {dsc : D} {l : List Int} (hd : dsc = .ro (l.map D.int) ∨ dsc = .lst (l.map D.int)) : Wp (fun r => r.1 = .bl true) (evF T 1000 (k + 7) 26 [.v dsc]) := by
  have hfz : dsc.fz = true := by rcases hd with rfl | rfl <;> simp only [D.fz, fzL_ints]
  refine evF_wp T_law rfl ?_
  obtain ⟨_, eb, d0, rfl, hd0⟩ := begin_ok (k := k + 5) hd
  have hf0 := hd0.fz
  simp -implicitDefEqProofs (disch := first | assumption | exact st_no | exact st_v | exact fst_no | omega) only [xs1, xs2, xs3, rd, rds, vals, cont, Sl.cont, D.fz, fzL, cmpD, ordD, eqD_int, eqD_in, eqD_ni, eqD_nn, eqD_bb, isD, D.isNon, idx_tup, idx_lst, idx_ro, idx_own, addI, subI, fdivD, modD, negD, truD, bltD, lenD_items, listD, tupleD, absD_int, intD, tyD, D.items, D.isL, mutD, appD, extD, mutArgs, argsOf, argOf, lentS, places, back, backOne, outs, setL, ownAt, parS, parS3, lock, unlock, wipeS, putBack, free_zero, free_succ, fst_no, fst_v, rngOf1, rngOf2, srcOf, kit_bb, wp_some, retq_rt, retq_nx, turn_nx, turn_ct, turnp_nx, turnp_ct, turnp_rt, turnp_bk, Option.toList, Int.zero_add, Int.sub_zero, List.getElem?_cons_succ, List.getElem?_cons_zero, List.set_cons_succ, List.set_cons_zero, Option.bind_some, Option.map_some, if_true, if_false, decide_true, decide_false, Bool.false_eq_true, store_zero, store_succ, st_no, st_v, atI_pos, ix50, ix51, ix52, ix53, ix54, ixN_pos, Option.bind_some, List.nodup_nil, List.nodup_cons, List.mem_cons, List.not_mem_nil, or_false, or_true, false_or, not_false_eq_true, not_true, and_self, and_true, true_and, Bool.and_true, Bool.true_and, Bool.and_self, Bool.and_false, Bool.false_and, Bool.not_true, Bool.not_false, List.length_cons, List.length_nil, List.cons_append, List.nil_append, List.replicate, Out.map, List.append_eq, List.all_cons, List.all_nil, decide_not, ne_eq, lim_lit, List.length_map, Int.reduceLE, Int.reduceLT, Int.reduceToNat, Nat.reduceAdd, Nat.reduceSub, Nat.reduceLeDiff, Nat.reduceEqDiff, Int.reduceNeg, Int.reduceEq, Nat.reduceLT, Nat.reduceMul, mulI, fdivI, rngI1, rngI2, Int.cast_ofNat_Int, Int.toNat_natCast, Option.bind_none, Option.map_none, Int.reduceAdd, Int.reduceSub, b_law, hfz, eb, hf0]
  repeat with_reducible refine wp_b ?_
  refine wp_mono (draw_ok hd0 (by omega) (by omega)) ?_
  rintro _ ⟨x, d1, rfl, x0, x1, hd1⟩
  have hf1 := hd1.fz
  have x1 := x1 (by omega)
  simp -implicitDefEqProofs (disch := first | assumption | exact st_no | exact st_v | exact fst_no | omega) only [xs1, xs2, xs3, rd, rds, vals, cont, Sl.cont, D.fz, fzL, cmpD, ordD, eqD_int, eqD_in, eqD_ni, eqD_nn, eqD_bb, isD, D.isNon, idx_tup, idx_lst, idx_ro, idx_own, addI, subI, fdivD, modD, negD, truD, bltD, lenD_items, listD, tupleD, absD_int, intD, tyD, D.items, D.isL, mutD, appD, extD, mutArgs, argsOf, argOf, lentS, places, back, backOne, outs, setL, ownAt, parS, parS3, lock, unlock, wipeS, putBack, free_zero, free_succ, fst_no, fst_v, rngOf1, rngOf2, srcOf, kit_bb, wp_some, retq_rt, retq_nx, turn_nx, turn_ct, turnp_nx, turnp_ct, turnp_rt, turnp_bk, Option.toList, Int.zero_add, Int.sub_zero, List.getElem?_cons_succ, List.getElem?_cons_zero, List.set_cons_succ, List.set_cons_zero, Option.bind_some, Option.map_some, if_true, if_false, decide_true, decide_false, Bool.false_eq_true, store_zero, store_succ, st_no, st_v, atI_pos, ix50, ix51, ix52, ix53, ix54, ixN_pos, Option.bind_some, List.nodup_nil, List.nodup_cons, List.mem_cons, List.not_mem_nil, or_false, or_true, false_or, not_false_eq_true, not_true, and_self, and_true, true_and, Bool.and_true, Bool.true_and, Bool.and_self, Bool.and_false, Bool.false_and, Bool.not_true, Bool.not_false, List.length_cons, List.length_nil, List.cons_append, List.nil_append, List.replicate, Out.map, List.append_eq, List.all_cons, List.all_nil, decide_not, ne_eq, lim_lit, List.length_map, Int.reduceLE, Int.reduceLT, Int.reduceToNat, Nat.reduceAdd, Nat.reduceSub, Nat.reduceLeDiff, Nat.reduceEqDiff, Int.reduceNeg, Int.reduceEq, Nat.reduceLT, Nat.reduceMul, mulI, fdivI, rngI1, rngI2, Int.cast_ofNat_Int, Int.toNat_natCast, Option.bind_none, Option.map_none, Int.reduceAdd, Int.reduceSub, hf1, hfz]
  repeat with_reducible refine wp_b ?_
  refine wp_mono (draw_ok hd1 (by omega) (by omega)) ?_
  rintro _ ⟨y, d2, rfl, y0, y1, hd2⟩
  have hf2 := hd2.fz
  have y1 := y1 (by omega)
  simp -implicitDefEqProofs (disch := first | assumption | exact st_no | exact st_v | exact fst_no | omega) only [xs1, xs2, xs3, rd, rds, vals, cont, Sl.cont, D.fz, fzL, cmpD, ordD, eqD_int, eqD_in, eqD_ni, eqD_nn, eqD_bb, isD, D.isNon, idx_tup, idx_lst, idx_ro, idx_own, addI, subI, fdivD, modD, negD, truD, bltD, lenD_items, listD, tupleD, absD_int, intD, tyD, D.items, D.isL, mutD, appD, extD, mutArgs, argsOf, argOf, lentS, places, back, backOne, outs, setL, ownAt, parS, parS3, lock, unlock, wipeS, putBack, free_zero, free_succ, fst_no, fst_v, rngOf1, rngOf2, srcOf, kit_bb, wp_some, retq_rt, retq_nx, turn_nx, turn_ct, turnp_nx, turnp_ct, turnp_rt, turnp_bk, Option.toList, Int.zero_add, Int.sub_zero, List.getElem?_cons_succ, List.getElem?_cons_zero, List.set_cons_succ, List.set_cons_zero, Option.bind_some, Option.map_some, if_true, if_false, decide_true, decide_false, Bool.false_eq_true, store_zero, store_succ, st_no, st_v, atI_pos, ix50, ix51, ix52, ix53, ix54, ixN_pos, Option.bind_some, List.nodup_nil, List.nodup_cons, List.mem_cons, List.not_mem_nil, or_false, or_true, false_or, not_false_eq_true, not_true, and_self, and_true, true_and, Bool.and_true, Bool.true_and, Bool.and_self, Bool.and_false, Bool.false_and, Bool.not_true, Bool.not_false, List.length_cons, List.length_nil, List.cons_append, List.nil_append, List.replicate, Out.map, List.append_eq, List.all_cons, List.all_nil, decide_not, ne_eq, lim_lit, List.length_map, Int.reduceLE, Int.reduceLT, Int.reduceToNat, Nat.reduceAdd, Nat.reduceSub, Nat.reduceLeDiff, Nat.reduceEqDiff, Int.reduceNeg, Int.reduceEq, Nat.reduceLT, Nat.reduceMul, mulI, fdivI, rngI1, rngI2, Int.cast_ofNat_Int, Int.toNat_natCast, Option.bind_none, Option.map_none, Int.reduceAdd, Int.reduceSub, hf2, hfz]
  repeat with_reducible refine wp_b ?_
  refine wp_mono (draw_ok hd2 (by omega) (by omega)) ?_
  rintro _ ⟨z, d3, rfl, z0, z1, hd3⟩
  have hf3 := hd3.fz
  have z1 := z1 (by omega)
  simp -implicitDefEqProofs (disch := first | assumption | exact st_no | exact st_v | exact fst_no | omega) only [xs1, xs2, xs3, rd, rds, vals, cont, Sl.cont, D.fz, fzL, cmpD, ordD, eqD_int, eqD_in, eqD_ni, eqD_nn, eqD_bb, isD, D.isNon, idx_tup, idx_lst, idx_ro, idx_own, addI, subI, fdivD, modD, negD, truD, bltD, lenD_items, listD, tupleD, absD_int, intD, tyD, D.items, D.isL, mutD, appD, extD, mutArgs, argsOf, argOf, lentS, places, back, backOne, outs, setL, ownAt, parS, parS3, lock, unlock, wipeS, putBack, free_zero, free_succ, fst_no, fst_v, rngOf1, rngOf2, srcOf, kit_bb, wp_some, retq_rt, retq_nx, turn_nx, turn_ct, turnp_nx, turnp_ct, turnp_rt, turnp_bk, Option.toList, Int.zero_add, Int.sub_zero, List.getElem?_cons_succ, List.getElem?_cons_zero, List.set_cons_succ, List.set_cons_zero, Option.bind_some, Option.map_some, if_true, if_false, decide_true, decide_false, Bool.false_eq_true, store_zero, store_succ, st_no, st_v, atI_pos, ix50, ix51, ix52, ix53, ix54, ixN_pos, Option.bind_some, List.nodup_nil, List.nodup_cons, List.mem_cons, List.not_mem_nil, or_false, or_true, false_or, not_false_eq_true, not_true, and_self, and_true, true_and, Bool.and_true, Bool.true_and, Bool.and_self, Bool.and_false, Bool.false_and, Bool.not_true, Bool.not_false, List.length_cons, List.length_nil, List.cons_append, List.nil_append, List.replicate, Out.map, List.append_eq, List.all_cons, List.all_nil, decide_not, ne_eq, lim_lit, List.length_map, Int.reduceLE, Int.reduceLT, Int.reduceToNat, Nat.reduceAdd, Nat.reduceSub, Nat.reduceLeDiff, Nat.reduceEqDiff, Int.reduceNeg, Int.reduceEq, Nat.reduceLT, Nat.reduceMul, mulI, fdivI, rngI1, rngI2, Int.cast_ofNat_Int, Int.toNat_natCast, Option.bind_none, Option.map_none, Int.reduceAdd, Int.reduceSub, hf3, hfz]
  repeat with_reducible refine wp_b ?_
  refine wp_mono (rare_ok (k := k + 4) hd3 (by omega)) ?_
  rintro _ ⟨b, d4, rfl, hd4⟩
  have hf4 := hd4.fz
  obtain ⟨m, hm⟩ : ∃ m : Nat, 1 + x = m := ⟨(1 + x).toNat, by omega⟩
  obtain ⟨np, hnp⟩ : ∃ m : Nat, z = m := ⟨z.toNat, by omega⟩
  cases b with
  | true =>
    have := rest (k := k) (m := 10) (lo := 60) (np := 30) hfz hd4 (by omega) (by omega) (by omega) (by omega)
    simp -implicitDefEqProofs (disch := first | assumption | exact st_no | exact st_v | exact fst_no | omega) only [xs1, xs2, xs3, rd, rds, vals, cont, Sl.cont, D.fz, fzL, cmpD, ordD, eqD_int, eqD_in, eqD_ni, eqD_nn, eqD_bb, isD, D.isNon, idx_tup, idx_lst, idx_ro, idx_own, addI, subI, fdivD, modD, negD, truD, bltD, lenD_items, listD, tupleD, absD_int, intD, tyD, D.items, D.isL, mutD, appD, extD, mutArgs, argsOf, argOf, lentS, places, back, backOne, outs, setL, ownAt, parS, parS3, lock, unlock, wipeS, putBack, free_zero, free_succ, fst_no, fst_v, rngOf1, rngOf2, srcOf, kit_bb, wp_some, retq_rt, retq_nx, turn_nx, turn_ct, turnp_nx, turnp_ct, turnp_rt, turnp_bk, Option.toList, Int.zero_add, Int.sub_zero, List.getElem?_cons_succ, List.getElem?_cons_zero, List.set_cons_succ, List.set_cons_zero, Option.bind_some, Option.map_some, if_true, if_false, decide_true, decide_false, Bool.false_eq_true, store_zero, store_succ, st_no, st_v, atI_pos, ix50, ix51, ix52, ix53, ix54, ixN_pos, Option.bind_some, List.nodup_nil, List.nodup_cons, List.mem_cons, List.not_mem_nil, or_false, or_true, false_or, not_false_eq_true, not_true, and_self, and_true, true_and, Bool.and_true, Bool.true_and, Bool.and_self, Bool.and_false, Bool.false_and, Bool.not_true, Bool.not_false, List.length_cons, List.length_nil, List.cons_append, List.nil_append, List.replicate, Out.map, List.append_eq, List.all_cons, List.all_nil, decide_not, ne_eq, lim_lit, List.length_map, Int.reduceLE, Int.reduceLT, Int.reduceToNat, Nat.reduceAdd, Nat.reduceSub, Nat.reduceLeDiff, Nat.reduceEqDiff, Int.reduceNeg, Int.reduceEq, Nat.reduceLT, Nat.reduceMul, mulI, fdivI, rngI1, rngI2, Int.cast_ofNat_Int, Int.toNat_natCast, Option.bind_none, Option.map_none, Int.reduceAdd, Int.reduceSub, b_law, tailOf, hf4, hfz, Int.cast_ofNat_Int] at this
    simp -implicitDefEqProofs (disch := first | assumption | exact st_no | exact st_v | exact fst_no | omega) only [xs1, xs2, xs3, rd, rds, vals, cont, Sl.cont, D.fz, fzL, cmpD, ordD, eqD_int, eqD_in, eqD_ni, eqD_nn, eqD_bb, isD, D.isNon, idx_tup, idx_lst, idx_ro, idx_own, addI, subI, fdivD, modD, negD, truD, bltD, lenD_items, listD, tupleD, absD_int, intD, tyD, D.items, D.isL, mutD, appD, extD, mutArgs, argsOf, argOf, lentS, places, back, backOne, outs, setL, ownAt, parS, parS3, lock, unlock, wipeS, putBack, free_zero, free_succ, fst_no, fst_v, rngOf1, rngOf2, srcOf, kit_bb, wp_some, retq_rt, retq_nx, turn_nx, turn_ct, turnp_nx, turnp_ct, turnp_rt, turnp_bk, Option.toList, Int.zero_add, Int.sub_zero, List.getElem?_cons_succ, List.getElem?_cons_zero, List.set_cons_succ, List.set_cons_zero, Option.bind_some, Option.map_some, if_true, if_false, decide_true, decide_false, Bool.false_eq_true, store_zero, store_succ, st_no, st_v, atI_pos, ix50, ix51, ix52, ix53, ix54, ixN_pos, Option.bind_some, List.nodup_nil, List.nodup_cons, List.mem_cons, List.not_mem_nil, or_false, or_true, false_or, not_false_eq_true, not_true, and_self, and_true, true_and, Bool.and_true, Bool.true_and, Bool.and_self, Bool.and_false, Bool.false_and, Bool.not_true, Bool.not_false, List.length_cons, List.length_nil, List.cons_append, List.nil_append, List.replicate, Out.map, List.append_eq, List.all_cons, List.all_nil, decide_not, ne_eq, lim_lit, List.length_map, Int.reduceLE, Int.reduceLT, Int.reduceToNat, Nat.reduceAdd, Nat.reduceSub, Nat.reduceLeDiff, Nat.reduceEqDiff, Int.reduceNeg, Int.reduceEq, Nat.reduceLT, Nat.reduceMul, mulI, fdivI, rngI1, rngI2, Int.cast_ofNat_Int, Int.toNat_natCast, Option.bind_none, Option.map_none, Int.reduceAdd, Int.reduceSub, hf4, hfz]
    exact this
  | false =>
    have := rest (k := k) (m := m) (lo := 1 + y) (np := np) hfz hd4 (by omega) (by omega) (by omega) (by omega)
    simp -implicitDefEqProofs (disch := first | assumption | exact st_no | exact st_v | exact fst_no | omega) only [xs1, xs2, xs3, rd, rds, vals, cont, Sl.cont, D.fz, fzL, cmpD, ordD, eqD_int, eqD_in, eqD_ni, eqD_nn, eqD_bb, isD, D.isNon, idx_tup, idx_lst, idx_ro, idx_own, addI, subI, fdivD, modD, negD, truD, bltD, lenD_items, listD, tupleD, absD_int, intD, tyD, D.items, D.isL, mutD, appD, extD, mutArgs, argsOf, argOf, lentS, places, back, backOne, outs, setL, ownAt, parS, parS3, lock, unlock, wipeS, putBack, free_zero, free_succ, fst_no, fst_v, rngOf1, rngOf2, srcOf, kit_bb, wp_some, retq_rt, retq_nx, turn_nx, turn_ct, turnp_nx, turnp_ct, turnp_rt, turnp_bk, Option.toList, Int.zero_add, Int.sub_zero, List.getElem?_cons_succ, List.getElem?_cons_zero, List.set_cons_succ, List.set_cons_zero, Option.bind_some, Option.map_some, if_true, if_false, decide_true, decide_false, Bool.false_eq_true, store_zero, store_succ, st_no, st_v, atI_pos, ix50, ix51, ix52, ix53, ix54, ixN_pos, Option.bind_some, List.nodup_nil, List.nodup_cons, List.mem_cons, List.not_mem_nil, or_false, or_true, false_or, not_false_eq_true, not_true, and_self, and_true, true_and, Bool.and_true, Bool.true_and, Bool.and_self, Bool.and_false, Bool.false_and, Bool.not_true, Bool.not_false, List.length_cons, List.length_nil, List.cons_append, List.nil_append, List.replicate, Out.map, List.append_eq, List.all_cons, List.all_nil, decide_not, ne_eq, lim_lit, List.length_map, Int.reduceLE, Int.reduceLT, Int.reduceToNat, Nat.reduceAdd, Nat.reduceSub, Nat.reduceLeDiff, Nat.reduceEqDiff, Int.reduceNeg, Int.reduceEq, Nat.reduceLT, Nat.reduceMul, mulI, fdivI, rngI1, rngI2, Int.cast_ofNat_Int, Int.toNat_natCast, Option.bind_none, Option.map_none, Int.reduceAdd, Int.reduceSub, b_law, tailOf, hf4, hfz, Int.cast_ofNat_Int] at this
    rw [hm, hnp]
    simp -implicitDefEqProofs (disch := first | assumption | exact st_no | exact st_v | exact fst_no | omega) only [xs1, xs2, xs3, rd, rds, vals, cont, Sl.cont, D.fz, fzL, cmpD, ordD, eqD_int, eqD_in, eqD_ni, eqD_nn, eqD_bb, isD, D.isNon, idx_tup, idx_lst, idx_ro, idx_own, addI, subI, fdivD, modD, negD, truD, bltD, lenD_items, listD, tupleD, absD_int, intD, tyD, D.items, D.isL, mutD, appD, extD, mutArgs, argsOf, argOf, lentS, places, back, backOne, outs, setL, ownAt, parS, parS3, lock, unlock, wipeS, putBack, free_zero, free_succ, fst_no, fst_v, rngOf1, rngOf2, srcOf, kit_bb, wp_some, retq_rt, retq_nx, turn_nx, turn_ct, turnp_nx, turnp_ct, turnp_rt, turnp_bk, Option.toList, Int.zero_add, Int.sub_zero, List.getElem?_cons_succ, List.getElem?_cons_zero, List.set_cons_succ, List.set_cons_zero, Option.bind_some, Option.map_some, if_true, if_false, decide_true, decide_false, Bool.false_eq_true, store_zero, store_succ, st_no, st_v, atI_pos, ix50, ix51, ix52, ix53, ix54, ixN_pos, Option.bind_some, List.nodup_nil, List.nodup_cons, List.mem_cons, List.not_mem_nil, or_false, or_true, false_or, not_false_eq_true, not_true, and_self, and_true, true_and, Bool.and_true, Bool.true_and, Bool.and_self, Bool.and_false, Bool.false_and, Bool.not_true, Bool.not_false, List.length_cons, List.length_nil, List.cons_append, List.nil_append, List.replicate, Out.map, List.append_eq, List.all_cons, List.all_nil, decide_not, ne_eq, lim_lit, List.length_map, Int.reduceLE, Int.reduceLT, Int.reduceToNat, Nat.reduceAdd, Nat.reduceSub, Nat.reduceLeDiff, Nat.reduceEqDiff, Int.reduceNeg, Int.reduceEq, Nat.reduceLT, Nat.reduceMul, mulI, fdivI, rngI1, rngI2, Int.cast_ofNat_Int, Int.toNat_natCast, Option.bind_none, Option.map_none, Int.reduceAdd, Int.reduceSub, hf4, hfz]
    exact this
theorem plain (d : D) (ns : List Int) (h : d = .ro (ns.map D.int) ∨ d = .lst (ns.map D.int)) : ∃ os, evF T 1000 199 26 [.v d] = some (.bl true, os) := by
  obtain ⟨⟨r, os⟩, e, h2⟩ := law_true (k := 192) h
  have h2 : r = .bl true := h2
  subst h2
  exact ⟨os, e⟩
end
end K09


set_option maxRecDepth 100000
set_option maxHeartbeats 0
namespace HT
open PySem PySem.Spec PyProof.Rows L2
abbrev P0 : Program := PySem.Challenge.pw_surefreight_k09_promises_meant
def defOf : Stmt → Option He.DefD
  | .FunctionDef n a b _ _ _ sc _ _ _ => some ⟨(n, none), n, n, a, b, sc, [], []⟩
  | _ => none
def fn : List He.DefD := P0.main.body.filterMap defOf
abbrev fa : List He.Fa := (fn.map fun d => He.Fa.glo d.1.1) ++ [.free "len", .free "range", .free "tuple", .free "list", .free "abs", .free "int", .free "isinstance", .free "bool", .free "str", .free "enumerate", .free "min", .free "max", .free "sum", .free "any", .free "all"]
abbrev lawIx : Nat := 29
abbrev R : PySem.W.OpenRow := PySem.W.OpenLaw.row PySem.Challenge.rw_surefreight_k09_promises_meant
abbrev hk : PySem.W.Hook := He.hookD 4 fa fn
def ob (s : PySem.W.SharedT) : He.AlD := He.obsDG 4 fa fn (HandSHeadRun.getT s)
theorem ob_eq (s : PySem.W.SharedT) : ob s = hk.obs s.abs := He.obsDG_eq (HandSHeadRun.getT_eq s)
theorem run (w : World) : HandSHeadRun.RunEq R (PySem.W.view R.prog [lawIx]) hk ob 2000 [("work_number" : PySem.Str), ("minutes_of" : PySem.Str), ("is_kept" : PySem.Str), ("broken_promises" : PySem.Str), ("_law_begin" : PySem.Str), ("_law_draw" : PySem.Str), ("_law_pick" : PySem.Str), ("_law_pop" : PySem.Str), ("_law_rare" : PySem.Str), ("_law_between" : PySem.Str), ("_law_shuffled" : PySem.Str), ("_law_is_int" : PySem.Str), ("_law_ints" : PySem.Str), ("_law_pool" : PySem.Str), ("_law_pair" : PySem.Str), ("_law_number" : PySem.Str), ("_law_rounds" : PySem.Str), ("_law_day_spans" : PySem.Str), ("_law_is_log" : PySem.Str), ("_law_keeps_promise" : PySem.Str), ("_law_put" : PySem.Str), ("_law_frame" : PySem.Str), ("_law_linked_log" : PySem.Str), ("_law_moved_log" : PySem.Str), ("_law_near" : PySem.Str), ("_law_near_promise" : PySem.Str)] w := by
  intro os
  kernel_rfl
end HT

set_option maxRecDepth 100000
set_option maxHeartbeats 0
namespace K09
open PySem PySem.Spec PyProof.Rows L2 Co
theorem chk_all : (List.range nm.length).all (chkAt HT.fn nm T slots) = true := by decide +kernel
theorem bind_0 : BindAt HT.fn T slots 0 := by
  intro d F N e1 e2 e3 kV doc pm an cdv ct us hl
  cases e1; cases e2; cases e3
  match us, hl with
  | [_, _], _ => rfl
theorem bind_1 : BindAt HT.fn T slots 1 := by
  intro d F N e1 e2 e3 kV doc pm an cdv ct us hl
  cases e1; cases e2; cases e3
  match us, hl with
  | [_, _, _], _ => rfl
theorem bind_2 : BindAt HT.fn T slots 2 := by
  intro d F N e1 e2 e3 kV doc pm an cdv ct us hl
  cases e1; cases e2; cases e3
  match us, hl with
  | [_, _, _], _ => rfl
theorem bind_3 : BindAt HT.fn T slots 3 := by
  intro d F N e1 e2 e3 kV doc pm an cdv ct us hl
  cases e1; cases e2; cases e3
  match us, hl with
  | [_, _], _ => rfl
theorem bind_4 : BindAt HT.fn T slots 4 := by
  intro d F N e1 e2 e3 kV doc pm an cdv ct us hl
  cases e1; cases e2; cases e3
  match us, hl with
  | [_], _ => rfl
theorem bind_5 : BindAt HT.fn T slots 5 := by
  intro d F N e1 e2 e3 kV doc pm an cdv ct us hl
  cases e1; cases e2; cases e3
  match us, hl with
  | [_, _], _ => rfl
theorem bind_6 : BindAt HT.fn T slots 6 := by
  intro d F N e1 e2 e3 kV doc pm an cdv ct us hl
  cases e1; cases e2; cases e3
  match us, hl with
  | [_, _], _ => rfl
theorem bind_7 : BindAt HT.fn T slots 7 := by
  intro d F N e1 e2 e3 kV doc pm an cdv ct us hl
  cases e1; cases e2; cases e3
  match us, hl with
  | [_, _], _ => rfl
theorem bind_8 : BindAt HT.fn T slots 8 := by
  intro d F N e1 e2 e3 kV doc pm an cdv ct us hl
  cases e1; cases e2; cases e3
  match us, hl with
  | [_, _], _ => rfl
theorem bind_9 : BindAt HT.fn T slots 9 := by
  intro d F N e1 e2 e3 kV doc pm an cdv ct us hl
  cases e1; cases e2; cases e3
  match us, hl with
  | [_, _, _], _ => rfl
theorem bind_10 : BindAt HT.fn T slots 10 := by
  intro d F N e1 e2 e3 kV doc pm an cdv ct us hl
  cases e1; cases e2; cases e3
  match us, hl with
  | [_, _], _ => rfl
theorem bind_11 : BindAt HT.fn T slots 11 := by
  intro d F N e1 e2 e3 kV doc pm an cdv ct us hl
  cases e1; cases e2; cases e3
  match us, hl with
  | [_], _ => rfl
theorem bind_12 : BindAt HT.fn T slots 12 := by
  intro d F N e1 e2 e3 kV doc pm an cdv ct us hl
  cases e1; cases e2; cases e3
  match us, hl with
  | [_, _], _ => rfl
theorem bind_13 : BindAt HT.fn T slots 13 := by
  intro d F N e1 e2 e3 kV doc pm an cdv ct us hl
  cases e1; cases e2; cases e3
  match us, hl with
  | [], _ => rfl
theorem bind_14 : BindAt HT.fn T slots 14 := by
  intro d F N e1 e2 e3 kV doc pm an cdv ct us hl
  cases e1; cases e2; cases e3
  match us, hl with
  | [_, _], _ => rfl
theorem bind_15 : BindAt HT.fn T slots 15 := by
  intro d F N e1 e2 e3 kV doc pm an cdv ct us hl
  cases e1; cases e2; cases e3
  match us, hl with
  | [_, _], _ => rfl
theorem bind_16 : BindAt HT.fn T slots 16 := by
  intro d F N e1 e2 e3 kV doc pm an cdv ct us hl
  cases e1; cases e2; cases e3
  match us, hl with
  | [_, _], _ => rfl
theorem bind_17 : BindAt HT.fn T slots 17 := by
  intro d F N e1 e2 e3 kV doc pm an cdv ct us hl
  cases e1; cases e2; cases e3
  match us, hl with
  | [_], _ => rfl
theorem bind_18 : BindAt HT.fn T slots 18 := by
  intro d F N e1 e2 e3 kV doc pm an cdv ct us hl
  cases e1; cases e2; cases e3
  match us, hl with
  | [_, _], _ => rfl
theorem bind_19 : BindAt HT.fn T slots 19 := by
  intro d F N e1 e2 e3 kV doc pm an cdv ct us hl
  cases e1; cases e2; cases e3
  match us, hl with
  | [_, _, _], _ => rfl
theorem bind_20 : BindAt HT.fn T slots 20 := by
  intro d F N e1 e2 e3 kV doc pm an cdv ct us hl
  cases e1; cases e2; cases e3
  match us, hl with
  | [_, _, _], _ => rfl
theorem bind_21 : BindAt HT.fn T slots 21 := by
  intro d F N e1 e2 e3 kV doc pm an cdv ct us hl
  cases e1; cases e2; cases e3
  match us, hl with
  | [_, _, _], _ => rfl
theorem bind_22 : BindAt HT.fn T slots 22 := by
  intro d F N e1 e2 e3 kV doc pm an cdv ct us hl
  cases e1; cases e2; cases e3
  match us, hl with
  | [_, _], _ => rfl
theorem bind_23 : BindAt HT.fn T slots 23 := by
  intro d F N e1 e2 e3 kV doc pm an cdv ct us hl
  cases e1; cases e2; cases e3
  match us, hl with
  | [_, _, _], _ => rfl
theorem bind_24 : BindAt HT.fn T slots 24 := by
  intro d F N e1 e2 e3 kV doc pm an cdv ct us hl
  cases e1; cases e2; cases e3
  match us, hl with
  | [_, _, _, _], _ => rfl
theorem bind_25 : BindAt HT.fn T slots 25 := by
  intro d F N e1 e2 e3 kV doc pm an cdv ct us hl
  cases e1; cases e2; cases e3
  match us, hl with
  | [_, _, _], _ => rfl
theorem bind_26 : BindAt HT.fn T slots 26 := by
  intro d F N e1 e2 e3 kV doc pm an cdv ct us hl
  cases e1; cases e2; cases e3
  match us, hl with
  | [_], _ => rfl
theorem bind_all : ∀ j, j < nm.length → BindAt HT.fn T slots j := fun j h => match j, h with
  | 0, _ => bind_0
  | 1, _ => bind_1
  | 2, _ => bind_2
  | 3, _ => bind_3
  | 4, _ => bind_4
  | 5, _ => bind_5
  | 6, _ => bind_6
  | 7, _ => bind_7
  | 8, _ => bind_8
  | 9, _ => bind_9
  | 10, _ => bind_10
  | 11, _ => bind_11
  | 12, _ => bind_12
  | 13, _ => bind_13
  | 14, _ => bind_14
  | 15, _ => bind_15
  | 16, _ => bind_16
  | 17, _ => bind_17
  | 18, _ => bind_18
  | 19, _ => bind_19
  | 20, _ => bind_20
  | 21, _ => bind_21
  | 22, _ => bind_22
  | 23, _ => bind_23
  | 24, _ => bind_24
  | 25, _ => bind_25
  | 26, _ => bind_26
  | n + 27, h => absurd h (by show ¬ n + 27 < 27; omega)
theorem facts {P : Program} {w : World} {K : PySem.W.Frag} {h : Heap} {mg : Str → Option Value} {f : Addr} (X : K.In h) (G : h.Ns mainGlobals mg) (hfa : mg ("law" : Str) = some (.ref f)) (c : He.SaysD HT.fa HT.fn K) :
    ∃ fd : FuncData, (∀ (s : Shared) (v : Value), BindsTo s fd ⟨[v], []⟩ [("script", v)]) ∧ ∀ base : Heap, K.In base → base.Ns mainGlobals mg → FnOk P w K mg base CX0 200 f fd ["script"] (fun vs H Q _ => ∃ (a : Addr) (ns : List Int), vs = [.ref a] ∧ SqL K H a (ns.map V.int) ∧ ∀ H', Q (.bl true) H') :=
  facts_of (wf := 1000) (fi := 26) (k := 198) (nm := nm) (T := T) (slots := slots) X G hfa c (by decide +kernel) (by decide +kernel) chk_all bind_all rfl (fun N F e1 e2 => by cases e1; cases e2; exact ⟨rfl, rfl⟩) plain
end K09

set_option maxRecDepth 100000
set_option maxHeartbeats 0
open PySem PySem.W PySem.Calls PyProof.Rows
theorem PySem.Challenge.cw_surefreight_k09_promises_meant_holds : PySem.Challenge.rw_surefreight_k09_promises_meant.Holds := by
  w_on; o_law
  refine HandSHeadRun.head_any (r := OpenLaw.row PySem.Challenge.rw_surefreight_k09_promises_meant) (q := view (OpenLaw.row PySem.Challenge.rw_surefreight_k09_promises_meant).prog [HT.lawIx]) (H := HT.hk) (ob := HT.ob) (M := 2000) (loose := [("work_number" : PySem.Str), ("minutes_of" : PySem.Str), ("is_kept" : PySem.Str), ("broken_promises" : PySem.Str), ("_law_begin" : PySem.Str), ("_law_draw" : PySem.Str), ("_law_pick" : PySem.Str), ("_law_pop" : PySem.Str), ("_law_rare" : PySem.Str), ("_law_between" : PySem.Str), ("_law_shuffled" : PySem.Str), ("_law_is_int" : PySem.Str), ("_law_ints" : PySem.Str), ("_law_pool" : PySem.Str), ("_law_pair" : PySem.Str), ("_law_number" : PySem.Str), ("_law_rounds" : PySem.Str), ("_law_day_spans" : PySem.Str), ("_law_is_log" : PySem.Str), ("_law_keeps_promise" : PySem.Str), ("_law_put" : PySem.Str), ("_law_frame" : PySem.Str), ("_law_linked_log" : PySem.Str), ("_law_moved_log" : PySem.Str), ("_law_near" : PySem.Str), ("_law_near_promise" : PySem.Str)]) (d := HandSHeadRun.topDef (OpenLaw.row PySem.Challenge.rw_surefreight_k09_promises_meant).prog HT.lawIx) (kwd := []) HT.ob_eq
    (by kernel_rfl) (fun s => by kernel_rfl) HT.run (by kernel_rfl) (by kernel_rfl) (by kernel_rfl) (by rfl) (by first | assumption | decide +kernel) (by decide +kernel) ⟨rfl, rfl, rfl, rfl, rfl, by decide +kernel⟩ ?hw ?hc
  case hw => w_witness2
  case hc =>
    refine L2.walk_ofE (l := PySem.Challenge.rw_surefreight_k09_promises_meant) (n := 63) (k := 200) (x := "script") (CX := L2.CX0) rfl (by decide) (by kernel_rfl) ⟨rfl, by decide, by decide⟩ ?F (fun _ _ _ _ z => z)
    intro w mg fa h Y G hmg0
    obtain ⟨K, KX, c⟩ := Y
    have hmg : mg ("law" : PySem.Str) = some (.ref fa) := by
      have e : (HandSHeadRun.topDef (OpenLaw.row PySem.Challenge.rw_surefreight_k09_promises_meant).prog HT.lawIx).name = ("law" : PySem.Str) := by kernel_rfl
      rw [← e]
      exact hmg0
    obtain ⟨fd, hb, hF⟩ := K09.facts (P := (PySem.Challenge.rw_surefreight_k09_promises_meant).prog) (w := w) KX G hmg c
    exact ⟨K, fd, _, KX, hb, fun H a ns hl _ hS => ⟨a, ns, rfl, hS, fun _ => rfl⟩, hF⟩
