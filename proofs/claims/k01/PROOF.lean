import PyProof.Rows.All
import PyProof.ReprReads
import PyProof.EqLayable
import HandS.Comp
import HandS.Lambda
import HandS.Base
import HandS.Call
import HandS.List
import HandS.Dict
import HandS.DictComp
import HandS.Exc
import HandS.ExcOwn
import HandS.TupAny
import HandS.Flow
import HandS.Deep
import HandS.IsInst
import HandS.Star
import HandS.More
import HandS.TryOnly
import HandS.Small
import KE.KLam
import HandS.Ends
import HandS.EndBits
import HandS.EndTab
import HandS.Defaults
import HandS.Head0
import HandS.Head1
import HandS.Head2
import HandS.HeadHook1
import HandS.HeadHook2
import HandS.HeadHook3
import HandS.HeadHook4
import KE.KNestM
import PyProof.P3Eq
import PyProof.ReprLen
import PySem.Challenge.RW_fewregs_k01_words_reckoned
set_option linter.all false
set_option Elab.async false
/-! The core language: values, states, syntax, what it means. Plain Lean over the model's texts (Str) and data (PyData). -/
namespace Fw
open PySem (Str PyData sizeLine)

/-- values: data as trees; kt, kd: a tuple, a dict of the module's own; scr: the script; fn: a def of the table; ref: an object of the core heap -/
inductive D where
  | non | bl (b : Bool) | int (i : Int) | str (x : Str)
  | tup (l : List D) | lst (l : List D) | dct (l : List (D × D))
  | kt (l : List D) | kd (l : List (Str × D)) | scr (l : List D)
  | fn (f : Nat) | ref (n : Nat)
  deriving Inhabited

mutual
def D.beq : D → D → Bool
  | .non, .non => true
  | .bl a, .bl b => a == b
  | .int a, .int b => a == b
  | .str a, .str b => a == b
  | .tup a, .tup b => D.beqL a b
  | .lst a, .lst b => D.beqL a b
  | .dct a, .dct b => D.beqK a b
  | .kt a, .kt b => D.beqL a b
  | .fn a, .fn b => a == b
  | .ref a, .ref b => a == b
  | _, _ => false
def D.beqL : List D → List D → Bool
  | [], [] => true
  | a :: r, b :: q => D.beq a b && D.beqL r q
  | _, _ => false
def D.beqK : List (D × D) → List (D × D) → Bool
  | [], [] => true
  | (a, c) :: r, (b, d) :: q => D.beq a b && D.beq c d && D.beqK r q
  | _, _ => false
end

mutual
def D.py : D → Option PyData
  | .non => some .none
  | .bl b => some (.bool b)
  | .int i => some (.int i)
  | .str x => some (.str x)
  | .tup l => (D.pyL l).map .tuple
  | .kt l => (D.pyL l).map .tuple
  | .lst l => (D.pyL l).map .list
  | _ => none
def D.pyL : List D → Option (List PyData)
  | [] => some []
  | d :: r => match D.py d, D.pyL r with
    | some x, some y => some (x :: y)
    | _, _ => none
end

inductive Slot where
  | none | val (d : D) | own (d : D)
  deriving Inhabited

inductive HObj where
  | lst (l : List D) | dct (l : List (D × D)) | ins (c : Nat) (fs : List (Str × D))
  deriving Inhabited

structure Exc where
  cls : Nat
  args : List D
  deriving Inhabited

structure Sta where
  fr : List Slot
  hp : List HObj
  deriving Inhabited

inductive R (α : Type) where
  | stk | ok (a : α) (s : Sta) | exc (e : Exc) (s : Sta)
  deriving Inhabited

def M (α : Type) := Sta → R α
@[inline] def M.pure {α : Type} (a : α) : M α := fun s => .ok a s
@[inline] def M.bind {α β : Type} (m : M α) (f : α → M β) : M β := fun s => match m s with
  | .stk => .stk
  | .ok a s => f a s
  | .exc e s => .exc e s
instance : Monad M where
  pure := M.pure
  bind := M.bind
def stk {α : Type} : M α := fun _ => .stk
def lift {α : Type} : Option α → M α
  | some a => pure a
  | none => stk

/-- what a call yields: a value (true: nobody else has it) and the heap -/
inductive RC where
  | stk | ok (f : Bool) (d : D) (hp : List HObj) | exc (e : Exc) (hp : List HObj)
  deriving Inhabited

inductive Op where
  | add | sub | mul | fdiv | mod | pow
  deriving DecidableEq, Inhabited
inductive Cp where
  | eq | ne | lt | le | gt | ge | isIn | notIn | is | isNot
  deriving DecidableEq, Inhabited
inductive Ty where
  | int | bool | str | tuple | list | dict
  deriving DecidableEq, Inhabited
/-- built-in functions of read values -/
inductive Bi where
  | len | all | any | sum | tuple | list | dict | repr | str | int | abs | max | min | sorted | set
  deriving DecidableEq, Inhabited
/-- methods that read -/
inductive Me where
  | get | items | values | index | join | split
  deriving DecidableEq, Inhabited
/-- methods that change -/
inductive Mu where
  | append | extend | insert | pop | popK | update
  deriving DecidableEq, Inhabited

/-- the syntax: one type for all -/
inductive C where
  -- lists: of expressions (consS: a starred one), of a dict display's entries, of handlers
  | nil | cons (a b : C) | consS (a b : C) | consK (k v b : C) | consU (a b : C) | consH (c : Nat) (t : Str) (b : C)
  -- expressions
  | var (i : Nat) | lit (d : D)
  | bin (o : Op) (a b : C) | neg (a : C) | not (a : C) | and (a b : C) | or (a b : C) | ite (c a b : C)
  | cmp (o : Cp) (a b : C) | cmp2 (o p : Cp) (a b c : C)
  | tup (as : C) | lst (as : C) | dct (as : C)
  | sub (a i : C) | slc (a lo hi : C) | rev (a : C)
  | call (f : Nat) (as : C) | callv (i : Nat) (as : C)
  | isi (a : C) (ts : List Ty) | bi (b : Bi) (as : C) | me (m : Me) (o as : C) | mu (m : Mu) (o as : C) | muR (m : Mu) (o as : C)
  | comp (is : List Nat) (e t it cs g : C) | dcomp (is : List Nat) (k v t it cs g : C) | gen (is : List Nat) (t it cs g : C)
  | box (a : C) | heard (tag : Str) (hs a : C)
  | att (a : C) (f : Str) | um (m : Str) (o as : C) | new (c : Nat) (as : C)
  | ofit (b : Bi) (it : C)
  -- what is walked
  | itv (a : C) | rng1 (a : C) | rng2 (a b : C) | enu (a : C) | zip (a b : C) | items (a : C) | vals (a : C) | itemsR (a : C) | valsR (a : C)
  -- statements
  | pass | seq (a b : C) | expr (a : C) | asg (t a : C) | asgT (ts as : C) | augV (j : Nat) (o : Op) (a : C) | augS (o i : C) (p : Op) (a : C)
  | retV (i : Nat) | ret (a : C) | retN
  | ifs (c a b : C) | for_ (t it b : C) | whl (c b : C) | brk | cont
  | raise (c : Nat) (as : C)
  deriving Inhabited

/-! ### operations on values -/
def binop : Op → D → D → Option (Bool × D)
  | .add, .int i, .int j => some (false, .int (i + j))
  | .add, .str x, .str y => if x.length + y.length ≤ sizeLine then some (false, .str (x ++ y)) else none
  | .add, .lst a, .lst b => if a.length + b.length ≤ sizeLine then some (true, .lst (a ++ b)) else none
  | .add, .tup a, .tup b => if a.length + b.length ≤ sizeLine then some (false, .tup (a ++ b)) else none
  | .sub, .int i, .int j => some (false, .int (i - j))
  | .mul, .int i, .int j => if (-(2 ^ 64) < i ∧ i < 2 ^ 64) ∨ (-(2 ^ 64) < j ∧ j < 2 ^ 64) then some (false, .int (i * j)) else none
  | .mul, .lst a, .int k => if -(2 ^ 63) ≤ k ∧ k < 2 ^ 63 ∧ a.length * k.toNat ≤ sizeLine then some (true, .lst (List.replicate k.toNat a).flatten) else none
  | .fdiv, .int i, .int j => if 0 < j ∧ j < 1073741824 then some (false, .int (i / j)) else none
  | .mod, .int i, .int j => if 0 < j then some (false, .int (i % j)) else none
  | .pow, .int i, .int j => if 0 ≤ j ∧ j ≤ 1000000 ∧ i.natAbs < 2 ^ 64 then some (false, .int (i ^ j.toNat)) else none
  | _, _, _ => none

/-- op= -/
def augD (o : Op) : D → D → Option D
  | .int i, .int j => (match o with
    | .pow => none
    | o => (binop o (.int i) (.int j)).map (·.2))
  | _, _ => none
def shp (d : D) : Bool := match d.py with
  | some p => PySem.SeqAt.shaped p
  | none => false
def D.isKey1 : D → Bool
  | .int _ => true
  | .str _ => true
  | _ => false
def eqS : D → D → Option Bool
  | .str x, .str y => some (x == y)
  | _, _ => none
def eqD (a b : D) : Option Bool :=
  match eqS a b with
  | some r => some r
  | none => match a.py, b.py with
  | some x, some y => if PySem.SeqAt.shaped x && PySem.SeqAt.shaped y then some (PyData.eqv x y) else none
  | _, _ => match a, b with
    | .dct k, .dct l => if D.beqK k l && k.all (fun p => p.1.isKey1 && shp p.2) then some true else none
    | _, _ => none

def truthy : D → Option Bool
  | .non => some false
  | .bl b => some b
  | .int i => some (i != 0)
  | .str x => if x.length ≤ sizeLine then some (x.length != 0) else none
  | .lst l => some (l.length != 0)
  | .tup l => some (l.length != 0)
  | .kt l => some (l.length != 0)
  | _ => none

/-- keys of dicts: ints, texts, tuples of these -/
def D.isKey : D → Bool
  | .tup l => l.all D.isKey1
  | d => d.isKey1
/-- may the dict l be asked for k? -/
def fits (k : D) (l : List (D × D)) : Bool := if k.isKey1 then l.all fun p => p.1.isKey1 else k.isKey && l.all fun p => !p.1.isKey1
def look (k : D) : List (D × D) → Option D
  | [] => none
  | (a, v) :: r => if D.beq a k then some v else look k r
def put (k v : D) : List (D × D) → List (D × D)
  | [] => [(k, v)]
  | (a, u) :: r => if D.beq a k then (a, v) :: r else (a, u) :: put k v r
def drop1 (k : D) : List (D × D) → List (D × D)
  | [] => []
  | (a, u) :: r => if D.beq a k then r else (a, u) :: drop1 k r
def merge (l : List (D × D)) : List (D × D) → List (D × D)
  | [] => l
  | (k, v) :: r => merge (put k v l) r

def memD (x : D) (l : List D) : Option Bool := match x.py, D.pyL l with
  | some p, some ps => if PySem.SeqAt.shaped p && PySem.SeqAt.shaped (.list ps) then some (ps.any fun z => PyData.eqv z p) else none
  | _, _ => none

def cmpop : Cp → D → D → Option Bool
  | .eq, a, b => eqD a b
  | .ne, a, b => (eqD a b).map (!·)
  | .lt, .int i, .int j => some (decide (i < j))
  | .le, .int i, .int j => some (decide (i ≤ j))
  | .gt, .int i, .int j => some (decide (j < i))
  | .ge, .int i, .int j => some (decide (j ≤ i))
  | .isIn, x, .lst l => memD x l
  | .isIn, x, .tup l => memD x l
  | .isIn, x, .kt l => memD x l
  | .isIn, .str x, .kd l => some (l.lookup x).isSome
  | .isIn, x, .dct l => if fits x l then some (look x l).isSome else none
  | .notIn, x, .lst l => (memD x l).map (!·)
  | .notIn, x, .tup l => (memD x l).map (!·)
  | .notIn, x, .kt l => (memD x l).map (!·)
  | .notIn, .str x, .kd l => some (!(l.lookup x).isSome)
  | .notIn, x, .dct l => if fits x l then some (!(look x l).isSome) else none
  | .is, a, .non => some (match a with | .non => true | _ => false)
  | .isNot, a, .non => some (match a with | .non => false | _ => true)
  | _, _, _ => none

/-- the place of an index -/
def ixOf (n : Nat) (i : Int) : Option Nat := if 0 ≤ i then (if i < n then some i.toNat else none) else if -(n : Int) ≤ i then some (i + n).toNat else none
def atD {α : Type} (l : List α) (i : Int) : Option α := (ixOf l.length i).bind fun j => l[j]?
def subD : D → D → Option D
  | .lst l, .int i => atD l i
  | .tup l, .int i => atD l i
  | .kt l, .int i => atD l i
  | .kd l, .str x => l.lookup x
  | .dct l, k => if fits k l then look k l else none
  | _, _ => none

def endOf (n d : Nat) : Option Int → Nat
  | none => d
  | some i => if 0 ≤ i then min i.toNat n else (i + n).toNat
def cut {α : Type} (l : List α) (lo hi : Option Int) : List α := (l.drop (endOf l.length 0 lo)).take (endOf l.length l.length hi - endOf l.length 0 lo)
def intOf : D → Option Int
  | .int i => some i
  | _ => none
def sliceD (a : D) (x y : Option Int) : Option (Bool × D) := match a with
  | .lst l => some (true, .lst (cut l x y))
  | .scr l => some (true, .lst (cut l x y))
  | .tup l => some (false, .tup (cut l x y))
  | _ => none
def revD : D → Option (Bool × D)
  | .lst l => some (true, .lst l.reverse)
  | .tup l => some (false, .tup l.reverse)
  | _ => none

/-- the type of a value -/
inductive Kd where
  | non | int | bool | str | tuple | list | dict
  deriving DecidableEq, Inhabited
def kdOf : D → Option Kd
  | .non => some .non
  | .int _ => some .int
  | .bl _ => some .bool
  | .str _ => some .str
  | .tup _ => some .tuple
  | .kt _ => some .tuple
  | .lst _ => some .list
  | .dct _ => some .dict
  | _ => none
def kdIs : Kd → Ty → Bool
  | .int, .int => true
  | .bool, .int => true
  | .bool, .bool => true
  | .str, .str => true
  | .tuple, .tuple => true
  | .list, .list => true
  | .dict, .dict => true
  | _, _ => false
def isTys (d : D) : List Ty → Option Bool
  | [t] => (kdOf d).map fun k => kdIs k t
  | _ => none

def boolsOf : List D → Option (List Bool)
  | [] => some []
  | .bl b :: r => (boolsOf r).map (b :: ·)
  | _ => none
def intsOf : List D → Option (List Int)
  | [] => some []
  | .int b :: r => (intsOf r).map (b :: ·)
  | _ => none
/-- the pairs of a list of couples -/
def pairsOf : List D → Option (List (D × D))
  | [] => some []
  | .tup [a, b] :: r => (pairsOf r).map ((a, b) :: ·)
  | _ => none

mutual
def ltD : D → D → Option Bool
  | .int i, .int j => some (decide (i < j))
  | .str x, .str y => some (decide (x.cps.toList < y.cps.toList))
  | .tup a, .tup b => ltL a b
  | _, _ => none
def ltL : List D → List D → Option Bool
  | [], [] => some false
  | [], _ :: _ => some true
  | _ :: _, [] => some false
  | x :: r, y :: q => if D.beq x y then ltL r q else ltD x y
end
def insD (x : D) : List D → Option (List D)
  | [] => some [x]
  | y :: r => match ltD x y with
    | some true => some (x :: y :: r)
    | some false => (insD x r).map (y :: ·)
    | none => none
def sortD : List D → Option (List D)
  | [] => some []
  | x :: r => (sortD r).bind (insD x)

def lenD : D → Option Int
  | .lst l => some l.length
  | .tup l => some l.length
  | .kt l => some l.length
  | .dct l => if l.all (fun p => p.1.isKey1) then some l.length else none
  | .str x => if x.length ≤ sizeLine then some x.length else none
  | _ => none

def reprD (d : D) : Option D := match d.py with
  | some x => if x.showable && decide (x.depth ≤ 64) && decide (x.shown.length ≤ sizeLine) then some (.str x.shown) else none
  | none => none

def biop : Bi → List D → Option (Bool × D)
  | .len, [a] => (lenD a).map fun n => (false, .int n)
  | .all, [.lst l] => (boolsOf l).map fun b => (false, .bl (b.all id))
  | .any, [.lst l] => (boolsOf l).map fun b => (false, .bl (b.any id))
  | .sum, [.lst l] => (intsOf l).map fun b => (false, .int b.sum)
  | .tuple, [.lst l] => some (false, .tup l)
  | .tuple, [.tup l] => some (false, .tup l)
  | .list, [.lst l] => some (true, .lst l)
  | .list, [.tup l] => some (true, .lst l)
  | .list, [.kt l] => some (true, .lst l)
    | .dict, [.lst l] => (pairsOf l).bind fun ps => if ps.all (fun p => p.1.isKey1) then some (true, .dct (merge [] ps)) else none
  | .repr, [a] => (reprD a).map fun x => (false, x)
  | .sorted, [.lst l] => (sortD l).map fun l => (true, .lst l)
  | .sorted, [.tup l] => (sortD l).map fun l => (true, .lst l)
  | .sorted, [.dct l] => (sortD (l.map (·.1))).map fun l => (true, .lst l)
  | .int, [.int i] => some (false, .int i)
  | .abs, [.int i] => some (false, .int i.natAbs)
  | _, _ => none

def meop : Me → D → List D → Option (Bool × D)
  | .get, .dct l, [k] => if fits k l then some (false, (look k l).getD .non) else none
  | .get, .dct l, [k, d] => if fits k l then some (false, (look k l).getD d) else none
  | _, _, _ => none

/-- what a changing method makes of a container: the new one, what it yields -/
def muop : Mu → D → List D → Option (D × D)
  | .append, .lst l, [x] => if l.length < sizeLine then some (.lst (l ++ [x]), .non) else none
  | .extend, .lst l, [.lst m] => if l.length + m.length ≤ sizeLine then some (.lst (l ++ m), .non) else none
  | .insert, .lst l, [.int i, x] => if 0 ≤ i ∧ i < 2 ^ 62 ∧ l.length < sizeLine then some (.lst (l.insertIdx (min i.toNat l.length) x), .non) else none
  | .pop, .lst l, [] => (l.getLast?).map fun x => (.lst l.dropLast, x)
  | .popK, .dct l, [k] => if fits k l then (look k l).map fun x => (.dct (drop1 k l), x) else none
  | .update, .dct l, [.dct m] => if m.all (fun p => p.1.isKey) then some (.dct (merge l m), .non) else none
  | _, _, _ => none
def kdMu : Mu → Kd
  | .popK => .dict
  | .update => .dict
  | _ => .list
def kdMe : Me → Kd
  | .get => .dict
  | .items => .dict
  | .values => .dict
  | .index => .list
  | _ => .str
def ask (b : Bool) : M Unit := if b then pure () else stk
def setop : D → D → D → Option D
  | .lst l, .int i, v => (ixOf l.length i).map fun j => .lst (l.set j v)
  | .dct l, k, v => if fits k l then (if l.length < sizeLine then some (.dct (put k v l)) else none) else none
  | _, _, _ => none

/-! ### states -/
/-- an operand: a value, or the container that the name i owns -/
inductive OV where
  | d (x : D) | own (i : Nat)
def readOp (i : Nat) : M OV := fun s => match s.fr[i]? with
  | some (.val d) => .ok (.d d) s
  | some (.own _) => .ok (.own i) s
  | _ => .stk
def opd (a : C) (m : M (Bool × D)) : M OV := match a with
  | .var i => readOp i
  | _ => do let v ← m; pure (.d v.2)
/-- a slice's part -/
def partM (a : C) (m : M (Bool × D)) : M (Option Int) := match a with
  | .nil => pure none
  | _ => do let v ← m; let i ← lift (intOf v.2); pure (some i)
/-- the content, now -/
def res : OV → M D
  | .own i => fun s => match s.fr[i]? with
    | some (.own d) => .ok d s
    | _ => .stk
  | .d (.ref n) => fun s => match s.hp[n]? with
    | some (.lst l) => .ok (.lst l) s
    | some (.dct l) => .ok (.dct l) s
    | some (.ins _ _) => .ok (.ref n) s
    | none => .stk
  | .d x => pure x
def ress : List OV → M (List D)
  | [] => pure []
  | o :: r => do let d ← res o; let ds ← ress r; pure (d :: ds)
/-- a test by truth -/
def tst (a : C) (m : M (Bool × D)) : M Bool := match a with
  | .var i => do let x ← readOp i; let x ← res x; lift (truthy x)
  | _ => do let x ← m; lift (truthy x.2)
def setSlot (i : Nat) (x : Slot) : M Unit := fun s => if i < s.fr.length then .ok () { s with fr := s.fr.set i x } else .stk
/-- a new content for an operand's container -/
def store : OV → D → M Unit
  | .own i, d => setSlot i (.own d)
  | .d (.ref n), .lst l => fun s => if n < s.hp.length then .ok () { s with hp := s.hp.set n (.lst l) } else .stk
  | .d (.ref n), .dct l => fun s => if n < s.hp.length then .ok () { s with hp := s.hp.set n (.dct l) } else .stk
  | _, _ => stk
def boxM (v : Bool × D) : M (Bool × D) := match v with
  | (true, .lst l) => fun s => .ok (false, .ref s.hp.length) { s with hp := s.hp ++ [.lst l] }
  | (true, .dct l) => fun s => .ok (false, .ref s.hp.length) { s with hp := s.hp ++ [.dct l] }
  | _ => stk

inductive Flow where
  | nx | brk | cont | ret (f : Bool) (d : D)
  deriving Inhabited

abbrev Call := Nat → List D → List HObj → RC
def callM (cl : Call) (f : Nat) (ds : List D) : M (Bool × D) := fun s => match cl f ds s.hp with
  | .stk => .stk
  | .ok b d hp => .ok (b, d) { s with hp := hp }
  | .exc e hp => .exc e { s with hp := hp }

def fnAt (i : Nat) : M Nat := fun s => match s.fr[i]? with
  | some (.val (.fn f)) => .ok f s
  | _ => .stk
def negD : D → Option (Bool × D)
  | .int i => some (false, .int (-i))
  | _ => none
def entriesOf : D → Option (List (D × D))
  | .dct l => some l
  | _ => none
def rangeD : D → D → Option (List D)
  | .int m, .int n => if m < 2 ^ 62 ∧ -(2 ^ 62) ≤ m ∧ n < 2 ^ 62 ∧ -(2 ^ 62) ≤ n then some ((List.range (n - m).toNat).map fun (k : Nat) => D.int (m + k)) else none
  | _, _ => none
/-- loops that go by a number -/
def LOOPS : Nat := 1000000
def iter {σ : Type} (step : M (Option σ)) : Nat → M (Option σ)
  | 0 => stk
  | n + 1 => do
    match ← step with
    | some x => pure (some x)
    | none => iter step n

def itemsOf : D → Option (List D)
  | .lst l => some l
  | .tup l => some l
  | .kt l => some l
  | .dct l => some (l.map (·.1))
  | _ => none

def fixedOf : List D ⊕ Nat → Option (List D)
  | .inl l => some l
  | .inr _ => none
def unpack : D → Option (List D)
  | .tup l => some l
  | .kt l => some l
  | .lst l => some l
  | _ => none
/-- what is walked: fixed things, or an object of the core heap -/
def srcOf : D → M (List D ⊕ Nat)
  | .ref n => fun s => match s.hp[n]? with
    | some (.lst _) => .ok (.inr n) s
    | _ => .stk
  | v => lift ((unpack v).map .inl)
/-- a walk over fixed things: until something is told -/
def walk {β : Type} (f : D → M (Option β)) : List D → M (Option β)
  | [] => pure none
  | x :: r => do
    match ← f x with
    | some y => pure (some y)
    | none => walk f r
/-- a walk over a container that may change -/
def walkD {β : Type} (o : Nat) (f : D → M (Option β)) : Nat → Nat → M (Option β)
  | 0, _ => stk
  | n + 1, i => do
    match ← res (.d (.ref o)) with
    | .lst l => match l[i]? with
      | none => pure none
      | some x => do
        match ← f x with
        | some y => pure (some y)
        | none => walkD o f n (i + 1)
    | _ => stk
def over {β : Type} (src : List D ⊕ Nat) (f : D → M (Option β)) : M (Option β) := match src with
  | .inl l => walk f l
  | .inr o => walkD o f LOOPS 0
/-- all that is told, together -/
def coll {α : Type} (f : D → M (List α)) : List D → M (List α)
  | [] => pure []
  | x :: r => do let a ← f x; let b ← coll f r; pure (a ++ b)
def collD {α : Type} (o : Nat) (f : D → M (List α)) : Nat → Nat → M (List α)
  | 0, _ => stk
  | n + 1, i => do
    match ← res (.d (.ref o)) with
    | .lst l => match l[i]? with
      | none => pure []
      | some x => do let a ← f x; let b ← collD o f n (i + 1); pure (a ++ b)
    | _ => stk
def collS {α : Type} (src : List D ⊕ Nat) (f : D → M (List α)) : M (List α) := match src with
  | .inl l => coll f l
  | .inr o => collD o f LOOPS 0

def asgVar (i : Nat) (v : Bool × D) : M Unit := setSlot i (if v.1 then .own v.2 else .val v.2)
/-- the names of a target -/
def tnames : C → Option (List Nat)
  | .nil => some []
  | .cons (.var i) r => (tnames r).map (i :: ·)
  | _ => none
/-- names take the items of a tuple or list -/
def asgVars : List Nat → List D → M Unit
  | [], [] => pure ()
  | i :: r, d :: ds => do setSlot i (.val d); asgVars r ds
  | _, _ => stk
def asgT (t : C) (v : Bool × D) : M Unit := match t with
  | .var i => asgVar i v
  | .tup ts => do let is ← lift (tnames ts); let l ← lift (unpack v.2); asgVars is l
  | _ => stk

def Slot.notOwn : Slot → Bool
  | .own _ => false
  | _ => true
/-- slots emptied; set to what they were -/
def clrFr (fr : List Slot) : List Nat → List Slot
  | [] => fr
  | i :: is => (clrFr fr is).set i .none
def putFr (old fr : List Slot) : List Nat → List Slot
  | [] => fr
  | i :: is => (putFr old fr is).set i (old[i]?.getD .none)
def clr (is : List Nat) : M Unit := fun s => if is.all fun i => (s.fr[i]?.getD .none).notOwn then .ok () { s with fr := clrFr s.fr is } else .stk
/-- run with the slots empty, then the slots as they were; nothing leaves by an error -/
def inner {α : Type} (is : List Nat) (m : M α) : M α := fun s => match clr is s with
  | .ok _ s0 => match m s0 with
    | .ok a s1 => match clr is s1 with
      | .ok _ s2 => .ok a { s2 with fr := putFr s.fr s2.fr is }
      | _ => .stk
    | _ => .stk
  | _ => .stk


section
variable (cl : Call)
mutual
/-- an expression; true: a container that nobody else has -/
def evF : C → M (Bool × D)
  | .var i => fun s => match s.fr[i]? with
    | some (.val d) => .ok (false, d) s
    | some (.own d) => .ok (false, d) { s with fr := s.fr.set i (.val d) }
    | _ => .stk
  | .lit d => pure (false, d)
  | .bin o a b => do
    let x ← opd a (evF a); let y ← opd b (evF b); let x ← res x; let y ← res y
    lift (binop o x y)
  | .neg a => do let x ← evF a; lift (negD x.2)
  | .not a => do let b ← tst a (evF a); pure (false, .bl (!b))
  | .and a b => do
    let x ← evF a; let c ← lift (truthy x.2); if c then evF b else pure (false, x.2)
  | .or a b => do
    let x ← evF a; let c ← lift (truthy x.2); if c then pure (false, x.2) else evF b
  | .ite c a b => do let t ← tst c (evF c); if t then evF a else evF b
  | .cmp o a b => do
    let x ← opd a (evF a); let y ← opd b (evF b); let x ← res x; let y ← res y
    let c ← lift (cmpop o x y); pure (false, .bl c)
  | .cmp2 o p a b c => do
    let x ← evF a; let y ← evF b; let t ← lift (cmpop o x.2 y.2)
    if t then do let z ← evF c; let u ← lift (cmpop p y.2 z.2); pure (false, .bl u) else pure (false, .bl false)
  | .tup as => do let ds ← evL as; lift (if ds.length ≤ sizeLine then some (false, .tup ds) else none)
  | .lst as => do let ds ← evL as; lift (if ds.length ≤ sizeLine then some (true, .lst ds) else none)
  | .dct as => do let ds ← evK as; lift (if ds.length ≤ 15 then some (true, .dct (merge [] ds)) else none)
  | .sub a i => do
    let x ← opd a (evF a); let i ← evF i; let x ← res x; let v ← lift (subD x i.2); pure (false, v)
  | .slc a lo hi => do
    let x ← opd a (evF a); let l ← partM lo (evF lo); let h ← partM hi (evF hi); let x ← res x
    lift (sliceD x l h)
  | .rev a => do let x ← opd a (evF a); let x ← res x; lift (revD x)
  | .call f as => do let ds ← evL as; callM cl f ds
  | .callv i as => do let f ← fnAt i; let ds ← evL as; callM cl f ds
  | .isi a ts => do let x ← opd a (evF a); let x ← res x; let b ← lift (isTys x ts); pure (false, .bl b)
  | .bi b as => do let xs ← evO as; let xs ← ress xs; lift (biop b xs)
  | .me m o as => do
    let x ← opd o (evF o); let d0 ← res x; ask (kdOf d0 == some (kdMe m)); let ds ← evL as; let x ← res x; lift (meop m x ds)
  | .mu m o as => do
    let x ← opd o (evF o); let d0 ← res x; ask (kdOf d0 == some (kdMu m)); let ys ← evL as; let d ← res x
    let z ← lift (muop m d ys); store x z.1; pure (false, z.2)
  | .muR m o as => do
    let x ← opd o (evF o); let d0 ← res x; ask (kdOf d0 == some (kdMu m)); let ys ← evO as; let d ← res x; let ys ← ress ys
    let z ← lift (muop m d ys); store x z.1; pure (false, z.2)
  | .comp is e t it cs g => do
    let src ← evI it
    let acc ← inner is (collS src fun x => do
      clr is
      asgT t (false, x)
      let c ← evC cs
      if c then evG (do let x ← evF e; pure (x.2, .non)) g else pure [])
    lift (if acc.length ≤ sizeLine then some (true, .lst (acc.map (·.1))) else none)
  | .dcomp is k v t it cs g => do
    let src ← evI it
    let acc ← inner is (collS src fun x => do
      clr is
      asgT t (false, x)
      let c ← evC cs
      if c then evG (do let x ← evF k; let y ← evF v; lift (if x.2.isKey1 then some (x.2, y.2) else none)) g else pure [])
    lift (if acc.length ≤ sizeLine then some (true, .dct (merge [] acc)) else none)
  | .box a => do let v ← evF a; boxM v
  | .ofit b it => do let src ← evI it; let l ← lift (fixedOf src); lift (biop b [.lst l])
  | .heard tag hs a => fun s => match evF a s with
    | .ok v s' => .ok (false, .tup [.str tag, v.2]) s'
    | .exc e s' => evH hs e s'
    | .stk => .stk
  | _ => stk
/-- a list of expressions, as values -/
def evL : C → M (List D)
  | .nil => pure []
  | .consS a b => do
    let x ← opd a (evF a); let x ← res x; let l ← lift (itemsOf x); let r ← evL b; pure (l ++ r)
  | .cons a b => do let x ← evF a; let r ← evL b; pure (x.2 :: r)
  | _ => stk
/-- .. as operands -/
def evO : C → M (List OV)
  | .nil => pure []
  | .cons a b => do let x ← opd a (evF a); let r ← evO b; pure (x :: r)
  | _ => stk
/-- the entries of a dict's display -/
def evK : C → M (List (D × D))
  | .nil => pure []
  | .consK k v b => do
    let x ← evF k; let y ← evF v; let p ← lift (if x.2.isKey1 then some (x.2, y.2) else none)
    let r ← evK b; pure (p :: r)
  | .consU a b => do
    let x ← opd a (evF a); let x ← res x; let l ← lift (entriesOf x); let r ← evK b; pure (l ++ r)
  | _ => stk
/-- conditions, all -/
def evC : C → M Bool
  | .nil => pure true
  | .cons a b => do let t ← tst a (evF a); if t then evC b else pure false
  | _ => stk
/-- what is walked -/
def evI : C → M (List D ⊕ Nat)
  | .rng1 a => do let x ← evF a; let l ← lift (rangeD (.int 0) x.2); pure (.inl l)
  | .rng2 a b => do let x ← evF a; let y ← evF b; let l ← lift (rangeD x.2 y.2); pure (.inl l)
  | .enu a => do
    let x ← evF a; let l ← lift (itemsOf x.2); pure (.inl ((List.range l.length).zipWith (fun (k : Nat) d => D.tup [.int (k : Int), d]) l))
  | .zip a b => do
    let x ← evF a; let y ← evF b
    let l ← lift (itemsOf x.2); let m ← lift (itemsOf y.2); pure (.inl (l.zipWith (fun d e => D.tup [d, e]) m))
  | .items o => do let x ← evF o; let l ← lift (entriesOf x.2); pure (.inl (l.map fun p => D.tup [p.1, p.2]))
  | .vals o => do let x ← evF o; let l ← lift (entriesOf x.2); pure (.inl (l.map fun p => p.2))
  | .itemsR o => do let x ← opd o (evF o); let x ← res x; let l ← lift (entriesOf x); pure (.inl (l.map fun p => D.tup [p.1, p.2]))
  | .valsR o => do let x ← opd o (evF o); let x ← res x; let l ← lift (entriesOf x); pure (.inl (l.map fun p => p.2))
  | .itv a => do let x ← evF a; srcOf x.2
  | _ => stk
/-- the further clauses of a comprehension -/
def evG (me : M (D × D)) : C → M (List (D × D))
  | .nil => do let x ← me; pure [x]
  | .gen is t it cs g => do
    let src ← evI it
    collS src fun x => do
      clr is
      asgT t (false, x)
      let c ← evC cs
      if c then evG me g else pure []
  | _ => stk
/-- a handler's answer -/
def evH : C → Exc → M (Bool × D)
  | .consH c t b, e => if e.cls == c then pure (false, .tup (.str t :: e.args)) else evH b e
  | _, _ => stk
end
/-- a target takes a value -/
def asg1 (t : C) (v : Bool × D) : M Unit := match t with
  | .sub o i => do
    let x ← opd o (evF cl o); let i ← evF cl i; let d ← res x
    let d' ← lift (setop d i.2 v.2); store x d'
  | t => asgT t v
/-- several values for several targets -/
def evFs : C → M (List (Bool × D))
  | .nil => pure []
  | .cons a b => do let x ← evF cl a; let r ← evFs b; pure (x :: r)
  | _ => stk
def asgs : C → List (Bool × D) → M Unit
  | .nil, [] => pure ()
  | .cons t r, v :: vs => do asg1 cl t v; asgs r vs
  | _, _ => stk
/-- what a turn's flow means for its loop -/
def turn : Flow → M (Option Flow)
  | .nx => pure none
  | .cont => pure none
  | .brk => pure (some .nx)
  | .ret f d => pure (some (.ret f d))
/-- a statement -/
def evS : C → M Flow
  | .pass => pure .nx
  | .seq a b => do
    match ← evS a with
    | .nx => evS b
    | f => pure f
  | .expr a => do let _ ← evF cl a; pure .nx
  | .asg t a => do let v ← evF cl a; asg1 cl t v; pure .nx
  | .asgT ts as => do let vs ← evFs cl as; asgs cl ts vs; pure .nx
  | .augV j o a => do
    let x ← evF cl (.var j); let y ← evF cl a; let z ← lift (augD o x.2 y.2)
    setSlot j (.val z); pure .nx
  | .augS o i p a => do
    let x ← opd o (evF cl o); let i ← evF cl i; let d ← res x; let u ← lift (subD d i.2)
    let y ← evF cl a; let z ← lift (augD p u y.2); let d ← res x
    let d' ← lift (setop d i.2 z); store x d'; pure .nx
  | .retV i => fun s => match s.fr[i]? with
    | some (.val d) => .ok (.ret false d) s
    | some (.own d) => .ok (.ret true d) s
    | _ => .stk
  | .ret a => do let v ← evF cl a; pure (.ret v.1 v.2)
  | .retN => pure (.ret false .non)
  | .ifs c a b => do let t ← tst c (evF cl c); if t then evS a else evS b
  | .for_ t it b => do
    let src ← evI cl it
    let r ← over src fun x => do
      asgT t (false, x)
      let f ← evS b
      turn f
    pure (r.getD .nx)
  | .whl c b => do
    let r ← iter (do
      let t ← tst c (evF cl c)
      if t then do
        let f ← evS b
        turn f
      else pure (some .nx)) LOOPS
    pure (r.getD .nx)
  | .brk => pure .brk
  | .cont => pure .cont
  | .raise c as => do let ds ← evL cl as; fun s => .exc ⟨c, ds⟩ s
  | _ => stk
end

structure Fn where
  np : Nat
  ns : Nat
  body : C
  deriving Inhabited
def runFn (cl : Call) (fn : Fn) (ds : List D) (hp : List HObj) : RC :=
  if ds.length = fn.np then
    match evS cl fn.body ⟨ds.map .val ++ List.replicate (fn.ns - fn.np) .none, hp⟩ with
    | .ok (.ret f d) s => .ok f d s.hp
    | .ok .nx s => .ok false .non s.hp
    | .exc e s => .exc e s.hp
    | _ => .stk
  else .stk
def callN (T : Nat → Option Fn) : Nat → Call
  | 0 => fun _ _ _ => .stk
  | k + 1 => fun f ds hp => match T f with
    | some fn => runFn (callN T k) fn ds hp
    | none => .stk
def S (s : String) : Str := Str.ofString s
end Fw
set_option linter.all false
set_option Elab.async false
/-! The equations of the core language's meaning. -/
namespace Fw
open PySem (Str PyData sizeLine)
section
variable (cl : Call) (o p : Op) (c c' : Cp) (a b d e t it cs g k v hs i lo hi as ts : C) (n f : Nat) (x : D) (tys : List Ty) (bi : Bi) (me : Me) (mu : Mu) (tag : Str)
theorem evF_var : evF cl (.var n) = fun s => match s.fr[n]? with
    | some (.val d) => .ok (false, d) s
    | some (.own d) => .ok (false, d) { s with fr := s.fr.set n (.val d) }
    | _ => .stk := rfl
theorem evF_lit : evF cl (.lit x) = pure (false, x) := rfl
theorem evF_bin : evF cl (.bin o a b) = (do let x ← opd a (evF cl a); let y ← opd b (evF cl b); let x ← res x; let y ← res y; lift (binop o x y)) := rfl
theorem evF_neg : evF cl (.neg a) = (do let x ← evF cl a; lift (negD x.2)) := rfl
theorem evF_not : evF cl (.not a) = (do let b ← tst a (evF cl a); pure (false, .bl (!b))) := rfl
theorem evF_and : evF cl (.and a b) = (do let x ← evF cl a; let c ← lift (truthy x.2); if c then evF cl b else pure (false, x.2)) := rfl
theorem evF_or : evF cl (.or a b) = (do let x ← evF cl a; let c ← lift (truthy x.2); if c then pure (false, x.2) else evF cl b) := rfl
theorem evF_ite : evF cl (.ite d a b) = (do let t ← tst d (evF cl d); if t then evF cl a else evF cl b) := rfl
theorem evF_cmp : evF cl (.cmp c a b) = (do let x ← opd a (evF cl a); let y ← opd b (evF cl b); let x ← res x; let y ← res y; let c ← lift (cmpop c x y); pure (false, .bl c)) := rfl
theorem evF_cmp2 : evF cl (.cmp2 c c' a b d) = (do let x ← evF cl a; let y ← evF cl b; let t ← lift (cmpop c x.2 y.2)
                                                   if t then do let z ← evF cl d; let u ← lift (cmpop c' y.2 z.2); pure (false, .bl u) else pure (false, .bl false)) := rfl
theorem evF_tup : evF cl (.tup as) = (do let ds ← evL cl as; lift (if ds.length ≤ sizeLine then some (false, .tup ds) else none)) := rfl
theorem evF_lst : evF cl (.lst as) = (do let ds ← evL cl as; lift (if ds.length ≤ sizeLine then some (true, .lst ds) else none)) := rfl
theorem evF_dct : evF cl (.dct as) = (do let ds ← evK cl as; lift (if ds.length ≤ 15 then some (true, .dct (merge [] ds)) else none)) := rfl
theorem evF_sub : evF cl (.sub a i) = (do let x ← opd a (evF cl a); let i ← evF cl i; let x ← res x; let v ← lift (subD x i.2); pure (false, v)) := rfl
theorem evF_slc : evF cl (.slc a lo hi) = (do let x ← opd a (evF cl a); let l ← partM lo (evF cl lo); let h ← partM hi (evF cl hi); let x ← res x; lift (sliceD x l h)) := rfl
theorem evF_rev : evF cl (.rev a) = (do let x ← opd a (evF cl a); let x ← res x; lift (revD x)) := rfl
theorem evF_call : evF cl (.call f as) = (do let ds ← evL cl as; callM cl f ds) := rfl
theorem evF_callv : evF cl (.callv n as) = (do let f ← fnAt n; let ds ← evL cl as; callM cl f ds) := rfl
theorem evF_isi : evF cl (.isi a tys) = (do let x ← opd a (evF cl a); let x ← res x; let b ← lift (isTys x tys); pure (false, .bl b)) := rfl
theorem evF_bi : evF cl (.bi bi as) = (do let xs ← evO cl as; let xs ← ress xs; lift (biop bi xs)) := rfl
theorem evF_me : evF cl (.me me d as) = (do
    let x ← opd d (evF cl d); let d0 ← res x; ask (kdOf d0 == some (kdMe me)); let ds ← evL cl as; let x ← res x; lift (meop me x ds)) := rfl
theorem evF_mu : evF cl (.mu mu e as) = (do
    let x ← opd e (evF cl e); let d0 ← res x; ask (kdOf d0 == some (kdMu mu)); let ys ← evL cl as; let d ← res x
    let z ← lift (muop mu d ys); store x z.1; pure (false, z.2)) := rfl
theorem evF_muR : evF cl (.muR mu e as) = (do
    let x ← opd e (evF cl e); let d0 ← res x; ask (kdOf d0 == some (kdMu mu)); let ys ← evO cl as; let d ← res x; let ys ← ress ys
    let z ← lift (muop mu d ys); store x z.1; pure (false, z.2)) := rfl
theorem evF_comp (is : List Nat) : evF cl (.comp is e t it cs g) = (do
    let src ← evI cl it
    let acc ← inner is (collS src fun x => do
      clr is
      asgT t (false, x)
      let c ← evC cl cs
      if c then evG cl (do let x ← evF cl e; pure (x.2, .non)) g else pure [])
    lift (if acc.length ≤ sizeLine then some (true, .lst (acc.map (·.1))) else none)) := rfl
theorem evF_dcomp (is : List Nat) : evF cl (.dcomp is k v t it cs g) = (do
    let src ← evI cl it
    let acc ← inner is (collS src fun x => do
      clr is
      asgT t (false, x)
      let c ← evC cl cs
      if c then evG cl (do let x ← evF cl k; let y ← evF cl v; lift (if x.2.isKey1 then some (x.2, y.2) else none)) g else pure [])
    lift (if acc.length ≤ sizeLine then some (true, .dct (merge [] acc)) else none)) := rfl
theorem evF_box : evF cl (.box a) = (do let v ← evF cl a; boxM v) := rfl
theorem evF_ofit : evF cl (.ofit bi it) = (do let src ← evI cl it; let l ← lift (fixedOf src); lift (biop bi [.lst l])) := rfl
theorem evI_itemsR : evI cl (.itemsR a) = (do let x ← opd a (evF cl a); let x ← res x; let l ← lift (entriesOf x); pure (.inl (l.map fun p => D.tup [p.1, p.2]))) := rfl
theorem evI_valsR : evI cl (.valsR a) = (do let x ← opd a (evF cl a); let x ← res x; let l ← lift (entriesOf x); pure (.inl (l.map fun p => p.2))) := rfl
theorem evF_heard : evF cl (.heard tag hs a) = fun s => match evF cl a s with
    | .ok v s' => .ok (false, .tup [.str tag, v.2]) s'
    | .exc e s' => evH cl hs e s'
    | .stk => .stk := rfl
theorem evL_nil : evL cl .nil = pure [] := rfl
theorem evL_cons : evL cl (.cons a b) = (do let x ← evF cl a; let r ← evL cl b; pure (x.2 :: r)) := rfl
theorem evL_consS : evL cl (.consS a b) = (do let x ← opd a (evF cl a); let x ← res x; let l ← lift (itemsOf x); let r ← evL cl b; pure (l ++ r)) := rfl
theorem evO_nil : evO cl .nil = pure [] := rfl
theorem evO_cons : evO cl (.cons a b) = (do let x ← opd a (evF cl a); let r ← evO cl b; pure (x :: r)) := rfl
theorem evK_nil : evK cl .nil = pure [] := rfl
theorem evK_cons : evK cl (.consK k v b) = (do
    let x ← evF cl k; let y ← evF cl v; let p ← lift (if x.2.isKey1 then some (x.2, y.2) else none)
    let r ← evK cl b; pure (p :: r)) := rfl
theorem evK_upd : evK cl (.consU a b) = (do let x ← opd a (evF cl a); let x ← res x; let l ← lift (entriesOf x); let r ← evK cl b; pure (l ++ r)) := rfl
theorem evC_nil : evC cl .nil = pure true := rfl
theorem evC_cons : evC cl (.cons a b) = (do let t ← tst a (evF cl a); if t then evC cl b else pure false) := rfl
theorem evI_rng1 : evI cl (.rng1 a) = (do let x ← evF cl a; let l ← lift (rangeD (.int 0) x.2); pure (.inl l)) := rfl
theorem evI_rng2 : evI cl (.rng2 a b) = (do let x ← evF cl a; let y ← evF cl b; let l ← lift (rangeD x.2 y.2); pure (.inl l)) := rfl
theorem evI_enu : evI cl (.enu a) = (do
    let x ← evF cl a; let l ← lift (itemsOf x.2); pure (.inl ((List.range l.length).zipWith (fun (k : Nat) d => D.tup [.int (k : Int), d]) l))) := rfl
theorem evI_zip : evI cl (.zip a b) = (do
    let x ← evF cl a; let y ← evF cl b
    let l ← lift (itemsOf x.2); let m ← lift (itemsOf y.2); pure (.inl (l.zipWith (fun d e => D.tup [d, e]) m))) := rfl
theorem evI_items : evI cl (.items a) = (do let x ← evF cl a; let l ← lift (entriesOf x.2); pure (.inl (l.map fun p => D.tup [p.1, p.2]))) := rfl
theorem evI_vals : evI cl (.vals a) = (do let x ← evF cl a; let l ← lift (entriesOf x.2); pure (.inl (l.map fun p => p.2))) := rfl
theorem evI_itv : evI cl (.itv a) = (do let x ← evF cl a; srcOf x.2) := rfl
theorem evG_nil (m : M (D × D)) : evG cl m .nil = (do let x ← m; pure [x]) := rfl
theorem evG_gen (is : List Nat) (m : M (D × D)) : evG cl m (.gen is t it cs g) = (do
    let src ← evI cl it
    collS src fun x => do
      clr is
      asgT t (false, x)
      let c ← evC cl cs
      if c then evG cl m g else pure []) := rfl
theorem evH_nil (x : Exc) : evH cl .nil x = stk := rfl
theorem evH_cons (x : Exc) : evH cl (.consH n tag b) x = if x.cls == n then pure (false, .tup (.str tag :: x.args)) else evH cl b x := rfl
theorem asg1_var (w : Bool × D) : asg1 cl (.var n) w = asgVar n w := rfl
theorem asg1_tup (w : Bool × D) : asg1 cl (.tup ts) w = asgT (.tup ts) w := rfl
theorem asg1_sub (w : Bool × D) : asg1 cl (.sub d i) w = (do
    let x ← opd d (evF cl d); let i ← evF cl i; let d ← res x
    let d' ← lift (setop d i.2 w.2); store x d') := rfl
theorem evFs_nil : evFs cl .nil = pure [] := rfl
theorem evFs_cons : evFs cl (.cons a b) = (do let x ← evF cl a; let r ← evFs cl b; pure (x :: r)) := rfl
theorem evS_pass : evS cl .pass = pure .nx := rfl
theorem evS_seq : evS cl (.seq a b) = (do
    match ← evS cl a with
    | .nx => evS cl b
    | f => pure f) := rfl
theorem evS_expr : evS cl (.expr a) = (do let _ ← evF cl a; pure .nx) := rfl
theorem evS_asg : evS cl (.asg t a) = (do let v ← evF cl a; asg1 cl t v; pure .nx) := rfl
theorem evS_asgT : evS cl (.asgT ts as) = (do let vs ← evFs cl as; asgs cl ts vs; pure .nx) := rfl
theorem evS_augV : evS cl (.augV n o a) = (do
    let x ← evF cl (.var n); let y ← evF cl a; let z ← lift (augD o x.2 y.2)
    setSlot n (.val z); pure .nx) := rfl
theorem evS_augS : evS cl (.augS d i p a) = (do
    let x ← opd d (evF cl d); let i ← evF cl i; let d ← res x; let u ← lift (subD d i.2)
    let y ← evF cl a; let z ← lift (augD p u y.2); let d ← res x
    let d' ← lift (setop d i.2 z); store x d'; pure .nx) := rfl
theorem evS_retV : evS cl (.retV n) = fun s => match s.fr[n]? with
    | some (.val d) => .ok (.ret false d) s
    | some (.own d) => .ok (.ret true d) s
    | _ => .stk := rfl
theorem evS_ret : evS cl (.ret a) = (do let v ← evF cl a; pure (.ret v.1 v.2)) := rfl
theorem evS_retN : evS cl .retN = pure (.ret false .non) := rfl
theorem evS_ifs : evS cl (.ifs d a b) = (do let t ← tst d (evF cl d); if t then evS cl a else evS cl b) := rfl
theorem evS_for : evS cl (.for_ t it b) = (do
    let src ← evI cl it
    let r ← over src fun x => do
      asgT t (false, x)
      let f ← evS cl b
      turn f
    pure (r.getD .nx)) := rfl
theorem evS_whl : evS cl (.whl d b) = (do
    let r ← iter (do
      let t ← tst d (evF cl d)
      if t then do
        let f ← evS cl b
        turn f
      else pure (some .nx)) LOOPS
    pure (r.getD .nx)) := rfl
theorem evS_brk : evS cl .brk = pure .brk := rfl
theorem evS_cont : evS cl .cont = pure .cont := rfl
theorem evS_raise : evS cl (.raise n as) = (do let ds ← evL cl as; fun s => .exc ⟨n, ds⟩ s) := rfl
end
end Fw
set_option linter.all false
set_option Elab.async false
/-! From the model's syntax to the core language. -/
namespace Fw
open PySem (Str sizeLine)
open PySem
structure Cfg where
  fns : List Str
  cons : List (Str × D)
  excs : List Str := []
  heards : List (Str × Str × List (Nat × Str)) := []
  boxes : List (Nat × Nat) := []
  gds : List Bool := []
  deriving Inhabited
/-- where an expression stands: the slots' names, the scope that runs; b: a block's or lambda's own scope; lam: may lambdas be made here? -/
structure Lc where
  N : List Str
  sc : Scope
  b : Option Scope
  lam : Bool
  gd : Bool
  deriving Inhabited
/-- the slots of a target -/
def tvars : C → Option (List Nat)
  | .var i => some [i]
  | .tup ts => tnames ts
  | _ => none
def blkT (own : List (Str × Nat)) (t : C) : Bool := match tvars t with
  | some js => js.all fun i => (own.map (·.2)).contains i
  | none => false
def C.len : C → Nat
  | .cons _ b => b.len + 1
  | .consS _ b => b.len + 2
  | _ => 0
def fnB (L : Lc) (x : Str) : Bool := match L.b with
  | none => true
  | some s => s.names.lookup x == some .cell
def nameOk (x : Str) : Bool := !(x == ("__debug__" : Str)) && !(x == ("__classdict__" : Str)) && !(x == ("__name__" : Str))
def visB (sc : Scope) (x : Str) : Bool := nameOk x && match sc.names.lookup x with
  | some .local => true
  | some .cell => true
  | some .free => true
  | _ => false
def locB (sc : Scope) (x : Str) : Bool := nameOk x && match sc.names.lookup x with
  | some .local => true
  | some .cell => true
  | _ => false
def gloB (sc : Scope) (x : Str) : Bool := nameOk x && match sc.names.lookup x with
  | some .globalImplicit => true
  | _ => false
def ixIn (x : Str) : List Str → Option Nat
  | [] => none
  | y :: r => if x == y then some 0 else (ixIn x r).map (· + 1)

def opOf : Operator → Option Op
  | .Add => some .add
  | .Sub => some .sub
  | .Mult => some .mul
  | .FloorDiv => some .fdiv
  | .Mod => some .mod
  | .Pow => some .pow
  | _ => none
def cpOf : CmpOp → Cp
  | .Eq => .eq | .NotEq => .ne | .Lt => .lt | .LtE => .le | .Gt => .gt | .GtE => .ge | .Is => .is | .IsNot => .isNot | .In => .isIn | .NotIn => .notIn
def constOf : Const → Option D
  | .none => some .non
  | .bool b => some (.bl b)
  | .int i => some (.int i)
  | .str x => some (.str x)
  | _ => none
def biOf (x : Str) : Option Bi :=
  if x == S "len" then some .len else if x == S "all" then some .all else if x == S "any" then some .any
  else if x == S "sum" then some .sum else if x == S "tuple" then some .tuple else if x == S "list" then some .list
  else if x == S "dict" then some .dict else if x == S "repr" then some .repr else if x == S "str" then some .str
  else if x == S "int" then some .int else if x == S "abs" then some .abs else if x == S "max" then some .max
  else if x == S "min" then some .min else if x == S "sorted" then some .sorted else if x == S "set" then some .set else none
/-- the built-in functions that are served -/
def biB : Bi → Bool
  | .len => true
  | .all => true
  | .any => true
  | .sum => true
  | .tuple => true
  | .list => true
  | .dict => true
  | .repr => true
  | .int => true
  | .abs => true
  | _ => false
def meOf (x : Str) : Option Me :=
  if x == S "get" then some .get else if x == S "index" then some .index else if x == S "join" then some .join
  else if x == S "split" then some .split else none
def muOf (x : Str) : Option Mu :=
  if x == S "append" then some .append else if x == S "extend" then some .extend else if x == S "insert" then some .insert
  else if x == S "pop" then some .pop else if x == S "update" then some .update else none
def tyOf (x : Str) : Option Ty :=
  if x == S "int" then some .int else if x == S "bool" then some .bool else if x == S "str" then some .str
  else if x == S "tuple" then some .tuple else if x == S "list" then some .list else if x == S "dict" then some .dict else none
def ownOf (N : List Str) (scope : Scope) : List (Str × Nat) := scope.names.filterMap fun y => if (y.2 == .local || y.2 == .cell) then (ixIn y.1 N).map fun i => (y.1, i) else none
def noArgs (a : Arguments) : Bool := match a with
  | ⟨[], [], none, [], [], none, []⟩ => true
  | _ => false
def mapO {α β : Type} (f : α → Option β) : List α → Option (List β)
  | [] => some []
  | a :: r => match f a, mapO f r with
    | some b, some l => some (b :: l)
    | _, _ => none
def foldC (l : List C) : C := l.foldr .cons .nil
def hdlC : List (Nat × Str) → C
  | [] => .nil
  | (c, t) :: r => .consH c t (hdlC r)
/-- is it the one argument that makes an iterator? -/
def itB : List Expr → Bool
  | [.Call (.Name x _) _ _ _] => x == S "zip" || x == S "enumerate" || x == S "range"
  | [.Call (.Attribute _ m _) _ _ _] => m == S "items" || m == S "values"
  | _ => false
def tgB (L : Lc) (x : Str) : Bool := locB L.sc x && (fnB L x || L.sc.names.lookup x == some .local)
def cN (L : Lc) : Expr → Option C
  | .Name x _ => if tgB L x then (ixIn x L.N).map .var else none
  | _ => none
def cNs (L : Lc) : List Expr → Option C
  | [] => some .nil
  | e :: r => match cN L e, cNs L r with
    | some a, some b => some (.cons a b)
    | _, _ => none
/-- a target of names: where a comprehension or a loop puts its items -/
def cT (L : Lc) : Expr → Option C
  | .Tuple es _ _ => (cNs L es).map .tup
  | e => cN L e
/-- not a call without arguments (super()) -/
def plainO : Expr → Bool
  | .Call (.Name _ _) [] [] _ => false
  | _ => true
def noStar : List Expr → Bool
  | [] => true
  | .Starred _ _ :: _ => false
  | _ :: r => noStar r
variable (cfg : Cfg)
mutual
def cE : Nat → Lc → Expr → Option C
  | 0, _, _ => none
  | n + 1, L, e => match e with
    | .Name x _ =>
      if visB L.sc x then (ixIn x L.N).map .var
      else if gloB L.sc x then (match cfg.cons.lookup x with
        | some d => some (.lit d)
        | none => (ixIn x cfg.fns).map fun i => .lit (.fn i))
      else none
    | .Constant c _ _ => (constOf c).map .lit
    | .BinOp a o b _ => match opOf o, cE n L a, cE n L b with
      | some o, some a, some b => some (.bin o a b)
      | _, _, _ => none
    | .UnaryOp .USub a _ => (cE n L a).map .neg
    | .UnaryOp .Not a _ => (cE n L a).map .not
    | .BoolOp o (a :: b :: r) _ => match cE n L a, cBo n L o (b :: r) with
      | some a, some b => some (match o with | .And => .and a b | .Or => .or a b)
      | _, _ => none
    | .IfExp t a b _ => match cE n L t, cE n L a, cE n L b with
      | some t, some a, some b => some (.ite t a b)
      | _, _, _ => none
    | .Compare a [o] [b] _ => match cE n L a, cE n L b with
      | some a, some b => some (.cmp (cpOf o) a b)
      | _, _ => none
    | .Compare a [o, p] [b, c] _ => match cE n L a, cE n L b, cE n L c with
      | some a, some b, some c => some (.cmp2 (cpOf o) (cpOf p) a b c)
      | _, _, _ => none
    | .Tuple es _ _ => if noStar es then (cL n L es).map .tup else none
    | .List es p => if !noStar es then none else (cL n L es).map fun a => if cfg.boxes.contains (p.line, p.col) then .box (.lst a) else .lst a
    | .Dict ks vs p => if decide (15 < ks.length) then none else (cK n L ks vs).map fun a => if cfg.boxes.contains (p.line, p.col) then .box (.dct a) else .dct a
    | .Subscript a (.Slice lo hi none _) _ => match cE n L a, cO n L lo, cO n L hi with
      | some a, some lo, some hi => some (.slc a lo hi)
      | _, _, _ => none
    | .Subscript a i _ => match cE n L a, cE n L i with
      | some a, some i => some (.sub a i)
      | _, _ => none
    | .Call (.Name x p) as0 [] _ =>
      if !noStar as0 then none
      else if visB L.sc x then none
      else if gloB L.sc x then
        (match ixIn x cfg.fns with
        | some f => (match cfg.heards.lookup x, as0 with
          | some (tag, hs), [.Lambda pr b sc _] => if L.lam && LamX.lamSB L.sc sc && noArgs pr then (cE n ⟨L.N, sc, some sc, false, false⟩ b).map fun b => .heard tag (hdlC hs) b else none
          | some _, _ => none
          | none, _ => if cfg.gds[f]?.getD true && !L.gd then none else (cL n L as0).map (.call f))
        | none =>
          if x == S "isinstance" then (match as0 with
            | [a, .Name t _] => (match cE n L a, tyOf t with
              | some a, some ty => if gloB L.sc t then some (.isi a [ty]) else none
              | _, _ => none)
            | _ => none)
          else if itB as0 then none
          else match biOf x, cL n L as0 with
            | some b, some as => if biB b && (b != .repr || L.gd) && !as0.isEmpty then some (.bi b as) else none
            | _, _ => none)
      else none
    | .Call (.Attribute o m ap) as [] cp => if !(noStar as && plainO o && ap.endLine == cp.line && decide (as.length < 30)) then none
      else if m == S "append" then (match as, cE n L o, cL n L as with
        | _ :: _, some o, some as => some (.mu .append o as)
        | _, _, _ => none)
      else none
    | .ListComp e [⟨t, it, cs, 0⟩] sc _ =>
      if L2.blkC L.N L.sc sc (ownOf L.N sc) && noStar cs && decide (cs.length ≤ 1) then
        (match cI n L it, cT ⟨L.N, L2.relS sc L.sc, some sc, false, L.gd⟩ t, cL n ⟨L.N, L2.relS sc L.sc, some sc, false, L.gd⟩ cs, cE n ⟨L.N, L2.relS sc L.sc, some sc, false, L.gd⟩ e with
        | some it, some t, some cs, some e => if blkT (ownOf L.N sc) t then some (.comp ((ownOf L.N sc).map (·.2)) e t it cs .nil) else none
        | _, _, _, _ => none)
      else none
    | .DictComp k v [⟨t, it, cs, 0⟩] sc _ =>
      if L2.blkC L.N L.sc sc (ownOf L.N sc) && noStar cs && decide (cs.length ≤ 1) then
        (match cI n L it, cT ⟨L.N, L2.relS sc L.sc, some sc, false, L.gd⟩ t, cL n ⟨L.N, L2.relS sc L.sc, some sc, false, L.gd⟩ cs, cE n ⟨L.N, L2.relS sc L.sc, some sc, false, L.gd⟩ k, cE n ⟨L.N, L2.relS sc L.sc, some sc, false, L.gd⟩ v with
        | some it, some t, some cs, some k, some v => if blkT (ownOf L.N sc) t then some (.dcomp ((ownOf L.N sc).map (·.2)) k v t it cs .nil) else none
        | _, _, _, _, _ => none)
      else none
    | _ => none
def cBo : Nat → Lc → BoolOp → List Expr → Option C
  | 0, _, _, _ => none
  | n + 1, L, o, l => match l with
    | [a] => cE n L a
    | a :: b :: r => match cE n L a, cBo n L o (b :: r) with
      | some a, some b => some (match o with | .And => .and a b | .Or => .or a b)
      | _, _ => none
    | [] => none
def cL : Nat → Lc → List Expr → Option C
  | 0, _, _ => none
  | n + 1, L, l => match l with
    | [] => some .nil
    | a :: r => match cE n L a, cL n L r with
      | some a, some r => some (.cons a r)
      | _, _ => none
def cK : Nat → Lc → List (Option Expr) → List Expr → Option C
  | 0, _, _, _ => none
  | n + 1, L, ks, vs => match ks, vs with
    | [], [] => some .nil
    | some k :: ks, v :: vs => match cE n L k, cE n L v, cK n L ks vs with
      | some k, some v, some r => some (.consK k v r)
      | _, _, _ => none
    | _, _ => none
def cO : Nat → Lc → Option Expr → Option C
  | 0, _, _ => none
  | n + 1, L, e => match e with
    | none => some .nil
    | some e => cE n L e
def cI : Nat → Lc → Expr → Option C
  | 0, _, _ => none
  | n + 1, L, e => match e with
    | .Call (.Name x p) as [] q =>
      if x == S "range" then (if !(gloB L.sc x && (ixIn x cfg.fns).isNone && noStar as) then none else match as with
        | [a] => (cE n L a).map .rng1
        | [a, b] => (match cE n L a, cE n L b with
          | some a, some b => some (.rng2 a b)
          | _, _ => none)
        | _ => none)
      else if x == S "enumerate" || x == S "zip" then none
      else (cE n L (.Call (.Name x p) as [] q)).map .itv
    | .Call (.Attribute o m p) as [] q =>
      if m == S "items" || m == S "values" then none
      else (cE n L (.Call (.Attribute o m p) as [] q)).map .itv
    | e => (cE n L e).map .itv
end
def compB : Expr → Bool
  | .ListComp _ _ _ _ => true
  | .SetComp _ _ _ _ => true
  | .DictComp _ _ _ _ _ => true
  | _ => false
def lcB : Expr → Bool
  | .ListComp _ [⟨_, _, _, k⟩] _ _ => k == 0
  | _ => false
def tupB : Expr → Bool
  | .Tuple _ _ _ => true
  | _ => false
/-- is it a comprehension that goes to a local name on one line? -/
def swB (L : Lc) : Expr → Expr → Bool
  | .Name y py, .ListComp _ _ sc p => (L.sc.names.lookup y == some .local) && (py.line == p.line) && !(sc.names.any fun (n, k) => n == y && (k == .local || k == .cell))
  | .Name y py, .DictComp _ _ _ sc p => (L.sc.names.lookup y == some .local) && (py.line == p.line) && !(sc.names.any fun (n, k) => n == y && (k == .local || k == .cell))
  | _, _ => false
/-- a target of an assignment -/
def cTg (n : Nat) (L : Lc) : Expr → Option C
  | .Subscript o i _ => match cE cfg n L o, cE cfg n L i with
    | some o, some i => some (.sub o i)
    | _, _ => none
  | e => cT L e
mutual
def cS : Nat → Lc → Stmt → Option C
  | 0, _, _ => none
  | n + 1, L, s => match s with
    | .Pass _ => some .pass
    | .Break _ => some .brk
    | .Continue _ => some .cont
    | .Expr e _ => if compB e then none else (cE cfg n L e).map .expr
    | .Return none _ => some .retN
    | .Return (some (.Name x p)) _ => if visB L.sc x then (ixIn x L.N).map .retV else (cE cfg n L (.Name x p)).map .ret
    | .Return (some e) _ => (cE cfg n L e).map .ret
    | .Assign [t] e _ => if tupB t && tupB e then none else match cTg cfg n L t, cE cfg n L e with
      | some t', some e' => if swB L t e && !lcB e then none else some (.asg t' e')
      | _, _ => none
    | .AugAssign (.Subscript a i _) o e _ => match cE cfg n L a, cE cfg n L i, opOf o, cE cfg n L e with
      | some a, some i, some o, some e => some (.augS a i o e)
      | _, _, _, _ => none
    | .If t b c _ => match cE cfg n L t, cB n L b, cB n L c with
      | some t, some b, some c => some (.ifs t b c)
      | _, _, _ => none
    | .For t it b [] _ => match cT L t, cI cfg n L it, cB n L b with
      | some t, some it, some b => some (.for_ t it b)
      | _, _, _ => none
    | .Raise (some (.Call (.Name x _) [] [] _)) none _ => if gloB L.sc x then (ixIn x cfg.excs).map fun c => .raise c .nil else none
    | _ => none
def cB : Nat → Lc → List Stmt → Option C
  | 0, _, _ => none
  | n + 1, L, l => match l with
    | [] => some .pass
    | [s] => cS n L s
    | s :: r => match cS n L s, cB n L r with
      | some s, some r => some (.seq s r)
      | _, _ => none
end
end Fw
set_option linter.all false
set_option Elab.async false
set_option maxRecDepth 100000
/-! How the core states stand in the model: values, owned containers, the core heap. -/
namespace Fw
open PySem PySem.Spec L2
open PyProof.Rows hiding St

/-- the program's world: the written part, the module's names, where defs and error classes stand -/
structure G0 where
  P : Program
  w : World
  K : PySem.W.Frag
  mg : Str → Option Value
  base : Heap
  fa : Nat → Addr
  ca : Nat → Addr
  T : List (Addr × Str)
  nx : Nat

def keyD : Key → D
  | .inl i => .int i
  | .inr x => .str x

mutual
/-- the value v is the datum d; W: addresses that may be written, no datum leans on them -/
inductive Rep (G : G0) (W : Addr → Prop) (as : List Addr) (H : Hp) : V → D → Prop
  | non : Rep G W as H .non .non
  | bl (b : Bool) : Rep G W as H (.bl b) (.bl b)
  | int (i : Int) : Rep G W as H (.int i) (.int i)
  | str (x : Str) : Rep G W as H (.str x) (.str x)
  | tup {a : Addr} {xs : List V} {l : List D} : H a = some (.tup xs) → ¬ W a → RepL G W as H xs l → Rep G W as H (.ref a) (.tup l)
  | lst {a : Addr} {xs : List V} {l : List D} : H a = some (.lst xs) → ¬ W a → RepL G W as H xs l → Rep G W as H (.ref a) (.lst l)
  | scr {a : Addr} {xs : List V} {l : List D} : Rd H a (.lst xs) → ¬ W a → RepL G W as H xs l → Rep G W as H (.ref a) (.scr l)
  | scrK {a : Addr} {xs : List V} {l : List D} : (∀ H' : Hp, SqL G.K H' a xs) → RepL G W as H xs l → Rep G W as H (.ref a) (.scr l)
  | dctK {a : Addr} {kvs : List (Key × V)} {l : List (D × D)} : H a = some (.dK kvs) → ¬ W a → RepK G W as H kvs l → Rep G W as H (.ref a) (.dct l)
  | dctT {a : Addr} {kvs : List (List Key × V)} {l : List (D × D)} : H a = some (.dT kvs) → ¬ W a → RepT G W as H kvs l → Rep G W as H (.ref a) (.dct l)
  | kt {a : Addr} {xs : List V} {l : List D} : (∀ H' : Hp, SqT G.K H' a xs) → RepL G W as H xs l → Rep G W as H (.ref a) (.kt l)
  | fn (f : Nat) : Rep G W as H (.ref (G.fa f)) (.fn f)
  | ref {n : Nat} {a : Addr} : as[n]? = some a → Rep G W as H (.ref a) (.ref n)
inductive RepL (G : G0) (W : Addr → Prop) (as : List Addr) (H : Hp) : List V → List D → Prop
  | nil : RepL G W as H [] []
  | cons {v : V} {d : D} {xs : List V} {l : List D} : Rep G W as H v d → RepL G W as H xs l → RepL G W as H (v :: xs) (d :: l)
inductive RepK (G : G0) (W : Addr → Prop) (as : List Addr) (H : Hp) : List (Key × V) → List (D × D) → Prop
  | nil : RepK G W as H [] []
  | cons {k : Key} {v : V} {d : D} {xs : List (Key × V)} {l : List (D × D)} : Rep G W as H v d → RepK G W as H xs l → RepK G W as H ((k, v) :: xs) ((keyD k, d) :: l)
inductive RepT (G : G0) (W : Addr → Prop) (as : List Addr) (H : Hp) : List (List Key × V) → List (D × D) → Prop
  | nil : RepT G W as H [] []
  | cons {k : List Key} {v : V} {d : D} {xs : List (List Key × V)} {l : List (D × D)} : Rep G W as H v d → RepT G W as H xs l → RepT G W as H ((k, v) :: xs) ((.tup (k.map keyD), d) :: l)
end

/-- not a table of code objects: these grow as lambdas are made -/
def NT (o : HO) : Prop := ∀ ps, o ≠ .tbl ps
theorem nt_tup (xs : List V) : NT (.tup xs) := fun _ z => by cases z
theorem nt_lst (xs : List V) : NT (.lst xs) := fun _ z => by cases z
theorem nt_dK (xs : List (Key × V)) : NT (.dK xs) := fun _ z => by cases z
theorem nt_dT (xs : List (List Key × V)) : NT (.dT xs) := fun _ z => by cases z
theorem nt_frz (o : Obj) (u : HO) : NT (.frz o u) := fun _ z => by cases z
/-- a thing that is no table stands there -/
def Th (H : Hp) (a : Addr) : Prop := ∃ o, H a = some o ∧ NT o
theorem Th.ne {H : Hp} {a : Addr} (h : Th H a) : H a ≠ none := fun z => by
  obtain ⟨o, e, _⟩ := h
  rw [e] at z; cases z
theorem th_none {H : Hp} {a : Addr} (h : H a = none) : ¬ Th H a := fun z => z.ne h
theorem Th.keep {H H' : Hp} {a : Addr} (h : Th H a) (k : ∀ o, H a = some o → NT o → H' a = some o) : Th H' a := let ⟨o, e, nt⟩ := h; ⟨o, k o e nt, nt⟩
/-- what stays from one heap to a later one -/
structure Keeps (W : Addr → Prop) (as : List Addr) (H : Hp) (W' : Addr → Prop) (as' : List Addr) (H' : Hp) : Prop where
  pre : as <+: as'
  keep : ∀ a o, H a = some o → NT o → ¬ W a → H' a = some o
  less : ∀ a, W' a → W a ∨ ¬ Th H a

section
variable {G : G0} {W W' : Addr → Prop} {as as' : List Addr} {H H' : Hp}
theorem Keeps.not (k : Keeps W as H W' as' H') {a : Addr} {o : HO} (e : H a = some o) (nt : NT o) (n : ¬ W a) : ¬ W' a := fun z => by
  rcases k.less a z with z | z
  · exact n z
  · exact z ⟨o, e, nt⟩
theorem Keeps.rd (k : Keeps W as H W' as' H') {a : Addr} {u : HO} (e : Rd H a u) (nt : NT u) (n : ¬ W a) : Rd H' a u ∧ ¬ W' a := by
  rcases e with e | ⟨o, e⟩
  · exact ⟨.inl (k.keep a _ e nt n), k.not e nt n⟩
  · exact ⟨.inr ⟨o, k.keep a _ e (nt_frz o u) n⟩, k.not e (nt_frz o u) n⟩
theorem Keeps.at {n : Nat} {a : Addr} (k : Keeps W as H W' as' H') (e : as[n]? = some a) : as'[n]? = some a := by
  obtain ⟨t, rfl⟩ := k.pre
  rw [List.getElem?_append_left (List.getElem?_eq_some_iff.mp e).1]
  exact e
mutual
theorem Rep.mono (k : Keeps W as H W' as' H') : ∀ {v : V} {d : D}, Rep G W as H v d → Rep G W' as' H' v d
  | _, _, .non => .non
  | _, _, .bl b => .bl b
  | _, _, .int i => .int i
  | _, _, .str x => .str x
  | _, _, .tup e n r => .tup (k.keep _ _ e (nt_tup _) n) (k.not e (nt_tup _) n) (RepL.mono k r)
  | _, _, .lst e n r => .lst (k.keep _ _ e (nt_lst _) n) (k.not e (nt_lst _) n) (RepL.mono k r)
  | _, _, .scr e n r => .scr (k.rd e (nt_lst _) n).1 (k.rd e (nt_lst _) n).2 (RepL.mono k r)
  | _, _, .scrK e r => .scrK e (RepL.mono k r)
  | _, _, .dctK e n r => .dctK (k.keep _ _ e (nt_dK _) n) (k.not e (nt_dK _) n) (RepK.mono k r)
  | _, _, .dctT e n r => .dctT (k.keep _ _ e (nt_dT _) n) (k.not e (nt_dT _) n) (RepT.mono k r)
  | _, _, .kt e r => .kt e (RepL.mono k r)
  | _, _, .fn f => .fn f
  | _, _, .ref e => .ref (k.at e)
theorem RepL.mono (k : Keeps W as H W' as' H') : ∀ {xs : List V} {l : List D}, RepL G W as H xs l → RepL G W' as' H' xs l
  | _, _, .nil => .nil
  | _, _, .cons a b => .cons (Rep.mono k a) (RepL.mono k b)
theorem RepK.mono (k : Keeps W as H W' as' H') : ∀ {xs : List (Key × V)} {l : List (D × D)}, RepK G W as H xs l → RepK G W' as' H' xs l
  | _, _, .nil => .nil
  | _, _, .cons a b => .cons (Rep.mono k a) (RepK.mono k b)
theorem RepT.mono (k : Keeps W as H W' as' H') : ∀ {xs : List (List Key × V)} {l : List (D × D)}, RepT G W as H xs l → RepT G W' as' H' xs l
  | _, _, .nil => .nil
  | _, _, .cons a b => .cons (Rep.mono k a) (RepT.mono k b)
end
theorem RepL.length {xs : List V} {l : List D} (r : RepL G W as H xs l) : xs.length = l.length := by
  induction l generalizing xs with
  | nil => cases r; rfl
  | cons d l ih => cases r with | cons a b => simp [ih b]
theorem RepK.length {xs : List (Key × V)} {l : List (D × D)} (r : RepK G W as H xs l) : xs.length = l.length := by
  induction l generalizing xs with
  | nil => cases r; rfl
  | cons d l ih => cases r with | cons a b => simp [ih b]
theorem RepT.length {xs : List (List Key × V)} {l : List (D × D)} (r : RepT G W as H xs l) : xs.length = l.length := by
  induction l generalizing xs with
  | nil => cases r; rfl
  | cons d l ih => cases r with | cons a b => simp [ih b]
theorem RepL.append {xs ys : List V} {l m : List D} (r : RepL G W as H xs l) (q : RepL G W as H ys m) : RepL G W as H (xs ++ ys) (l ++ m) := by
  induction l generalizing xs with
  | nil => cases r; exact q
  | cons d l ih => cases r with | cons a b => exact .cons a (ih b)
theorem RepL.get {xs : List V} {l : List D} {i : Nat} {d : D} (r : RepL G W as H xs l) (e : l[i]? = some d) : ∃ v, xs[i]? = some v ∧ Rep G W as H v d := by
  induction l generalizing xs i with
  | nil => simp at e
  | cons c l ih =>
    cases r with
    | cons a b =>
      cases i with
      | zero => simp at e; subst e; exact ⟨_, rfl, a⟩
      | succ i => simpa using ih b (by simpa using e)
theorem RepL.getV {xs : List V} {l : List D} {i : Nat} {v : V} (r : RepL G W as H xs l) (e : xs[i]? = some v) : ∃ d, l[i]? = some d ∧ Rep G W as H v d := by
  have h : i < l.length := by rw [← r.length]; exact (List.getElem?_eq_some_iff.mp e).1
  obtain ⟨u, hu, q⟩ := r.get (List.getElem?_eq_getElem h)
  rw [e] at hu; cases hu
  exact ⟨_, List.getElem?_eq_getElem h, q⟩
theorem RepL.take {xs : List V} {l : List D} (n : Nat) (r : RepL G W as H xs l) : RepL G W as H (xs.take n) (l.take n) := by
  induction l generalizing xs n with
  | nil => cases r; simp; exact .nil
  | cons c l ih =>
    cases r with
    | cons a b =>
      cases n with
      | zero => exact .nil
      | succ n => exact .cons a (ih n b)
theorem RepL.drop {xs : List V} {l : List D} (n : Nat) (r : RepL G W as H xs l) : RepL G W as H (xs.drop n) (l.drop n) := by
  induction l generalizing xs n with
  | nil => cases r; simp; exact .nil
  | cons c l ih =>
    cases r with
    | cons a b =>
      cases n with
      | zero => exact .cons a b
      | succ n => exact ih n b
theorem RepL.set {xs : List V} {l : List D} {v : V} {d : D} (n : Nat) (r : RepL G W as H xs l) (q : Rep G W as H v d) : RepL G W as H (xs.set n v) (l.set n d) := by
  induction l generalizing xs n with
  | nil => cases r; exact .nil
  | cons c l ih =>
    cases r with
    | cons a b =>
      cases n with
      | zero => exact .cons q b
      | succ n => exact .cons a (ih n b)
theorem RepL.of_forall {xs : List V} {l : List D} (h : xs.length = l.length) (r : ∀ (i : Nat) v d, xs[i]? = some v → l[i]? = some d → Rep G W as H v d) : RepL G W as H xs l := by
  induction l generalizing xs with
  | nil => cases xs with | nil => exact .nil | cons a b => simp at h
  | cons c l ih =>
    cases xs with
    | nil => simp at h
    | cons a b => exact .cons (r 0 a c rfl rfl) (ih (by simpa using h) fun i v d e1 e2 => r (i + 1) v d (by simpa using e1) (by simpa using e2))
end

/-- the container at a, which may be written -/
inductive Cont (G : G0) (W : Addr → Prop) (as : List Addr) (H : Hp) (a : Addr) : D → Prop
  | lst {xs : List V} {l : List D} : H a = some (.lst xs) → RepL G W as H xs l → Cont G W as H a (.lst l)
  | dctK {kvs : List (Key × V)} {l : List (D × D)} : H a = some (.dK kvs) → RepK G W as H kvs l → Cont G W as H a (.dct l)
  | dctT {kvs : List (List Key × V)} {l : List (D × D)} : H a = some (.dT kvs) → RepT G W as H kvs l → Cont G W as H a (.dct l)
/-- an object of the core heap -/
inductive ObjR (G : G0) (W : Addr → Prop) (as : List Addr) (H : Hp) (a : Addr) : HObj → Prop
  | lst {l : List D} : Cont G W as H a (.lst l) → ObjR G W as H a (.lst l)
  | dct {l : List (D × D)} : Cont G W as H a (.dct l) → ObjR G W as H a (.dct l)
def Own (fr : List Slot) (σ : St) (a : Addr) : Prop := ∃ (i : Nat) (d : D), fr[i]? = some (.own d) ∧ σ[i]? = some (some (V.ref a))
def Wof (B : Addr → Prop) (as : List Addr) (fr : List Slot) (σ : St) : Addr → Prop := fun a => B a ∨ a ∈ as ∨ Own fr σ a

/-- the core state s stands in the slots σ and the heap H; B: written by others, not touched here -/
structure Rel (G : G0) (B : Addr → Prop) (as : List Addr) (σ : St) (H : Hp) (s : Sta) : Prop where
  len : s.fr.length = σ.length
  val : ∀ (i : Nat) (d : D), s.fr[i]? = some (.val d) → ∃ v, σ[i]? = some (some v) ∧ Rep G (Wof B as s.fr σ) as H v d
  own : ∀ (i : Nat) (d : D), s.fr[i]? = some (.own d) → ∃ a, σ[i]? = some (some (V.ref a)) ∧ Cont G (Wof B as s.fr σ) as H a d
  hlen : as.length = s.hp.length
  obj : ∀ (n : Nat) (a : Addr) (o : HObj), as[n]? = some a → s.hp[n]? = some o → ObjR G (Wof B as s.fr σ) as H a o
  nd : as.Nodup
  ao : ∀ a, a ∈ as → ¬ Own s.fr σ a
  oo : ∀ (i j : Nat) (d d' : D) (a : Addr), s.fr[i]? = some (.own d) → s.fr[j]? = some (.own d') → σ[i]? = some (some (V.ref a)) → σ[j]? = some (some (V.ref a)) → i = j
  ba : ∀ a, B a → a ∉ as ∧ ¬ Own s.fr σ a
  bd : ∀ a, B a → Th H a
  tabs : LamX.Tabs G.T H

/-- from one state to a later one: O, O' the addresses that the frame owns -/
structure Ext (as : List Addr) (O : Addr → Prop) (H : Hp) (as' : List Addr) (O' : Addr → Prop) (H' : Hp) : Prop where
  pre : as <+: as'
  new : ∀ a, a ∈ as' → a ∈ as ∨ ¬ Th H a
  own : ∀ a, O' a → O a ∨ ¬ Th H a
  keep : ∀ a o, H a = some o → NT o → a ∉ as → ¬ O a → H' a = some o
  dom : ∀ a, Th H a → Th H' a

section
variable {G : G0} {B B' W W' : Addr → Prop} {as as' as1 as2 : List Addr} {H H' H1 H2 : Hp} {σ : St} {s s' : Sta} {O O' O1 O2 : Addr → Prop}
theorem Ext.refl : Ext as O H as O H := ⟨List.prefix_refl _, fun _ h => .inl h, fun _ h => .inl h, fun _ _ e _ _ _ => e, fun _ h => h⟩
theorem Ext.trans (e1 : Ext as O H as1 O1 H1) (e2 : Ext as1 O1 H1 as2 O2 H2) : Ext as O H as2 O2 H2 where
  pre := e1.pre.trans e2.pre
  new := fun a h => by
    rcases e2.new a h with h | h
    · exact e1.new a h
    · exact .inr fun z => h (e1.dom a z)
  own := fun a h => by
    rcases e2.own a h with h | h
    · exact e1.own a h
    · exact .inr fun z => h (e1.dom a z)
  keep := fun a o e nt n1 n2 => e2.keep a o (e1.keep a o e nt n1 n2) nt
    (fun z => by rcases e1.new a z with z | z
                 · exact n1 z
                 · exact z ⟨o, e, nt⟩)
    (fun z => by rcases e1.own a z with z | z
                 · exact n2 z
                 · exact z ⟨o, e, nt⟩)
  dom := fun a h => e2.dom a (e1.dom a h)
theorem Ext.keeps (e : Ext as O H as' O' H') : Keeps (fun a => B a ∨ a ∈ as ∨ O a) as H (fun a => B a ∨ a ∈ as' ∨ O' a) as' H' where
  pre := e.pre
  keep := fun a o h nt n => e.keep a o h nt (fun z => n (.inr (.inl z))) (fun z => n (.inr (.inr z)))
  less := fun a h => by
    rcases h with h | h | h
    · exact .inl (.inl h)
    · rcases e.new a h with h | h
      · exact .inl (.inr (.inl h))
      · exact .inr h
    · rcases e.own a h with h | h
      · exact .inl (.inr (.inr h))
      · exact .inr h
theorem Keeps.sub (h : ∀ a, W' a → W a) : Keeps W as H W' as H := ⟨List.prefix_refl _, fun _ _ e _ _ => e, fun a z => .inl (h a z)⟩
theorem Cont.mono {a : Addr} {d : D} (k : Keeps W as H W' as' H') (c : Cont G W as H a d) (e : ∀ o, H a = some o → NT o → H' a = some o) : Cont G W' as' H' a d := by
  cases c with
  | lst h r => exact .lst (e _ h (nt_lst _)) (r.mono k)
  | dctK h r => exact .dctK (e _ h (nt_dK _)) (r.mono k)
  | dctT h r => exact .dctT (e _ h (nt_dT _)) (r.mono k)
theorem Cont.there {a : Addr} {d : D} (c : Cont G W as H a d) : Th H a := by
  cases c with
  | lst h _ => exact ⟨_, h, nt_lst _⟩
  | dctK h _ => exact ⟨_, h, nt_dK _⟩
  | dctT h _ => exact ⟨_, h, nt_dT _⟩
theorem Cont.rep {a : Addr} {d : D} (c : Cont G W as H a d) (n : ¬ W a) : Rep G W as H (.ref a) d := by
  cases c with
  | lst h r => exact .lst h n r
  | dctK h r => exact .dctK h n r
  | dctT h r => exact .dctT h n r
theorem ObjR.there {a : Addr} {o : HObj} (c : ObjR G W as H a o) : Th H a := by
  cases c with
  | lst h => exact h.there
  | dct h => exact h.there
theorem Rel.th (r : Rel G B as σ H s) : ∀ a, Wof B as s.fr σ a → Th H a := fun a h => by
  rcases h with h | h | ⟨i, d, e1, e2⟩
  · exact r.bd a h
  · obtain ⟨n, hn, e⟩ := List.mem_iff_getElem.mp h
    have hl : n < s.hp.length := by rw [← r.hlen]; exact hn
    exact (r.obj n a _ (by rw [← e]; simp) (List.getElem?_eq_getElem hl)).there
  · obtain ⟨b, e3, c⟩ := r.own i d e1
    rw [e2] at e3; cases e3
    exact c.there
theorem Rel.dom (r : Rel G B as σ H s) : ∀ a, Wof B as s.fr σ a → H a ≠ none := fun a h => (r.th a h).ne
/-- fewer addresses are kept from us -/
theorem Rel.weaken (r : Rel G B as σ H s) (h : ∀ a, B' a → B a) : Rel G B' as σ H s := by
  have k : Keeps (Wof B as s.fr σ) as H (Wof B' as s.fr σ) as H := Keeps.sub fun a z => z.elim (fun z => .inl (h a z)) .inr
  refine ⟨r.len, fun i d e => ?_, fun i d e => ?_, r.hlen, fun n a o e1 e2 => ?_, r.nd, r.ao, r.oo, fun a z => r.ba a (h a z), fun a z => r.bd a (h a z), r.tabs⟩
  · obtain ⟨v, e1, q⟩ := r.val i d e; exact ⟨v, e1, q.mono k⟩
  · obtain ⟨a, e1, q⟩ := r.own i d e; exact ⟨a, e1, q.mono k fun _ e _ => e⟩
  · have q := r.obj n a o e1 e2
    cases q with
    | lst c => exact .lst (c.mono k fun _ e _ => e)
    | dct c => exact .dct (c.mono k fun _ e _ => e)
theorem ObjR.mono {a : Addr} {o : HObj} (k : Keeps W as H W' as' H') (c : ObjR G W as H a o) (e : ∀ o, H a = some o → NT o → H' a = some o) : ObjR G W' as' H' a o := by
  cases c with
  | lst c => exact .lst (c.mono k e)
  | dct c => exact .dct (c.mono k e)
/-- the heap has grown or changed at addresses that the state does not lean on -/
theorem Rel.heap (r : Rel G B as σ H s) (keep : ∀ a o, H a = some o → H' a = some o) : Rel G B as σ H' s := by
  have k : Keeps (Wof B as s.fr σ) as H (Wof B as s.fr σ) as H' := ⟨List.prefix_refl _, fun a o e _ _ => keep a o e, fun a z => .inl z⟩
  refine ⟨r.len, fun i d e => ?_, fun i d e => ?_, r.hlen, fun n a o e1 e2 => ?_, r.nd, r.ao, r.oo, r.ba, fun a z => (r.bd a z).keep fun o e _ => keep a o e, r.tabs.ext keep⟩
  · obtain ⟨v, e1, q⟩ := r.val i d e; exact ⟨v, e1, q.mono k⟩
  · obtain ⟨a, e1, q⟩ := r.own i d e; exact ⟨a, e1, q.mono k fun o e _ => keep a o e⟩
  · exact (r.obj n a o e1 e2).mono k fun o e _ => keep a o e
/-- a name's container is no longer its own: it is a datum from now on -/
theorem Rel.freeze (r : Rel G B as σ H s) {i : Nat} {d : D} (e : s.fr[i]? = some (.own d)) :
    ∃ a, σ[i]? = some (some (V.ref a)) ∧ Rep G (Wof B as (s.fr.set i (.val d)) σ) as H (.ref a) d ∧ Rel G B as σ H { s with fr := s.fr.set i (.val d) } ∧ Ext as (Own s.fr σ) H as (Own (s.fr.set i (.val d)) σ) H := by
  obtain ⟨a, e1, c⟩ := r.own i d e
  have hi : i < s.fr.length := (List.getElem?_eq_some_iff.mp e).1
  have at_ : ∀ j, j ≠ i → (s.fr.set i (Slot.val d))[j]? = s.fr[j]? := fun j h => List.getElem?_set_ne (Ne.symm h)
  have ii : (s.fr.set i (Slot.val d))[i]? = some (.val d) := List.getElem?_set_self hi
  have less : ∀ b, Own (s.fr.set i (.val d)) σ b → Own s.fr σ b ∧ b ≠ a := fun b ⟨j, d1, h1, h2⟩ => by
    by_cases hj : j = i
    · subst hj; rw [ii] at h1; cases h1
    · rw [at_ j hj] at h1
      refine ⟨⟨j, d1, h1, h2⟩, fun z => hj ?_⟩
      rw [z] at h2
      exact r.oo j i d1 d a h1 e h2 e1
  have k : Keeps (Wof B as s.fr σ) as H (Wof B as (s.fr.set i (.val d)) σ) as H := Keeps.sub fun b z => by
    rcases z with z | z | z
    · exact .inl z
    · exact .inr (.inl z)
    · exact .inr (.inr (less b z).1)
  have na : ¬ Wof B as (s.fr.set i (.val d)) σ a := fun z => by
    have oa : Own s.fr σ a := ⟨i, d, e, e1⟩
    rcases z with z | z | z
    · exact (r.ba a z).2 oa
    · exact r.ao a z oa
    · exact (less a z).2 rfl
  have ra : Rep G (Wof B as (s.fr.set i (.val d)) σ) as H (.ref a) d := (c.mono k fun _ e _ => e).rep na
  refine ⟨a, e1, ra, ⟨by simpa using r.len, fun j c h => ?_, fun j c h => ?_, r.hlen, fun n b o h1 h2 => (r.obj n b o h1 h2).mono k fun _ e _ => e, r.nd, fun b h z => r.ao b h (less b z).1, fun j j' c c' b h1 h2 => ?_, fun b h => ⟨(r.ba b h).1, fun z => (r.ba b h).2 (less b z).1⟩, r.bd, r.tabs⟩,
    ⟨List.prefix_refl _, fun _ h => .inl h, fun b h => .inl (less b h).1, fun _ _ h _ _ _ => h, fun _ h => h⟩⟩
  · by_cases hj : j = i
    · subst hj
      have h' : (s.fr.set j (Slot.val d))[j]? = some (.val c) := h
      rw [ii] at h'; cases h'
      exact ⟨_, e1, ra⟩
    · have h' : (s.fr.set i (Slot.val d))[j]? = some (.val c) := h
      rw [at_ j hj] at h'
      obtain ⟨v, e2, q⟩ := r.val j c h'
      exact ⟨v, e2, q.mono k⟩
  · have h' : (s.fr.set i (Slot.val d))[j]? = some (.own c) := h
    by_cases hj : j = i
    · subst hj; rw [ii] at h'; cases h'
    · rw [at_ j hj] at h'
      obtain ⟨b, e2, q⟩ := r.own j c h'
      exact ⟨b, e2, q.mono k fun _ e _ => e⟩
  · have h1' : (s.fr.set i (Slot.val d))[j]? = some (.own c) := h1
    have h2' : (s.fr.set i (Slot.val d))[j']? = some (.own c') := h2
    by_cases hj : j = i
    · subst hj; rw [ii] at h1'; cases h1'
    · by_cases hj' : j' = i
      · subst hj'; rw [ii] at h2'; cases h2'
      · rw [at_ j hj] at h1'; rw [at_ j' hj'] at h2'
        exact r.oo j j' c c' b h1' h2'
end
end Fw
set_option linter.all false
set_option Elab.async false
set_option maxRecDepth 100000
/-! The readings of core runs; what an operation must keep; from the rules of the hand layer to the core. -/
namespace Fw
open PySem PySem.Spec L2
open PyProof.Rows hiding St

/-- the value of an error: its class, its own dict -/
inductive ExcR (G : G0) (W : Addr → Prop) (as : List Addr) (H : Hp) : Exc → Value → Option Addr → Prop
  | plain (c : Nat) (h : c < G.nx) : ExcR G W as H ⟨c, []⟩ (.ref (G.ca c)) none

theorem ExcR.mono {G : G0} {W W' : Addr → Prop} {as as' : List Addr} {H H' : Hp} {e : Exc} {cls : Value} {dd : Option Addr} (z : ExcR G W as H e cls dd) (k : Keeps W as H W' as' H') : ExcR G W' as' H' e cls dd := by
  cases z with
  | plain c h => exact .plain c h
/-- an answer: never stuck -/
def Ans {α : Type} (r : R α) (ok : α → Sta → Prop) (ex : Exc → Sta → Prop) : Prop := match r with
  | .stk => False
  | .ok a s => ok a s
  | .exc e s => ex e s
theorem Ans.bind {α β : Type} {m : M α} {f : α → M β} {s : Sta} {ok : β → Sta → Prop} {ex : Exc → Sta → Prop} (h : Ans ((m >>= f) s) ok ex) : Ans (m s) (fun a s' => Ans (f a s') ok ex) ex := by
  have h' : Ans (match m s with | .stk => .stk | .ok a s => f a s | .exc e s => .exc e s : R β) ok ex := h
  cases e : m s with
  | stk => rw [e] at h'; exact h'
  | ok a s' => rw [e] at h'; exact h'
  | exc x s' => rw [e] at h'; exact h'
theorem Ans.mk {α β : Type} {m : M α} {f : α → M β} {s : Sta} {ok : β → Sta → Prop} {ex : Exc → Sta → Prop} (h : Ans (m s) (fun a s' => Ans (f a s') ok ex) ex) : Ans ((m >>= f) s) ok ex := by
  have e : (m >>= f) s = (match m s with | .stk => .stk | .ok a s => f a s | .exc e s => .exc e s : R β) := rfl
  rw [e]
  cases e : m s with
  | stk => rw [e] at h; exact h
  | ok a s' => rw [e] at h; exact h
  | exc x s' => rw [e] at h; exact h
theorem Ans.pure {α : Type} {a : α} {s : Sta} {ok : α → Sta → Prop} {ex : Exc → Sta → Prop} (h : Ans ((Pure.pure a : M α) s) ok ex) : ok a s := h
theorem Ans.lift {α : Type} {o : Option α} {s : Sta} {ok : α → Sta → Prop} {ex : Exc → Sta → Prop} (h : Ans (lift o s) ok ex) : ∃ a, o = some a ∧ ok a s := by
  cases o with
  | none => exact False.elim h
  | some a => exact ⟨a, rfl, h⟩
theorem Ans.imp {α : Type} {r : R α} {ok ok' : α → Sta → Prop} {ex ex' : Exc → Sta → Prop} (h : Ans r ok ex) (h1 : ∀ a s, ok a s → ok' a s) (h2 : ∀ e s, ex e s → ex' e s) : Ans r ok' ex' := by
  cases r with
  | stk => exact h
  | ok a s => exact h1 a s h
  | exc e s => exact h2 e s h

/-- what is wanted of an error: from the start (as, O, H) on -/
def XW (G : G0) (B : Addr → Prop) (Wd : WX) (σ : St) (as : List Addr) (O : Addr → Prop) (H : Hp) (e : Exc) (s' : Sta) : Prop :=
  ∀ (cls : Value) (dd : Option Addr) (as' : List Addr) (H' : Hp), Rel G B as' σ H' s' → Ext as O H as' (Own s'.fr σ) H' → ExcR G (Wof B as' s'.fr σ) as' H' e cls dd → Wd cls dd σ H'
theorem XW.later {G : G0} {B : Addr → Prop} {Wd : WX} {σ : St} {as as1 : List Addr} {O O1 : Addr → Prop} {H H1 : Hp} {e : Exc} {s' : Sta} (h : XW G B Wd σ as O H e s') (x : Ext as O H as1 O1 H1) : XW G B Wd σ as1 O1 H1 e s' :=
  fun cls dd as' H' r y z => h cls dd as' H' r (x.trans y) z

/-- the reading of a run that yields an a that stands as R says -/
def TM {α : Type} (G : G0) (Wd : WX) (R : (Addr → Prop) → List Addr → Sta → St → Hp → V → α → Prop) (m : M α) : TE := fun σ H Q => ∃ (B : Addr → Prop) (as : List Addr) (s : Sta), Rel G B as σ H s ∧
  Ans (m s) (fun r s' => ∀ (v : V) (as' : List Addr) (H' : Hp), Rel G B as' σ H' s' → Ext as (Own s.fr σ) H as' (Own s'.fr σ) H' → R B as' s' σ H' v r → Q v H') (XW G B Wd σ as (Own s.fr σ) H)
/-- .. of a list of arguments -/
def TL {α : Type} (G : G0) (Wd : WX) (R : (Addr → Prop) → List Addr → Sta → St → Hp → List V → α → Prop) (m : M α) : TA := fun σ H Q => ∃ (B : Addr → Prop) (as : List Addr) (s : Sta), Rel G B as σ H s ∧
  Ans (m s) (fun r s' => ∀ (vs : List V) (as' : List Addr) (H' : Hp), Rel G B as' σ H' s' → Ext as (Own s.fr σ) H as' (Own s'.fr σ) H' → R B as' s' σ H' vs r → Q vs H') (XW G B Wd σ as (Own s.fr σ) H)
/-- .. of a test -/
def TB (G : G0) (Wd : WX) (m : M Bool) : TT := fun σ H Q => ∃ (B : Addr → Prop) (as : List Addr) (s : Sta), Rel G B as σ H s ∧
  Ans (m s) (fun r s' => ∀ (as' : List Addr) (H' : Hp), Rel G B as' σ H' s' → Ext as (Own s.fr σ) H as' (Own s'.fr σ) H' → Q r H') (XW G B Wd σ as (Own s.fr σ) H)

/-- a datum -/
def RZ (G : G0) : (Addr → Prop) → List Addr → Sta → St → Hp → V → Bool × D → Prop := fun B as s σ H v r => Rep G (Wof B as s.fr σ) as H v r.2
/-- data -/
def RZs (G : G0) : (Addr → Prop) → List Addr → Sta → St → Hp → List V → List D → Prop := fun B as s σ H vs r => RepL G (Wof B as s.fr σ) as H vs r
/-- an operand -/
def RO (G : G0) : (Addr → Prop) → List Addr → Sta → St → Hp → V → OV → Prop := fun B as s σ H v o => match o with
  | .d x => Rep G (Wof B as s.fr σ) as H v x
  | .own i => σ[i]? = some (some v)
inductive ROs (G : G0) (B : Addr → Prop) (as : List Addr) (s : Sta) (σ : St) (H : Hp) : List V → List OV → Prop
  | nil : ROs G B as s σ H [] []
  | cons {v : V} {o : OV} {vs : List V} {os : List OV} : RO G B as s σ H v o → ROs G B as s σ H vs os → ROs G B as s σ H (v :: vs) (o :: os)

/-- what is read of a value: a datum, or a container that may be written -/
inductive RepC (G : G0) (W : Addr → Prop) (as : List Addr) (H : Hp) : V → D → Prop
  | rep {v : V} {d : D} : Rep G W as H v d → RepC G W as H v d
  | cont {a : Addr} {d : D} : Cont G W as H a d → RepC G W as H (.ref a) d
inductive RepCs (G : G0) (W : Addr → Prop) (as : List Addr) (H : Hp) : List V → List D → Prop
  | nil : RepCs G W as H [] []
  | cons {v : V} {d : D} {vs : List V} {ds : List D} : RepC G W as H v d → RepCs G W as H vs ds → RepCs G W as H (v :: vs) (d :: ds)

/-- the value of an operation: nothing that stood is changed; true: a new container -/
def NewV (G : G0) (W : Addr → Prop) (as : List Addr) (H : Hp) (r : Bool × D) (v : V) (H' : Hp) : Prop :=
  (∀ a o, H a = some o → H' a = some o) ∧
  (if r.1 = true then ∃ a, v = .ref a ∧ H a = none ∧ Cont G (fun b => W b ∨ b = a) as H' a r.2 else Rep G W as H' v r.2)
/-- the value of an expression (true: a container that nobody else has) -/
def PV (G : G0) (B : Addr → Prop) (σ : St) (as : List Addr) (O : Addr → Prop) (H : Hp) (r : Bool × D) (s' : Sta) (v : V) (as' : List Addr) (H' : Hp) : Prop :=
  Ext as O H as' (Own s'.fr σ) H' ∧
  (if r.1 = true then ∃ a, v = .ref a ∧ ¬ Th H a ∧ Rel G (fun b => B b ∨ b = a) as' σ H' s' ∧ Cont G (Wof (fun b => B b ∨ b = a) as' s'.fr σ) as' H' a r.2
   else Rel G B as' σ H' s' ∧ Rep G (Wof B as' s'.fr σ) as' H' v r.2)
/-- the reading of an expression -/
def TF (G : G0) (Wd : WX) (m : M (Bool × D)) : TE := fun σ H Q => ∃ (B : Addr → Prop) (as : List Addr) (s : Sta), Rel G B as σ H s ∧
  Ans (m s) (fun r s' => ∀ (v : V) (as' : List Addr) (H' : Hp), PV G B σ as (Own s.fr σ) H r s' v as' H' → Q v H') (XW G B Wd σ as (Own s.fr σ) H)

section
variable {G : G0} {B B' W W' : Addr → Prop} {as as' as1 as2 : List Addr} {H H' H1 H2 : Hp} {σ : St} {s s' : Sta} {O O' O1 O2 : Addr → Prop} {Wd : WX} {X : Cx}

theorem PE.imp {e : Expr} {t t' : TE} (h : PE X e t) (i : ∀ σ H Q, t' σ H Q → t σ H Q) : PE X e t' := ⟨fun pins s σ H Q I q => h.run pins s σ H Q I (i σ H Q q)⟩
theorem PA.imp {es : List Expr} {t t' : TA} (h : PA X es t) (i : ∀ σ H Q, t' σ H Q → t σ H Q) : PA X es t' := ⟨fun pos pins s σ H Q I q => h.run pos pins s σ H Q I (i σ H Q q)⟩
theorem PT.imp {e : Expr} {t t' : TT} (h : PT X e t) (i : ∀ σ H Q, t' σ H Q → t σ H Q) : PT X e t' := ⟨fun pins s σ H Q I q => h.run pins s σ H Q I (i σ H Q q)⟩
theorem PS.imp {e : Stmt} {t t' : TS} (h : PS X e t) (i : ∀ D σ H, t' D σ H → t D σ H) : PS X e t' := ⟨fun pins s σ H D I q => h.run pins s σ H D I (i D σ H q)⟩
theorem PSs.imp {e : List Stmt} {t t' : TS} (h : PSs X e t) (i : ∀ D σ H, t' D σ H → t D σ H) : PSs X e t' := ⟨fun pins s σ H D I q => h.run pins s σ H D I (i D σ H q)⟩

theorem Rel.rdom (r : Rel G B as σ H s) {a : Addr} (e : H a = none) : ¬ Wof B as s.fr σ a := fun z => r.dom a z e
/-- one more address is kept from us -/
theorem Rel.guard (r : Rel G B as σ H s) {a : Addr} (n : H a = none) (keep : ∀ b o, H b = some o → H' b = some o) (h : Th H' a) : Rel G (fun b => B b ∨ b = a) as σ H' s := by
  have k : Keeps (Wof B as s.fr σ) as H (Wof (fun b => B b ∨ b = a) as s.fr σ) as H' := ⟨List.prefix_refl _, fun b o e _ _ => keep b o e, fun b z => by
    rcases z with (z | z) | z | z
    · exact .inl (.inl z)
    · subst z; exact .inr (th_none n)
    · exact .inl (.inr (.inl z))
    · exact .inl (.inr (.inr z))⟩
  have na := r.rdom n
  refine ⟨r.len, fun i d e => ?_, fun i d e => ?_, r.hlen, fun m b o e1 e2 => (r.obj m b o e1 e2).mono k fun o e _ => keep b o e, r.nd, r.ao, r.oo, fun b z => ?_, fun b z => ?_, r.tabs.ext keep⟩
  · obtain ⟨v, e1, q⟩ := r.val i d e; exact ⟨v, e1, q.mono k⟩
  · obtain ⟨b, e1, q⟩ := r.own i d e; exact ⟨b, e1, q.mono k fun o e _ => keep b o e⟩
  · rcases z with z | z
    · exact r.ba b z
    · subst z; exact ⟨fun y => na (.inr (.inl y)), fun y => na (.inr (.inr y))⟩
  · rcases z with z | z
    · exact (r.bd b z).keep fun o e _ => keep b o e
    · subst z; exact h
/-- what an expression yields, as a datum -/
theorem PV.datum {r : Bool × D} {v : V} (r0 : Rel G B as σ H s) (h : PV G B σ as O H r s' v as' H') : Rel G B as' σ H' s' ∧ Ext as O H as' (Own s'.fr σ) H' ∧ Rep G (Wof B as' s'.fr σ) as' H' v r.2 := by
  obtain ⟨x, h⟩ := h
  by_cases e : r.1 = true
  · rw [if_pos e] at h
    obtain ⟨a, rfl, n, q, c⟩ := h
    have k : Keeps (Wof (fun b => B b ∨ b = a) as' s'.fr σ) as' H' (Wof B as' s'.fr σ) as' H' := Keeps.sub fun b z => z.elim (fun z => .inl (.inl z)) .inr
    refine ⟨q.weaken fun b z => .inl z, x, (c.mono k fun _ e _ => e).rep fun z => ?_⟩
    obtain ⟨n1, n2⟩ := q.ba a (.inr rfl)
    rcases z with z | z | z
    · exact n (r0.bd a z)
    · exact n1 z
    · exact n2 z
  · rw [if_neg e] at h
    exact ⟨h.1, x, h.2⟩
theorem PE.datum {e : Expr} {m : M (Bool × D)} (h : PE X e (TF G Wd m)) : PE X e (TM G Wd (RZ G) m) := PE.imp h fun σ H Q ⟨B, as, s, r, q⟩ =>
  ⟨B, as, s, r, q.imp (fun v s' h v as' H' pv => let ⟨a, b, c⟩ := PV.datum r pv; h v as' H' a b c) fun _ _ h => h⟩
/-- a value that an operation yields, in its state -/
theorem PV.of_new {r : Bool × D} {v : V} (q : Rel G B as σ H s) (h : NewV G (Wof B as s.fr σ) as H r v H') : PV G B σ as (Own s.fr σ) H r s v as H' := by
  obtain ⟨keep, h⟩ := h
  refine ⟨⟨List.prefix_refl _, fun _ z => .inl z, fun _ z => .inl z, fun a o e _ _ _ => keep a o e, fun a z => z.keep fun o e _ => keep a o e⟩, ?_⟩
  · by_cases e : r.1 = true
    · rw [if_pos e] at h ⊢
      obtain ⟨a, rfl, n, c⟩ := h
      refine ⟨a, rfl, th_none n, q.guard n keep c.there, c.mono (Keeps.sub fun b z => ?_) fun _ e _ => e⟩
      rcases z with (z | z) | z | z
      · exact .inl (.inl z)
      · exact .inr z
      · exact .inl (.inr (.inl z))
      · exact .inl (.inr (.inr z))
    · rw [if_neg e] at h ⊢
      exact ⟨q.heap keep, h⟩
/-- from a later start back to an earlier one -/
theorem PV.earlier {r : Bool × D} {v : V} (x : Ext as O H as1 O1 H1) (h : PV G B σ as1 O1 H1 r s' v as' H') : PV G B σ as O H r s' v as' H' := by
  obtain ⟨y, h⟩ := h
  refine ⟨x.trans y, ?_⟩
  by_cases e : r.1 = true
  · rw [if_pos e] at h ⊢
    obtain ⟨a, ev, n, q⟩ := h
    exact ⟨a, ev, fun z => n (x.dom a z), q⟩
  · rw [if_neg e] at h ⊢
    exact h
theorem Rep.ext {v : V} {d : D} {fr fr' : List Slot} (h : Rep G (Wof B as fr σ) as H v d) (x : Ext as (Own fr σ) H as' (Own fr' σ) H') : Rep G (Wof B as' fr' σ) as' H' v d := h.mono x.keeps
theorem RepL.ext {v : List V} {d : List D} {fr fr' : List Slot} (h : RepL G (Wof B as fr σ) as H v d) (x : Ext as (Own fr σ) H as' (Own fr' σ) H') : RepL G (Wof B as' fr' σ) as' H' v d := h.mono x.keeps
theorem RO.ext {v : V} {o : OV} (h : RO G B as s σ H v o) (x : Ext as (Own s.fr σ) H as' (Own s'.fr σ) H') : RO G B as' s' σ H' v o := by
  cases o with
  | d y => exact Rep.ext h x
  | own i => exact h
/-- an operand's content, now -/
theorem RO.res {v : V} {o : OV} {d : D} {t : Sta} (q : Rel G B as σ H s) (h : RO G B as s σ H v o) (e : Fw.res o s = .ok d t) : t = s ∧ RepC G (Wof B as s.fr σ) as H v d := by
  cases o with
  | own i =>
    have e' : (match s.fr[i]? with | some (.own d) => R.ok d s | _ => .stk) = .ok d t := e
    cases q1 : s.fr[i]? with
    | none => rw [q1] at e'; cases e'
    | some sl =>
      rw [q1] at e'
      cases sl with
      | own c =>
        cases e'
        obtain ⟨a, e1, c⟩ := q.own i _ q1
        have h' : σ[i]? = some (some v) := h
        rw [e1] at h'; cases h'
        exact ⟨rfl, .cont c⟩
      | _ => cases e'
  | d x =>
    cases x with
    | ref n =>
      have e' : (match s.hp[n]? with | some (.lst l) => R.ok (D.lst l) s | some (.dct l) => .ok (.dct l) s | some (.ins _ _) => .ok (.ref n) s | none => .stk) = .ok d t := e
      have h' : Rep G (Wof B as s.fr σ) as H v (.ref n) := h
      cases h' with
      | ref ha =>
        cases q1 : s.hp[n]? with
        | none => rw [q1] at e'; cases e'
        | some o =>
          rw [q1] at e'
          have ob := q.obj n _ o ha q1
          cases o with
          | lst l => cases e'; cases ob with | lst c => exact ⟨rfl, .cont c⟩
          | dct l => cases e'; cases ob with | dct c => exact ⟨rfl, .cont c⟩
          | ins c fs => cases ob
    | _ =>
      have e' : R.ok _ s = .ok d t := e
      cases e'
      exact ⟨rfl, .rep h⟩
theorem Ans.res {o : OV} {v : V} {ok : D → Sta → Prop} {ex : Exc → Sta → Prop} (q : Rel G B as σ H s) (h : RO G B as s σ H v o) (a : Ans (Fw.res o s) ok ex) : ∃ d, RepC G (Wof B as s.fr σ) as H v d ∧ ok d s := by
  cases e : Fw.res o s with
  | stk => rw [e] at a; exact False.elim a
  | ok d t =>
    rw [e] at a
    obtain ⟨rfl, c⟩ := h.res q e
    exact ⟨d, c, a⟩
  | exc x t =>
    exfalso
    cases o with
    | own i =>
      have e' : (match s.fr[i]? with | some (.own d) => R.ok d s | _ => .stk) = .exc x t := e
      split at e' <;> cases e'
    | d y =>
      cases y with
      | ref n =>
        have e' : (match s.hp[n]? with | some (.lst l) => R.ok (D.lst l) s | some (.dct l) => .ok (.dct l) s | some (.ins _ _) => .ok (.ref n) s | none => .stk) = .exc x t := e
        split at e' <;> cases e'
      | _ => cases (show R.ok _ s = .exc x t from e)
theorem ROs.ext {vs : List V} {os : List OV} (h : ROs G B as s σ H vs os) (x : Ext as (Own s.fr σ) H as' (Own s'.fr σ) H') : ROs G B as' s' σ H' vs os := by
  induction h with
  | nil => exact .nil
  | cons a _ ih => exact .cons (a.ext x) ih
theorem Ans.ress {ex : Exc → Sta → Prop} {vs : List V} {os : List OV} (q : Rel G B as σ H s) (h : ROs G B as s σ H vs os) {ok : List D → Sta → Prop} (a : Ans (Fw.ress os s) ok ex) : ∃ ds, RepCs G (Wof B as s.fr σ) as H vs ds ∧ ok ds s := by
  induction h generalizing ok with
  | nil => exact ⟨[], .nil, a⟩
  | cons r _ ih =>
    obtain ⟨d, c, a⟩ := Ans.res q r (Ans.bind a)
    obtain ⟨ds, cs, a⟩ := ih (Ans.bind a)
    exact ⟨d :: ds, .cons c cs, a⟩

/-! ### operations -/
/-- two operands, a value -/
def rOp (G : G0) (f : D → D → Option (Bool × D)) : R2 := fun x y H Q => ∃ (W : Addr → Prop) (as : List Addr) (dx dy : D) (r : Bool × D), RepC G W as H x dx ∧ RepC G W as H y dy ∧ f dx dy = some r ∧ (∀ a, W a → H a ≠ none) ∧ ∀ v H', NewV G W as H r v H' → Q v H'
/-- a first fact of new values -/
theorem NewV.same {d : D} {v : V} (h : Rep G W as H v d) : NewV G W as H (false, d) v H := ⟨fun _ _ e => e, by rw [if_neg (by simp)]; exact h⟩
theorem upd_keep {a : Addr} {o : HO} (n : H a = none) : ∀ b u, H b = some u → upd H a o b = some u := fun b u e => by rw [upd_ne (ne_of_none e n)]; exact e
theorem Keeps.upd {a : Addr} {o : HO} (n : H a = none) : Keeps W as H (fun b => W b ∨ b = a) as (L2.upd H a o) := ⟨List.prefix_refl _, fun b u e _ _ => upd_keep n b u e, fun b z => by
  rcases z with z | z
  · exact .inl z
  · subst z; exact .inr (th_none n)⟩
theorem Keeps.grow (keep : ∀ b u, H b = some u → H' b = some u) : Keeps W as H W as H' := ⟨List.prefix_refl _, fun b u e _ _ => keep b u e, fun _ z => .inl z⟩
/-- a new list -/
theorem NewV.lst {a : Addr} {xs : List V} {l : List D} (n : H a = none) (r : RepL G W as H xs l) : NewV G W as H (true, .lst l) (.ref a) (upd H a (.lst xs)) :=
  ⟨upd_keep n, by rw [if_pos rfl]; exact ⟨a, rfl, n, .lst upd_same (r.mono (Keeps.upd n))⟩⟩
/-- a new tuple -/
theorem NewV.tup {a : Addr} {xs : List V} {l : List D} (hw : ∀ a, W a → H a ≠ none) (n : H a = none) (r : RepL G W as H xs l) : NewV G W as H (false, .tup l) (.ref a) (upd H a (.tup xs)) :=
  ⟨upd_keep n, by rw [if_neg (by simp)]; exact .tup upd_same (fun z => hw a z n) (r.mono (Keeps.grow (upd_keep n)))⟩
theorem Rep.int_inv {v : V} {i : Int} (h : RepC G W as H v (.int i)) : v = .int i := by
  cases h with
  | rep h => cases h; rfl
  | cont h => cases h
theorem Rep.str_inv {v : V} {x : Str} (h : RepC G W as H v (.str x)) : v = .str x := by
  cases h with
  | rep h => cases h; rfl
  | cont h => cases h
theorem Rep.bl_inv {v : V} {x : Bool} (h : RepC G W as H v (.bl x)) : v = .bl x := by
  cases h with
  | rep h => cases h; rfl
  | cont h => cases h
theorem Rep.non_inv {v : V} (h : RepC G W as H v .non) : v = .non := by
  cases h with
  | rep h => cases h; rfl
  | cont h => cases h
theorem Rep.lst_inv {v : V} {l : List D} (h : RepC G W as H v (.lst l)) : ∃ a xs, v = .ref a ∧ H a = some (.lst xs) ∧ RepL G W as H xs l := by
  cases h with
  | rep h => cases h with | lst e _ r => exact ⟨_, _, rfl, e, r⟩
  | cont h => cases h with | lst e r => exact ⟨_, _, rfl, e, r⟩
theorem Rep.tup_inv {v : V} {l : List D} (h : RepC G W as H v (.tup l)) : ∃ a xs, v = .ref a ∧ H a = some (.tup xs) ∧ ¬ W a ∧ RepL G W as H xs l := by
  cases h with
  | rep h => cases h with | tup e n r => exact ⟨_, _, rfl, e, n, r⟩
  | cont h => cases h
theorem Rep.kt_inv {v : V} {l : List D} (h : RepC G W as H v (.kt l)) : ∃ a xs, v = .ref a ∧ (∀ H' : Hp, SqT G.K H' a xs) ∧ RepL G W as H xs l := by
  cases h with
  | rep h => cases h with | kt e r => exact ⟨_, _, rfl, e, r⟩
  | cont h => cases h
theorem Rep.scr_inv {v : V} {l : List D} (h : RepC G W as H v (.scr l)) : ∃ a xs, v = .ref a ∧ SqL G.K H a xs ∧ RepL G W as H xs l := by
  cases h with
  | rep h => cases h with
    | scr e n r => exact ⟨_, _, rfl, .inl e, r⟩
    | scrK e r => exact ⟨_, _, rfl, e H, r⟩
  | cont h => cases h
/-- a list, or a tuple of either kind, by its items -/
theorem RepC.seq {v : V} {d : D} {l : List D} (h : RepC G W as H v d) (e : unpack d = some l) : ∃ a xs, v = .ref a ∧ (SqL G.K H a xs ∨ SqT G.K H a xs) ∧ RepL G W as H xs l := by
  cases d with
  | lst m =>
    cases (Option.some.inj e)
    obtain ⟨a, xs, rfl, e, r⟩ := Rep.lst_inv h
    exact ⟨a, xs, rfl, .inl (.of e), r⟩
  | tup m =>
    cases (Option.some.inj e)
    obtain ⟨a, xs, rfl, e, _, r⟩ := Rep.tup_inv h
    exact ⟨a, xs, rfl, .inr (.of e), r⟩
  | kt m =>
    cases (Option.some.inj e)
    obtain ⟨a, xs, rfl, e, r⟩ := Rep.kt_inv h
    exact ⟨a, xs, rfl, .inr (e H), r⟩
  | _ => cases e
end

end Fw
set_option linter.all false
set_option Elab.async false
set_option maxRecDepth 100000
/-! Operators on values: the hand layer's rules, told of core data. -/
namespace Fw
open PySem PySem.Spec L2
open PyProof.Rows hiding St
theorem add_inv {x y : D} {r : Bool × D} (e : binop .add x y = some r) :
    (∃ i j, x = .int i ∧ y = .int j ∧ r = (false, .int (i + j))) ∨ (∃ a b, x = .str a ∧ y = .str b ∧ a.length + b.length ≤ sizeLine ∧ r = (false, .str (a ++ b))) ∨
    (∃ a b, x = .lst a ∧ y = .lst b ∧ a.length + b.length ≤ sizeLine ∧ r = (true, .lst (a ++ b))) ∨ (∃ a b, x = .tup a ∧ y = .tup b ∧ a.length + b.length ≤ sizeLine ∧ r = (false, .tup (a ++ b))) := by
  cases x <;> cases y <;> simp [binop] at e ⊢ <;> first | exact e.symm | exact ⟨e.1, e.2.symm⟩
theorem sub_inv {x y : D} {r : Bool × D} (e : binop .sub x y = some r) : ∃ i j, x = .int i ∧ y = .int j ∧ r = (false, .int (i - j)) := by
  cases x <;> cases y <;> simp [binop] at e ⊢ <;> exact e.symm
theorem mul_inv {x y : D} {r : Bool × D} (e : binop .mul x y = some r) :
    (∃ i j, x = .int i ∧ y = .int j ∧ CMul i j ∧ r = (false, .int (i * j))) ∨
    (∃ a k, x = .lst a ∧ y = .int k ∧ -(2 ^ 63) ≤ k ∧ k < 2 ^ 63 ∧ a.length * k.toNat ≤ sizeLine ∧ r = (true, .lst (List.replicate k.toNat a).flatten)) := by
  cases x <;> cases y <;> simp [binop, CMul] at e ⊢
  · exact ⟨e.1, e.2.symm⟩
  · exact ⟨e.1.1, e.1.2.1, e.1.2.2, e.2.symm⟩
theorem fdiv_inv {x y : D} {r : Bool × D} (e : binop .fdiv x y = some r) : ∃ i j, x = .int i ∧ y = .int j ∧ CDiv i j ∧ r = (false, .int (i / j)) := by
  cases x <;> cases y <;> simp [binop, CDiv] at e ⊢
  exact ⟨e.1, e.2.symm⟩
theorem mod_inv {x y : D} {r : Bool × D} (e : binop .mod x y = some r) : ∃ i j, x = .int i ∧ y = .int j ∧ 0 < j ∧ r = (false, .int (i % j)) := by
  cases x <;> cases y <;> simp [binop] at e ⊢
  exact ⟨e.1, e.2.symm⟩
theorem pow_inv {x y : D} {r : Bool × D} (e : binop .pow x y = some r) : ∃ i j, x = .int i ∧ y = .int j ∧ CPow i j ∧ r = (false, .int (i ^ j.toNat)) := by
  cases x <;> cases y <;> simp [binop, CPow] at e ⊢
  exact ⟨e.1, e.2.symm⟩
section
variable {G : G0} {W : Addr → Prop} {as : List Addr} {H : Hp}
theorem RepL.nil_iff {xs : List V} {l : List D} (r : RepL G W as H xs l) : xs = [] ↔ l = [] := by
  cases r with
  | nil => simp
  | cons a b => simp
theorem RepL.rep {xs : List V} {l : List D} (r : RepL G W as H xs l) : ∀ n : Nat, RepL G W as H (List.replicate n xs).flatten (List.replicate n l).flatten
  | 0 => .nil
  | n + 1 => by
    rw [List.replicate_succ, List.replicate_succ, List.flatten_cons, List.flatten_cons]
    exact r.append (RepL.rep r n)
end
section
variable {G : G0} {X : Cx}
theorem opR_add (hK : X.K = G.K) : OpR X (binaryOp .Add) (rOp G (binop .add)) := by
  intro pins s σ H x y v u Q I rx ry ⟨W, as, dx, dy, r, hx, hy, e, hw, q⟩
  rcases add_inv e with ⟨i, j, rfl, rfl, rfl⟩ | ⟨a, b, rfl, rfl, hz, rfl⟩ | ⟨a, b, rfl, rfl, hz, rfl⟩ | ⟨a, b, rfl, rfl, hz, rfl⟩
  · obtain rfl := Rep.int_inv hx; obtain rfl := Rep.int_inv hy
    exact op_add pins s σ H _ _ v u Q I rx ry ⟨i, j, rfl, rfl, q _ _ (.same (.int _))⟩
  · obtain rfl := Rep.str_inv hx; obtain rfl := Rep.str_inv hy
    obtain ⟨t, rfl⟩ := rx
    obtain ⟨t', rfl⟩ := ry
    exact PyProof.Rows.add_str (fun t' tk => ⟨.str (a ++ b), H, I.tok _, ⟨_, rfl⟩, q _ _ (.same (.str _))⟩) hz
  · obtain ⟨l, xs, rfl, e1, r1⟩ := Rep.lst_inv hx
    obtain ⟨m, ys, rfl, e2, r2⟩ := Rep.lst_inv hy
    exact op_cat pins s σ H _ _ v u Q I rx ry ⟨l, m, xs, ys, rfl, rfl, e1, e2, by rw [r1.length, r2.length]; exact hz, fun p n => q _ _ (.lst n (r1.append r2))⟩
  · obtain ⟨l, xs, rfl, e1, n1, r1⟩ := Rep.tup_inv hx
    obtain ⟨m, ys, rfl, e2, n2, r2⟩ := Rep.tup_inv hy
    refine op_catA pins s σ H _ _ v u Q I rx ry ⟨l, m, xs, ys, rfl, rfl, .of e1, .of e2, by rw [r1.length, r2.length]; exact hz, fun z => ?_, fun z1 z2 => ?_, fun z1 z2 p n => q _ _ (.tup hw n (r1.append r2))⟩
    · rw [r1.nil_iff] at z; subst z
      exact q _ _ (.same (.tup e2 n2 (by simpa using r2)))
    · rw [r2.nil_iff] at z2; subst z2
      exact q _ _ (.same (.tup e1 n1 (by simpa using r1)))
theorem opR_sub : OpR X (binaryOp .Sub) (rOp G (binop .sub)) := by
  intro pins s σ H x y v u Q I rx ry ⟨W, as, dx, dy, r, hx, hy, e, hw, q⟩
  obtain ⟨i, j, rfl, rfl, rfl⟩ := sub_inv e
  obtain rfl := Rep.int_inv hx; obtain rfl := Rep.int_inv hy
  exact op_sub pins s σ H _ _ v u Q I rx ry ⟨i, j, rfl, rfl, q _ _ (.same (.int _))⟩
theorem opR_mul : OpR X (binaryOp .Mult) (rOp G (binop .mul)) := by
  intro pins s σ H x y v u Q I rx ry ⟨W, as, dx, dy, r, hx, hy, e, hw, q⟩
  rcases mul_inv e with ⟨i, j, rfl, rfl, hc, rfl⟩ | ⟨a, k, rfl, rfl, h1, h2, h3, rfl⟩
  · obtain rfl := Rep.int_inv hx; obtain rfl := Rep.int_inv hy
    exact op_mul pins s σ H _ _ v u Q I rx ry ⟨i, j, rfl, rfl, hc, q _ _ (.same (.int _))⟩
  · obtain ⟨l, xs, rfl, e1, r1⟩ := Rep.lst_inv hx
    obtain rfl := Rep.int_inv hy
    exact op_rep pins s σ H _ _ v u Q I rx ry ⟨l, k, xs, rfl, rfl, e1, h1, h2, by rw [r1.length]; exact h3, fun p n => q _ _ (.lst n (r1.rep _))⟩
theorem opR_fdiv : OpR X (binaryOp .FloorDiv) (rOp G (binop .fdiv)) := by
  intro pins s σ H x y v u Q I rx ry ⟨W, as, dx, dy, r, hx, hy, e, hw, q⟩
  obtain ⟨i, j, rfl, rfl, hc, rfl⟩ := fdiv_inv e
  obtain rfl := Rep.int_inv hx; obtain rfl := Rep.int_inv hy
  exact op_fdiv pins s σ H _ _ v u Q I rx ry ⟨i, j, rfl, rfl, hc, q _ _ (.same (.int _))⟩
theorem opR_mod : OpR X (binaryOp .Mod) (rOp G (binop .mod)) := by
  intro pins s σ H x y v u Q I rx ry ⟨W, as, dx, dy, r, hx, hy, e, hw, q⟩
  obtain ⟨i, j, rfl, rfl, hc, rfl⟩ := mod_inv e
  obtain rfl := Rep.int_inv hx; obtain rfl := Rep.int_inv hy
  exact op_mod pins s σ H _ _ v u Q I rx ry ⟨i, j, rfl, rfl, hc, q _ _ (.same (.int _))⟩
theorem opR_pow : OpR X (binaryOp .Pow) (rOp G (binop .pow)) := by
  intro pins s σ H x y v u Q I rx ry ⟨W, as, dx, dy, r, hx, hy, e, hw, q⟩
  obtain ⟨i, j, rfl, rfl, hc, rfl⟩ := pow_inv e
  obtain rfl := Rep.int_inv hx; obtain rfl := Rep.int_inv hy
  exact op_pow pins s σ H _ _ v u Q I rx ry ⟨i, j, rfl, rfl, hc, q _ _ (.same (.int _))⟩
theorem opR_bin (hK : X.K = G.K) : ∀ {op : Operator} {o : Op}, opOf op = some o → OpR X (binaryOp op) (rOp G (binop o))
  | .Add, _, e => by cases e; exact opR_add hK
  | .Sub, _, e => by cases e; exact opR_sub
  | .Mult, _, e => by cases e; exact opR_mul
  | .FloorDiv, _, e => by cases e; exact opR_fdiv
  | .Mod, _, e => by cases e; exact opR_mod
  | .Pow, _, e => by cases e; exact opR_pow
/-- a op b -/
theorem s_bin (hK : X.K = G.K) {Wd : WX} {a b : Expr} {op : Operator} {o : Op} {ma mb : M OV} {pos : Pos} (eo : opOf op = some o) (ha : PE X a (TM G Wd (RO G) ma)) (hb : PE X b (TM G Wd (RO G) mb)) :
    PE X (.BinOp a op b pos) (TF G Wd (do let x ← ma; let y ← mb; let x ← res x; let y ← res y; lift (binop o x y))) := by
  refine PE.imp (pe_op (opR_bin hK eo) ha hb) fun σ H Q ⟨B, as, s, q, h⟩ => ⟨B, as, s, q, (Ans.bind h).imp (fun x s1 h v1 as1 H1 q1 x1 r1 => ?_) fun _ _ h => h⟩
  refine ⟨B, as1, s1, q1, (Ans.bind h).imp (fun y s2 h v2 as2 H2 q2 x2 r2 => ?_) fun _ _ h => h.later x1⟩
  obtain ⟨dx, cx, h⟩ := Ans.res q2 (r1.ext x2) (Ans.bind h)
  obtain ⟨dy, cy, h⟩ := Ans.res q2 r2 (Ans.bind h)
  obtain ⟨r, e, h⟩ := Ans.lift h
  exact ⟨_, as2, dx, dy, r, cx, cy, e, q2.dom, fun v H' n => h v as2 H' ((PV.of_new q2 n).earlier (x1.trans x2))⟩
end
end Fw
set_option linter.all false
set_option Elab.async false
set_option maxRecDepth 100000
/-! Names, constants, comparisons, truth. -/
namespace Fw
open PySem PySem.Spec L2
open PyProof.Rows hiding St
section
variable {G : G0} {W : Addr → Prop} {as : List Addr} {H : Hp}
mutual
theorem Rep.dp : ∀ (d : D) (v : V) (p : PyData), Rep G W as H v d → d.py = some p → Dp G.K H v p
  | .non, _, _, h, e => by cases h; cases e; exact .non
  | .bl b, _, _, h, e => by cases h; cases e; exact .bl b
  | .int i, _, _, h, e => by cases h; cases e; exact .int i
  | .str x, _, _, h, e => by cases h; cases e; exact .str x
  | .tup l, _, p, h, e => by
    cases h with
    | tup h1 h2 r =>
      have e' : (D.pyL l).map PyData.tuple = some p := e
      cases q : D.pyL l with
      | none => rw [q] at e'; cases e'
      | some ps => rw [q] at e'; cases e'; exact .tup (.of h1) (RepL.dp l _ ps r q)
  | .lst l, _, p, h, e => by
    cases h with
    | lst h1 h2 r =>
      have e' : (D.pyL l).map PyData.list = some p := e
      cases q : D.pyL l with
      | none => rw [q] at e'; cases e'
      | some ps => rw [q] at e'; cases e'; exact .lst (.of h1) (RepL.dp l _ ps r q)
  | .kt l, _, p, h, e => by
    cases h with
    | kt h1 r =>
      have e' : (D.pyL l).map PyData.tuple = some p := e
      cases q : D.pyL l with
      | none => rw [q] at e'; cases e'
      | some ps => rw [q] at e'; cases e'; exact .tup (h1 H) (RepL.dp l _ ps r q)
  | .dct _, _, _, _, e => by cases e
  | .kd _, _, _, _, e => by cases e
  | .scr _, _, _, _, e => by cases e
  | .fn _, _, _, _, e => by cases e
  | .ref _, _, _, _, e => by cases e
theorem RepL.dp : ∀ (l : List D) (xs : List V) (ps : List PyData), RepL G W as H xs l → D.pyL l = some ps → DpAll G.K H xs ps
  | [], _, _, h, e => by cases h; cases e; exact .nil
  | d :: l, _, ps, h, e => by
    cases h with
    | cons a b =>
      have e' : (match D.py d, D.pyL l with | some x, some y => some (x :: y) | _, _ => none) = some ps := e
      cases q1 : D.py d with
      | none => rw [q1] at e'; cases e'
      | some x =>
        cases q2 : D.pyL l with
        | none => rw [q1, q2] at e'; cases e'
        | some y => rw [q1, q2] at e'; cases e'; exact .cons (Rep.dp d _ x a q1) (RepL.dp l _ y b q2)
end
theorem RepC.dp {d : D} {v : V} {p : PyData} (h : RepC G W as H v d) (e : d.py = some p) : Dp G.K H v p := by
  cases h with
  | rep h => exact Rep.dp d v p h e
  | cont h =>
    cases h with
    | @lst xs l h1 r =>
      have e' : (D.pyL l).map PyData.list = some p := e
      cases q : D.pyL l with
      | none => rw [q] at e'; cases e'
      | some ps => rw [q] at e'; cases e'; exact .lst (.of h1) (RepL.dp l _ ps r q)
    | dctK _ _ => cases e
    | dctT _ _ => cases e
/-- truth -/
theorem RepC.tru {d : D} {v : V} {b : Bool} (h : RepC G W as H v d) (e : truthy d = some b) : TruV G.K v H b := by
  cases d with
  | non => cases e; obtain rfl := Rep.non_inv h; exact rfl
  | bl c => cases e; obtain rfl := Rep.bl_inv h; exact rfl
  | int i => cases e; obtain rfl := Rep.int_inv h; exact rfl
  | str x =>
    obtain rfl := Rep.str_inv h
    have e' : (if x.length ≤ sizeLine then some (x.length != 0) else none) = some b := e
    by_cases z : x.length ≤ sizeLine
    · rw [if_pos z] at e'; cases e'
      refine ⟨z, ?_⟩
      rw [Bool.eq_iff_iff]
      simp
    · rw [if_neg z] at e'; cases e'
  | lst l =>
    cases e
    obtain ⟨a, xs, rfl, e1, r⟩ := Rep.lst_inv h
    exact .inl ⟨xs, .of e1, by have := r.length; cases xs <;> cases l <;> simp_all⟩
  | tup l =>
    cases e
    obtain ⟨a, xs, rfl, e1, _, r⟩ := Rep.tup_inv h
    exact .inr (.inl ⟨xs, .of e1, by have := r.length; cases xs <;> cases l <;> simp_all⟩)
  | kt l =>
    cases e
    obtain ⟨a, xs, rfl, e1, r⟩ := Rep.kt_inv h
    exact .inr (.inl ⟨xs, e1 H, by have := r.length; cases xs <;> cases l <;> simp_all⟩)
  | _ => cases e
end

/-- two operands, a truth -/
def rCp (G : G0) (f : D → D → Option Bool) : R2 := fun x y H Q => ∃ (W : Addr → Prop) (as : List Addr) (dx dy : D) (b : Bool), RepC G W as H x dx ∧ RepC G W as H y dy ∧ f dx dy = some b ∧ Q (.bl b) H
section
variable {G : G0} {X : Cx}
theorem eqS_inv {a b : D} {r : Bool} (e : eqS a b = some r) : ∃ x y, a = .str x ∧ b = .str y ∧ r = (x == y) := by
  unfold eqS at e
  split at e
  · cases e; exact ⟨_, _, rfl, rfl, rfl⟩
  · cases e
theorem eqD_inv {a b : D} {r : Bool} (e : eqD a b = some r) :
    (∃ x y, a = .str x ∧ b = .str y ∧ r = (x == y)) ∨ (∃ x y, a.py = some x ∧ b.py = some y ∧ SeqAt.shaped x = true ∧ SeqAt.shaped y = true ∧ r = PyData.eqv x y) ∨ (∃ k l, a = .dct k ∧ b = .dct l ∧ D.beqK k l = true ∧ (k.all fun p => p.1.isKey1 && shp p.2) = true ∧ r = true) := by
  unfold eqD at e
  cases q0 : eqS a b with
  | some r' =>
    rw [q0] at e; cases e
    exact .inl (eqS_inv q0)
  | none =>
    rw [q0] at e
    simp only at e
    refine .inr ?_
    cases q1 : a.py with
    | some x =>
      cases q2 : b.py with
      | some y =>
        rw [q1, q2] at e
        simp only at e
        split at e
        · rename_i h
          rw [Bool.and_eq_true] at h
          cases e
          exact .inl ⟨x, y, rfl, rfl, h.1, h.2, rfl⟩
        · cases e
      | none =>
        rw [q1, q2] at e
        simp only at e
        split at e
        · cases q1
        · cases e
    | none =>
      rw [q1] at e
      simp only at e
      split at e
      · rename_i k l
        split at e
        · rename_i h
          rw [Bool.and_eq_true] at h
          cases e; exact .inr ⟨k, l, rfl, rfl, h.1, h.2, rfl⟩
        · cases e
      · cases e
theorem opR_lt : OpR X (compareOp .Lt) (rCp G (cmpop .lt)) := by
  intro pins s σ H x y v u Q I rx ry ⟨W, as, dx, dy, b, hx, hy, e, q⟩
  obtain ⟨i, j, rfl, rfl, rfl⟩ : ∃ i j, dx = .int i ∧ dy = .int j ∧ b = decide (i < j) := by cases dx <;> cases dy <;> simp [cmpop] at e ⊢; exact e.symm
  obtain rfl := Rep.int_inv hx; obtain rfl := Rep.int_inv hy
  exact op_lt pins s σ H _ _ v u Q I rx ry ⟨i, j, rfl, rfl, q⟩
theorem opR_le : OpR X (compareOp .LtE) (rCp G (cmpop .le)) := by
  intro pins s σ H x y v u Q I rx ry ⟨W, as, dx, dy, b, hx, hy, e, q⟩
  obtain ⟨i, j, rfl, rfl, rfl⟩ : ∃ i j, dx = .int i ∧ dy = .int j ∧ b = decide (i ≤ j) := by cases dx <;> cases dy <;> simp [cmpop] at e ⊢; exact e.symm
  obtain rfl := Rep.int_inv hx; obtain rfl := Rep.int_inv hy
  exact op_le pins s σ H _ _ v u Q I rx ry ⟨i, j, rfl, rfl, q⟩
theorem opR_gt : OpR X (compareOp .Gt) (rCp G (cmpop .gt)) := by
  intro pins s σ H x y v u Q I rx ry ⟨W, as, dx, dy, b, hx, hy, e, q⟩
  obtain ⟨i, j, rfl, rfl, rfl⟩ : ∃ i j, dx = .int i ∧ dy = .int j ∧ b = decide (j < i) := by cases dx <;> cases dy <;> simp [cmpop] at e ⊢; exact e.symm
  obtain rfl := Rep.int_inv hx; obtain rfl := Rep.int_inv hy
  exact op_gt pins s σ H _ _ v u Q I rx ry ⟨i, j, rfl, rfl, q⟩
theorem opR_ge : OpR X (compareOp .GtE) (rCp G (cmpop .ge)) := by
  intro pins s σ H x y v u Q I rx ry ⟨W, as, dx, dy, b, hx, hy, e, q⟩
  obtain ⟨i, j, rfl, rfl, rfl⟩ : ∃ i j, dx = .int i ∧ dy = .int j ∧ b = decide (j ≤ i) := by cases dx <;> cases dy <;> simp [cmpop] at e ⊢; exact e.symm
  obtain rfl := Rep.int_inv hx; obtain rfl := Rep.int_inv hy
  exact op_ge pins s σ H _ _ v u Q I rx ry ⟨i, j, rfl, rfl, q⟩
theorem is_inv {dx dy : D} {b : Bool} (e : cmpop .is dx dy = some b) : dy = .non ∧ ∀ {W as H v}, RepC G W as H v dx → b = decide (v = .non) := by
  cases dy <;> simp [cmpop] at e
  refine ⟨rfl, fun {W as H v} h => ?_⟩
  subst e
  cases h with
  | rep h => cases h <;> simp
  | cont h => cases h <;> simp
theorem isNot_inv {dx dy : D} {b : Bool} (e : cmpop .isNot dx dy = some b) : dy = .non ∧ ∀ {W as H v}, RepC G W as H v dx → b = !decide (v = .non) := by
  cases dy <;> simp [cmpop] at e
  refine ⟨rfl, fun {W as H v} h => ?_⟩
  subst e
  cases h with
  | rep h => cases h <;> simp
  | cont h => cases h <;> simp
theorem opR_is : OpR X (compareOp .Is) (rCp G (cmpop .is)) := by
  intro pins s σ H x y v u Q I rx ry ⟨W, as, dx, dy, b, hx, hy, e, q⟩
  obtain ⟨rfl, hb⟩ := is_inv (G := G) e
  obtain rfl := Rep.non_inv hy
  exact op_isN pins s σ H _ _ v u Q I rx ry ⟨rfl, by rw [← hb hx]; exact q⟩
theorem opR_isNot : OpR X (compareOp .IsNot) (rCp G (cmpop .isNot)) := by
  intro pins s σ H x y v u Q I rx ry ⟨W, as, dx, dy, b, hx, hy, e, q⟩
  obtain ⟨rfl, hb⟩ := isNot_inv (G := G) e
  obtain rfl := Rep.non_inv hy
  exact op_notN pins s σ H _ _ v u Q I rx ry ⟨rfl, by rw [← hb hx]; exact q⟩
theorem memD_inv {x : D} {l : List D} {b : Bool} (e : memD x l = some b) : ∃ p ps, x.py = some p ∧ D.pyL l = some ps ∧ SeqAt.shaped p = true ∧ SeqAt.shaped (.list ps) = true ∧ b = ps.any fun z => PyData.eqv z p := by
  unfold memD at e
  split at e
  · rename_i p ps h1 h2
    split at e
    · rename_i h; rw [Bool.and_eq_true] at h; cases e; exact ⟨p, ps, h1, h2, h.1, h.2, rfl⟩
    · cases e
  · cases e
end
mutual
theorem D.eq_of : ∀ a b : D, D.beq a b = true → a = b
  | .non, b, h => by cases b <;> simp_all [D.beq]
  | .bl _, b, h => by cases b <;> simp_all [D.beq]
  | .int _, b, h => by cases b <;> simp_all [D.beq]
  | .str _, b, h => by cases b <;> simp_all [D.beq]
  | .fn _, b, h => by cases b <;> simp_all [D.beq]
  | .ref _, b, h => by cases b <;> simp_all [D.beq]
  | .kd _, b, h => by cases b <;> simp_all [D.beq]
  | .scr _, b, h => by cases b <;> simp_all [D.beq]
  | .tup l, b, h => by
    cases b <;> simp [D.beq] at h
    rw [D.eq_ofL l _ h]
  | .lst l, b, h => by
    cases b <;> simp [D.beq] at h
    rw [D.eq_ofL l _ h]
  | .kt l, b, h => by
    cases b <;> simp [D.beq] at h
    rw [D.eq_ofL l _ h]
  | .dct l, b, h => by
    cases b <;> simp [D.beq] at h
    rw [D.eq_ofK l _ h]
theorem D.eq_ofL : ∀ a b : List D, D.beqL a b = true → a = b
  | [], b, h => by cases b <;> simp_all [D.beqL]
  | x :: r, b, h => by
    cases b with
    | nil => simp [D.beqL] at h
    | cons y q =>
      simp only [D.beqL, Bool.and_eq_true] at h
      rw [D.eq_of x y h.1, D.eq_ofL r q h.2]
theorem D.eq_ofK : ∀ a b : List (D × D), D.beqK a b = true → a = b
  | [], b, h => by cases b <;> simp_all [D.beqK]
  | (x, u) :: r, b, h => by
    cases b with
    | nil => simp [D.beqK] at h
    | cons y q =>
      obtain ⟨y, v⟩ := y
      simp only [D.beqK, Bool.and_eq_true] at h
      rw [D.eq_of x y h.1.1, D.eq_of u v h.1.2, D.eq_ofK r q h.2]
end
section
variable {G : G0} {X : Cx} {W : Addr → Prop} {as : List Addr} {H : Hp}
theorem key_inj : ∀ {a b : Key}, keyD a = keyD b → a = b
  | .inl _, .inl _, e => by cases e; rfl
  | .inr _, .inr _, e => by cases e; rfl
  | .inl _, .inr _, e => by cases e
  | .inr _, .inl _, e => by cases e
theorem tup_not1 (l : List D) : (D.tup l).isKey1 = false := rfl
theorem RepK.inv {kvs : List (Key × V)} {p : D × D} {l : List (D × D)} (r : RepK G W as H kvs (p :: l)) : ∃ k v xs, kvs = (k, v) :: xs ∧ p.1 = keyD k ∧ Rep G W as H v p.2 ∧ RepK G W as H xs l := by
  cases r with
  | cons a b => exact ⟨_, _, _, rfl, rfl, a, b⟩
theorem RepT.inv {kvs : List (List Key × V)} {p : D × D} {l : List (D × D)} (r : RepT G W as H kvs (p :: l)) : ∃ k v xs, kvs = (k, v) :: xs ∧ p.1 = .tup (k.map keyD) ∧ Rep G W as H v p.2 ∧ RepT G W as H xs l := by
  cases r with
  | cons a b => exact ⟨_, _, _, rfl, rfl, a, b⟩
/-- two dicts of the same data: each entry has its like -/
theorem dct_hits {A : Around} {s : Shared} {pins : List (Addr × Obj)} {σ : St} (I : Inv X pins σ H s) (hK : X.K = G.K) (hu : A.units + 64 < cLine) (vc : List (Key × Value)) : ∀ {l : List (D × D)} {ks ls : List (Key × V)} {va vb : List (Key × Value)},
    RepK G W as H ks l → RepK G W as H ls l → KV ks va → KV ls vb → (l.all fun p => p.1.isKey1 && shp p.2) = true → (∀ k v, (k, v) ∈ vb → valueAt vc k = some v) → PySem.W.KeqHits A s vc va true := by
  intro l
  induction l with
  | nil =>
    intro ks ls va vb r1 r2 a1 a2 _ hc
    cases r1; cases a1; exact .nil
  | cons p l ih =>
    intro ks ls va vb r1 r2 a1 a2 hall hc
    rw [List.all_cons, Bool.and_eq_true] at hall
    obtain ⟨k, v, xs, rfl, e1, q1, r3⟩ := r1.inv
    obtain ⟨k', v', ys, rfl, e2, q2, r4⟩ := r2.inv
    obtain rfl := key_inj (e1.symm.trans e2)
    cases a1 with
    | @cons _ pa _ _ h1 t1 =>
      cases a2 with
      | @cons _ pb _ _ h2 t2 =>
        obtain ⟨ka, ua⟩ := pa
        obtain ⟨kb, ub⟩ := pb
        obtain ⟨z1, w1⟩ := h1
        obtain ⟨z2, w2⟩ := h2
        simp only at z1 z2 w1 w2
        subst z1 z2
        have hs : shp p.2 = true := (Bool.and_eq_true_iff.mp hall.1).2
        unfold shp at hs
        split at hs
        · rename_i d ed
          obtain ⟨as1, ra⟩ := Dp.reads I d v ua (by rw [hK]; exact Rep.dp _ _ _ q1 ed) w1
          obtain ⟨as2, rb⟩ := Dp.reads I d v' ub (by rw [hK]; exact Rep.dp _ _ _ q2 ed) w2
          have hc2 := SeqAt.canLay_of_shaped hs
          have ee := SeqAt.eqAt_reads d d A s ua ub _ _ ra rb hc2 hc2 (SeqAt.room_of_shaped hs hu)
          rw [SeqAt.eqv_refl d hc2] at ee
          exact .hit (e := true) (b := true) (hc _ _ List.mem_cons_self) ee (ih r3 r4 t1 t2 hall.2 fun k v hm => hc k v (List.mem_cons_of_mem _ hm))
        · cases hs
theorem valueAt_mem {vb : List (Key × Value)} (nd : (vb.map (·.1)).Nodup) : ∀ k v, (k, v) ∈ vb → valueAt vb k = some v := by
  induction vb with
  | nil => intro k v h; cases h
  | cons p r ih =>
    intro k v h
    rw [List.map_cons, List.nodup_cons] at nd
    rcases List.mem_cons.mp h with e | h
    · subst e; simp [valueAt]
    · have hne : p.1 ≠ k := fun z => nd.1 (by rw [z]; exact List.mem_map.mpr ⟨(k, v), h, rfl⟩)
      have := ih nd.2 k v h
      simpa [valueAt, List.find?_cons, hne] using this
/-- a dict's reading -/
theorem RepC.dct {v : V} {l : List (D × D)} (h : RepC G W as H v (.dct l)) : ∃ a, v = .ref a ∧ ((∃ kvs, H a = some (.dK kvs) ∧ RepK G W as H kvs l) ∨ ∃ kvs, H a = some (.dT kvs) ∧ RepT G W as H kvs l) := by
  cases h with
  | rep h =>
    cases h with
    | dctK e n r => exact ⟨_, rfl, .inl ⟨_, e, r⟩⟩
    | dctT e n r => exact ⟨_, rfl, .inr ⟨_, e, r⟩⟩
  | cont h =>
    cases h with
    | dctK e r => exact ⟨_, rfl, .inl ⟨_, e, r⟩⟩
    | dctT e r => exact ⟨_, rfl, .inr ⟨_, e, r⟩⟩
/-- a dict with plain keys, in the model -/
theorem RepC.dctOf {s : Shared} {pins : List (Addr × Obj)} {σ : St} (I : Inv X pins σ H s) {v : V} {l : List (D × D)} (h : RepC G W as H v (.dct l)) (hk : (l.all fun p => p.1.isKey1) = true) :
    ∃ a ks vs, v = .ref a ∧ (a == sysModules) = false ∧ RepK G W as H ks l ∧ KV ks vs ∧ s.heap.DictOf (mixKind X.prog X.w) a vs := by
  obtain ⟨a, rfl, ⟨kvs, e, r⟩ | ⟨kvs, e, r⟩⟩ := h.dct
  · obtain ⟨_, ya, va, wa, da⟩ := (show ObjOk X.prog X.w H s.heap a (.dK kvs) from I.hok a _ e)
    exact ⟨a, kvs, va, rfl, ya, r, wa, da⟩
  · cases l with
    | nil =>
      cases r
      obtain ⟨_, ya, xs, hp, o, es, ep, h1, h2, h3, h4, _⟩ := (show ObjOk X.prog X.w H s.heap a (.dT []) from I.hok a _ e)
      cases hp
      have he : es = #[] := by
        apply Array.toList_inj.mp
        simpa using h4
      subst he
      exact ⟨a, [], [], rfl, ya, .nil, .nil, o, #[], ep, h1, h2, h3, fun e he => absurd he (by simp), .nil, List.nodup_nil⟩
    | cons p l =>
      obtain ⟨k, v, xs, _, e1, _⟩ := r.inv
      rw [List.all_cons, Bool.and_eq_true, e1] at hk
      cases hk.1
theorem opR_eqne {op : CmpOp} {f : Bool → Bool} (hK : X.K = G.K) (hu : X.A.units + 65 < cLine)
    (h1 : ∀ pins s σ H x y v u Q, Inv X pins σ H s → RelV x v → RelV y u → (∃ d e, Dp X.K H x d ∧ Dp X.K H y e ∧ SeqAt.shaped d = true ∧ SeqAt.shaped e = true ∧ Q (.bl (f (PyData.eqv d e))) H) → wpAny (model X.prog X.w) X.A (compareOp op v u) (EP X pins σ Q) X.xe s)
    (h2 : ∀ {s : Shared} {a b : Addr} {ka kb : List (Key × Value)} {Q : Value → Shared → Prop}, (a == sysModules) = false → (b == sysModules) = false → s.heap.DictOf (mixKind X.prog X.w) a ka → s.heap.DictOf (mixKind X.prog X.w) b kb →
      (ka.length = kb.length → PySem.W.KeqHits X.A.in1 s kb ka true) → Q (.bool (f (ka.length == kb.length && true))) s → wpAny (model X.prog X.w) X.A (compareOp op (.ref a) (.ref b)) Q X.xe s)
    (h3 : ∀ {s : Shared} {x y : Str} {t u : Tok} {Q : Value → Shared → Prop}, Q (.bool (f (x == y))) s → wpAny (model X.prog X.w) X.A (compareOp op (.str x t) (.str y u)) Q X.xe s) :
    OpR X (compareOp op) (rCp G fun a b => (eqD a b).map f) := by
  intro pins s σ H x y v u Q I rx ry ⟨W, as, dx, dy, b, hx, hy, e, q⟩
  have e : (eqD dx dy).map f = some b := e
  cases e1 : eqD dx dy with
  | none => rw [e1] at e; cases e
  | some c =>
    rw [e1] at e; cases e
    rcases eqD_inv e1 with ⟨x0, y0, rfl, rfl, rfl⟩ | ⟨p, p', e2, e3, s1, s2, rfl⟩ | ⟨k, l, rfl, rfl, hb, hall, rfl⟩
    · obtain rfl := Rep.str_inv hx
      obtain rfl := Rep.str_inv hy
      obtain ⟨t, rfl⟩ := rx
      obtain ⟨t', rfl⟩ := ry
      exact h3 (fin_bl I q rfl)
    · exact h1 pins s σ H x y v u Q I rx ry ⟨p, p', by rw [hK]; exact hx.dp e2, by rw [hK]; exact hy.dp e3, s1, s2, q⟩
    · obtain rfl := D.eq_ofK _ _ hb
      have hk : (k.all fun p => p.1.isKey1) = true := List.all_eq_true.mpr fun z hz => (Bool.and_eq_true_iff.mp (List.all_eq_true.mp hall z hz)).1
      obtain ⟨a, ks, va, rfl, ya, ra, wa, da⟩ := hx.dctOf I hk
      obtain ⟨b, ls, vb, rfl, yb, rb, wb, db⟩ := hy.dctOf I hk
      obtain rfl : v = Value.ref a := rx
      obtain rfl : u = Value.ref b := ry
      have hl : va.length = vb.length := by rw [← wa.length, ← wb.length, ra.length, rb.length]
      have nd : (vb.map (·.1)).Nodup := let ⟨_, _, _, _, _, _, _, _, n⟩ := db; n
      refine h2 ya yb da db (fun _ => dct_hits I hK (by show X.A.units + 1 + 64 < cLine; omega) vb ra rb wa wb hall (valueAt_mem nd)) ?_
      exact fin_bl I q (by simp [hl])
theorem opR_eq (hK : X.K = G.K) (hu : X.A.units + 65 < cLine) : OpR X (compareOp .Eq) (rCp G (cmpop .eq)) := by
  have h := opR_eqne (G := G) (f := id) (op := .Eq) hK hu (fun pins s σ H x y v u Q I rx ry h => op_eqD (by omega) pins s σ H x y v u Q I rx ry h)
    (fun ya yb da db hits h => PySem.W.keq_eq ya yb da db (by omega) hits h) (fun h => PyProof.Rows.eq_str h)
  intro pins s σ H x y v u Q I rx ry ⟨W, as, dx, dy, b, hx, hy, e, q⟩
  exact h pins s σ H x y v u Q I rx ry ⟨W, as, dx, dy, b, hx, hy, by show (eqD dx dy).map id = _; rw [Option.map_id]; exact e, q⟩
theorem opR_ne (hK : X.K = G.K) (hu : X.A.units + 65 < cLine) : OpR X (compareOp .NotEq) (rCp G (cmpop .ne)) := by
  exact opR_eqne (G := G) (f := fun c => !c) (op := .NotEq) hK hu (fun pins s σ H x y v u Q I rx ry h => op_neD (by omega) pins s σ H x y v u Q I rx ry h)
    (fun ya yb da db hits h => PySem.W.keq_ne ya yb da db (by omega) hits h) (fun h => PyProof.Rows.ne_str h)
end
end Fw
set_option linter.all false
set_option Elab.async false
set_option maxRecDepth 100000
/-! Membership, subscripts, slices. -/
namespace Fw
open PySem PySem.Spec L2
open PyProof.Rows hiding St
section
variable {G : G0} {X : Cx} {W : Addr → Prop} {as : List Addr} {H : Hp} {pins : List (Addr × Obj)} {σ : St} {s : Shared} {a : Addr} {v : V} {l : List (D × D)}
/-! ### dicts by their keys -/
theorem retag_KT (I : Inv X pins σ H s) (e : H a = some (.dK [])) : Inv X pins σ (upd H a (.dT [])) s := by
  obtain ⟨_, ya, va, wa, o, es, ep, h1, h2, h3, h4, h5, _⟩ := dk_of I.hok e
  have I' := I.write (x := a) (e := a) (o := .dT []) (h' := s.heap) (t' := s.toks) (by rw [e]; exact True.intro) (.inl rfl) (fun _ _ _ h => h) ⟨o, h1⟩
  cases wa
  have h5' : es = #[] := by
    apply Array.toList_inj.mp
    cases q : es.toList with
    | nil => rfl
    | cons p r => rw [q] at h5; cases h5
  subst h5'
  exact I' ⟨Nat.zero_le _, ya, [], .nil, o, #[], ep, h1, h2, h3, rfl, List.nodup_nil⟩
theorem retag_TK (I : Inv X pins σ H s) (e : H a = some (.dT [])) : Inv X pins σ (upd H a (.dK [])) s := by
  obtain ⟨_, ya, xs, hp, o, es, ep, h1, h2, h3, h4, h5⟩ := (show ObjOk X.prog X.w H s.heap a (.dT []) from I.hok a _ e)
  cases hp
  have he : es = #[] := by
    apply Array.toList_inj.mp
    simpa using h4
  subst he
  exact I.write (x := a) (e := a) (o := .dK []) (h' := s.heap) (t' := s.toks) (by rw [e]; exact True.intro) (.inl rfl) (fun _ _ _ h => h) ⟨o, h1⟩
    ⟨Nat.zero_le _, ya, [], .nil, o, #[], ep, h1, h2, h3, fun e he => absurd he (by simp), .nil, List.nodup_nil⟩
theorem upd_back {o u : HO} (e : H a = some o) : upd (upd H a u) a o = H := by
  rw [upd_upd]
  funext b
  unfold upd
  by_cases h : b = a
  · rw [if_pos h, h, e]
  · rw [if_neg h]
/-- the dict with plain keys, tagged so -/
theorem RepC.asK (I : Inv X pins σ H s) (h : RepC G W as H v (.dct l)) (hk : (l.all fun p => p.1.isKey1) = true) :
    ∃ a ks H1, v = .ref a ∧ Inv X pins σ H1 s ∧ H1 a = some (.dK ks) ∧ RepK G W as H ks l ∧ (∀ s', Inv X pins σ H1 s' → Inv X pins σ H s') ∧ ∀ b, b ≠ a → H1 b = H b := by
  obtain ⟨a, rfl, ⟨kvs, e, r⟩ | ⟨kvs, e, r⟩⟩ := h.dct
  · exact ⟨a, kvs, H, rfl, I, e, r, fun _ h => h, fun _ _ => rfl⟩
  · cases l with
    | nil =>
      cases r
      refine ⟨a, [], upd H a (.dK []), rfl, retag_TK I e, upd_same, .nil, fun s' I' => ?_, fun b hb => upd_ne hb⟩
      have := retag_KT I' upd_same
      rwa [upd_back e] at this
    | cons p l =>
      obtain ⟨k, v, xs, _, e1, _⟩ := r.inv
      rw [List.all_cons, Bool.and_eq_true, e1] at hk
      cases hk.1
theorem RepC.asT (I : Inv X pins σ H s) (h : RepC G W as H v (.dct l)) (hk : (l.all fun p => !p.1.isKey1) = true) :
    ∃ a ks H1, v = .ref a ∧ Inv X pins σ H1 s ∧ H1 a = some (.dT ks) ∧ RepT G W as H ks l ∧ (∀ s', Inv X pins σ H1 s' → Inv X pins σ H s') ∧ (∀ b, b ≠ a → H1 b = H b) ∧ ∀ ys, H a ≠ some (.tup ys) := by
  obtain ⟨a, rfl, ⟨kvs, e, r⟩ | ⟨kvs, e, r⟩⟩ := h.dct
  · cases l with
    | nil =>
      cases r
      refine ⟨a, [], upd H a (.dT []), rfl, retag_KT I e, upd_same, .nil, fun s' I' => ?_, fun b hb => upd_ne hb, fun ys => by rw [e]; simp⟩
      have := retag_TK I' upd_same
      rwa [upd_back e] at this
    | cons p l =>
      obtain ⟨k, v, xs, _, e1, _⟩ := r.inv
      rw [List.all_cons, Bool.and_eq_true, e1] at hk
      cases k <;> cases hk.1
  · exact ⟨a, kvs, H, rfl, I, e, r, fun _ h => h, fun _ _ => rfl, fun ys => by rw [e]; simp⟩
theorem beq_key : ∀ a b : Key, D.beq (keyD a) (keyD b) = decide (a = b)
  | .inl i, .inl j => by
    rw [Bool.eq_iff_iff]
    simp [keyD, D.beq]
  | .inl i, .inr x => by simp [keyD, D.beq]
  | .inr x, .inl i => by simp [keyD, D.beq]
  | .inr x, .inr y => by
    rw [Bool.eq_iff_iff]
    simp [keyD, D.beq]
theorem beq_keys : ∀ a b : List Key, D.beqL (a.map keyD) (b.map keyD) = decide (a = b)
  | [], [] => rfl
  | [], _ :: _ => by simp [D.beqL]
  | _ :: _, [] => by simp [D.beqL]
  | x :: a, y :: b => by
    rw [List.map_cons, List.map_cons, D.beqL, beq_key, beq_keys a b, Bool.eq_iff_iff]
    simp
theorem key1_inv {k : D} (h : k.isKey1 = true) : ∃ z : Key, k = keyD z := by
  cases k <;> first | exact ⟨.inl _, rfl⟩ | exact ⟨.inr _, rfl⟩ | cases h
theorem keys_inv : ∀ {l : List D}, l.all D.isKey1 = true → ∃ zs : List Key, l = zs.map keyD
  | [], _ => ⟨[], rfl⟩
  | d :: l, h => by
    rw [List.all_cons, Bool.and_eq_true] at h
    obtain ⟨z, rfl⟩ := key1_inv h.1
    obtain ⟨zs, rfl⟩ := keys_inv h.2
    exact ⟨z :: zs, rfl⟩
theorem RepC.key {k : Key} (h : RepC G W as H v (keyD k)) : v = kV k := by
  cases k with
  | inl i => exact Rep.int_inv h
  | inr x => exact Rep.str_inv h
theorem Rep.key {k : Key} (h : Rep G W as H v (keyD k)) : v = kV k := RepC.key (.rep h)
theorem RepL.keys : ∀ {ks : List Key} {xs : List V}, RepL G W as H xs (ks.map keyD) → xs = ks.map kV
  | [], _, h => by cases h; rfl
  | k :: ks, _, h => by
    cases h with
    | cons a b => rw [Rep.key a, RepL.keys b]; rfl
/-- what the dict holds, by its data -/
theorem RepK.look {ks : List (Key × V)} {l : List (D × D)} (r : RepK G W as H ks l) (k : Key) : (∃ d v, look (keyD k) l = some d ∧ valV ks k = some v ∧ Rep G W as H v d) ∨ (Fw.look (keyD k) l = none ∧ valV ks k = none) := by
  induction l generalizing ks with
  | nil => cases r; exact .inr ⟨rfl, rfl⟩
  | cons p l ih =>
    obtain ⟨c, v, xs, rfl, e, q, r'⟩ := r.inv
    obtain ⟨d, u⟩ := p
    have e : d = keyD c := e
    subst e
    unfold Fw.look
    rw [beq_key]
    by_cases h : c = k
    · rw [if_pos (by simpa using h), valV_pos h]
      exact .inl ⟨_, _, rfl, rfl, q⟩
    · rw [if_neg (by simpa using h), valV_neg h]
      exact ih r'
theorem RepT.look {ks : List (List Key × V)} {l : List (D × D)} (r : RepT G W as H ks l) (k : List Key) : (∃ d v, look (.tup (k.map keyD)) l = some d ∧ valV ks k = some v ∧ Rep G W as H v d) ∨ (Fw.look (.tup (k.map keyD)) l = none ∧ valV ks k = none) := by
  induction l generalizing ks with
  | nil => cases r; exact .inr ⟨rfl, rfl⟩
  | cons p l ih =>
    obtain ⟨c, v, xs, rfl, e, q, r'⟩ := r.inv
    obtain ⟨d, u⟩ := p
    have e : d = .tup (c.map keyD) := e
    subst e
    unfold Fw.look
    rw [D.beq, beq_keys]
    by_cases h : c = k
    · rw [if_pos (by simpa using h), valV_pos h]
      exact .inl ⟨_, _, rfl, rfl, q⟩
    · rw [if_neg (by simpa using h), valV_neg h]
      exact ih r'
/-- asking a dict -/
theorem RepC.dget {x : V} {k : D} (I : Inv X pins σ H s) (h : RepC G W as H v (.dct l)) (hx : RepC G W as H x k) (hf : fits k l = true) :
    ∃ a o H1, v = .ref a ∧ Inv X pins σ H1 s ∧ (∀ s', Inv X pins σ H1 s' → Inv X pins σ H s') ∧ DGet H1 a x o ∧ ((∃ d v, look k l = some d ∧ o = some v ∧ Rep G W as H v d) ∨ (look k l = none ∧ o = none)) := by
  unfold fits at hf
  by_cases hk : k.isKey1 = true
  · rw [if_pos hk] at hf
    obtain ⟨z, rfl⟩ := key1_inv hk
    obtain rfl := hx.key
    obtain ⟨a, ks, H1, rfl, I1, e1, r, bk, _⟩ := h.asK I hf
    refine ⟨a, _, H1, rfl, I1, bk, .k e1, ?_⟩
    rcases r.look z with ⟨d, v, h1, h2, h3⟩ | ⟨h1, h2⟩
    · exact .inl ⟨d, v, h1, h2, h3⟩
    · exact .inr ⟨h1, h2⟩
  · rw [if_neg hk, Bool.and_eq_true] at hf
    obtain ⟨a, ks, H1, rfl, I1, e1, r, bk, ne, nt⟩ := h.asT I hf.2
    have ⟨ts, et⟩ : ∃ ts, k = .tup ts := by
      cases k <;> first | exact ⟨_, rfl⟩ | exact absurd rfl hk | cases hf.1
    subst et
    obtain ⟨zs, rfl⟩ := keys_inv (l := ts) hf.1
    obtain ⟨b, xs, rfl, eb, _, rb⟩ := Rep.tup_inv hx
    obtain rfl := rb.keys
    have hab : b ≠ a := fun z => nt _ (z ▸ eb)
    refine ⟨a, _, H1, rfl, I1, bk, .t e1 (by rw [ne b hab]; exact eb), ?_⟩
    rcases r.look zs with ⟨d, v, h1, h2, h3⟩ | ⟨h1, h2⟩
    · exact .inl ⟨d, v, h1, h2, h3⟩
    · exact .inr ⟨h1, h2⟩

theorem opR_in (hK : X.K = G.K) (hu : X.A.units + 65 < cLine) : OpR X (compareOp .In) (rCp G (cmpop .isIn)) := by
  intro pins s σ H x y v u Q I rx ry ⟨W, as, dx, dy, b, hx, hy, e, q⟩
  cases dy with
  | lst l =>
    have e : memD dx l = some b := by cases dx <;> exact e
    obtain ⟨p, ps, e1, e2, s1, s2, rfl⟩ := memD_inv e
    obtain ⟨as1, r1⟩ := Dp.reads I p x v (by rw [hK]; exact hx.dp e1) rx
    obtain ⟨as2, r2⟩ := Dp.reads I (.list ps) y u (by rw [hK]; exact hy.dp (by show (D.pyL l).map PyData.list = _; rw [e2]; rfl)) ry
    exact SeqAt.in_list_reads r2 r1 (SeqAt.canLay_of_shaped s2) (SeqAt.canLay_of_shaped s1) (room_in_shaped s1 hu) ⟨.bl _, H, I, rfl, q⟩
  | tup l =>
    have e : memD dx l = some b := by cases dx <;> exact e
    obtain ⟨p, ps, e1, e2, s1, s2, rfl⟩ := memD_inv e
    obtain ⟨as1, r1⟩ := Dp.reads I p x v (by rw [hK]; exact hx.dp e1) rx
    obtain ⟨as2, r2⟩ := Dp.reads I (.tuple ps) y u (by rw [hK]; exact hy.dp (by show (D.pyL l).map PyData.tuple = _; rw [e2]; rfl)) ry
    exact SeqAt.in_tuple_reads r2 r1 (SeqAt.canLay_of_shaped s2) (SeqAt.canLay_of_shaped s1) (room_in_shaped s1 hu) ⟨.bl _, H, I, rfl, q⟩
  | kt l =>
    have e : memD dx l = some b := by cases dx <;> exact e
    obtain ⟨p, ps, e1, e2, s1, s2, rfl⟩ := memD_inv e
    obtain ⟨as1, r1⟩ := Dp.reads I p x v (by rw [hK]; exact hx.dp e1) rx
    obtain ⟨as2, r2⟩ := Dp.reads I (.tuple ps) y u (by rw [hK]; exact hy.dp (by show (D.pyL l).map PyData.tuple = _; rw [e2]; rfl)) ry
    exact SeqAt.in_tuple_reads r2 r1 (SeqAt.canLay_of_shaped s2) (SeqAt.canLay_of_shaped s1) (room_in_shaped s1 hu) ⟨.bl _, H, I, rfl, q⟩
  | dct l =>
    have e : (if fits dx l then some (look dx l).isSome else none) = some b := by cases dx <;> exact e
    by_cases hf : fits dx l = true
    · rw [if_pos hf] at e
      cases e
      obtain ⟨a, o, H1, rfl, I1, bk, g, ho⟩ := hy.dget I hx hf
      obtain rfl : u = Value.ref a := ry
      refine d_in (by omega) I1 g rx fun s3 I3 => ⟨.bl _, H, bk s3 I3, rfl, ?_⟩
      rcases ho with ⟨d, z, h1, rfl, _⟩ | ⟨h1, rfl⟩ <;> rw [h1] at q <;> exact q
    · rw [if_neg hf] at e; cases e
  | kd l =>
    cases hy with
    | rep h => cases h
    | cont h => cases h
  | _ => cases dx <;> cases e
theorem opR_notIn (hK : X.K = G.K) (hu : X.A.units + 65 < cLine) : OpR X (compareOp .NotIn) (rCp G (cmpop .notIn)) := by
  intro pins s σ H x y v u Q I rx ry ⟨W, as, dx, dy, b, hx, hy, e, q⟩
  cases dy with
  | lst l =>
    have e : (memD dx l).map (!·) = some b := by cases dx <;> exact e
    cases em : memD dx l with
    | none => rw [em] at e; cases e
    | some c =>
      rw [em] at e; cases e
      obtain ⟨p, ps, e1, e2, s1, s2, rfl⟩ := memD_inv em
      obtain ⟨as1, r1⟩ := Dp.reads I p x v (by rw [hK]; exact hx.dp e1) rx
      obtain ⟨as2, r2⟩ := Dp.reads I (.list ps) y u (by rw [hK]; exact hy.dp (by show (D.pyL l).map PyData.list = _; rw [e2]; rfl)) ry
      exact SeqAt.notIn_list_reads r2 r1 (SeqAt.canLay_of_shaped s2) (SeqAt.canLay_of_shaped s1) (room_in_shaped s1 hu) ⟨.bl _, H, I, rfl, q⟩
  | tup l =>
    have e : (memD dx l).map (!·) = some b := by cases dx <;> exact e
    cases em : memD dx l with
    | none => rw [em] at e; cases e
    | some c =>
      rw [em] at e; cases e
      obtain ⟨p, ps, e1, e2, s1, s2, rfl⟩ := memD_inv em
      obtain ⟨as1, r1⟩ := Dp.reads I p x v (by rw [hK]; exact hx.dp e1) rx
      obtain ⟨as2, r2⟩ := Dp.reads I (.tuple ps) y u (by rw [hK]; exact hy.dp (by show (D.pyL l).map PyData.tuple = _; rw [e2]; rfl)) ry
      exact SeqAt.notIn_tuple_reads r2 r1 (SeqAt.canLay_of_shaped s2) (SeqAt.canLay_of_shaped s1) (room_in_shaped s1 hu) ⟨.bl _, H, I, rfl, q⟩
  | kt l =>
    have e : (memD dx l).map (!·) = some b := by cases dx <;> exact e
    cases em : memD dx l with
    | none => rw [em] at e; cases e
    | some c =>
      rw [em] at e; cases e
      obtain ⟨p, ps, e1, e2, s1, s2, rfl⟩ := memD_inv em
      obtain ⟨as1, r1⟩ := Dp.reads I p x v (by rw [hK]; exact hx.dp e1) rx
      obtain ⟨as2, r2⟩ := Dp.reads I (.tuple ps) y u (by rw [hK]; exact hy.dp (by show (D.pyL l).map PyData.tuple = _; rw [e2]; rfl)) ry
      exact SeqAt.notIn_tuple_reads r2 r1 (SeqAt.canLay_of_shaped s2) (SeqAt.canLay_of_shaped s1) (room_in_shaped s1 hu) ⟨.bl _, H, I, rfl, q⟩
  | dct l =>
    have e : (if fits dx l then some (!(look dx l).isSome) else none) = some b := by cases dx <;> exact e
    by_cases hf : fits dx l = true
    · rw [if_pos hf] at e
      cases e
      obtain ⟨a, o, H1, rfl, I1, bk, g, ho⟩ := hy.dget I hx hf
      obtain rfl : u = Value.ref a := ry
      refine d_notIn (by omega) I1 g rx fun s3 I3 => ⟨.bl _, H, bk s3 I3, rfl, ?_⟩
      rcases ho with ⟨d, z, h1, rfl, _⟩ | ⟨h1, rfl⟩ <;> rw [h1] at q <;> exact q
    · rw [if_neg hf] at e; cases e
  | kd l =>
    cases hy with
    | rep h => cases h
    | cont h => cases h
  | _ => cases dx <;> cases e
theorem opR_cmp (hK : X.K = G.K) (hu : X.A.units + 65 < cLine) : ∀ op : CmpOp, OpR X (compareOp op) (rCp G (cmpop (cpOf op)))
  | .Eq => opR_eq hK hu
  | .NotEq => opR_ne hK hu
  | .Lt => opR_lt
  | .LtE => opR_le
  | .Gt => opR_gt
  | .GtE => opR_ge
  | .Is => opR_is
  | .IsNot => opR_isNot
  | .In => opR_in hK hu
  | .NotIn => opR_notIn hK hu

/-! ### subscripts -/
/-- a subscript of core data -/
def rSub (G : G0) : R2 := fun x y H Q => ∃ (W : Addr → Prop) (as : List Addr) (dx dy d : D), RepC G W as H x dx ∧ Rep G W as H y dy ∧ subD dx dy = some d ∧ ∀ v, Rep G W as H v d → Q v H
theorem ix_of (hK : X.K = G.K) (hu : X.A.units + 1 < cLine) : IxR X (rSub G) := by
  intro value slice pins s σ H x y v u Q I rx ry ⟨W, as, dx, dy, d, hx, hy, e, q⟩ hs
  cases dx with
  | lst l =>
    cases dy <;> try cases e
    rename_i i
    obtain ⟨a, xs, rfl, ea, r⟩ := Rep.lst_inv hx
    obtain rfl := Rep.int_inv (.rep hy)
    have e : atI l i = some d := e
    obtain ⟨j, _, h2, h3, _⟩ := atI_get e
    obtain ⟨z, hz, rz⟩ := r.get h2
    have e' : atI xs i = some z := by
      have e1 := e
      unfold atI at e1 ⊢
      rw [r.length]
      cases q1 : ixN l.length i with
      | none => rw [q1] at e1; cases e1
      | some k =>
        have := (ixN_seq q1).1
        rw [show seqIndex? i l.length = some j from ‹_›] at this
        cases this
        exact hz
    exact ix_list value slice pins s σ H _ _ v u Q I rx ry ⟨a, xs, i, z, rfl, rfl, .of ea, e', q z rz⟩ hs
  | tup l =>
    cases dy <;> try cases e
    rename_i i
    obtain ⟨a, xs, rfl, ea, _, r⟩ := Rep.tup_inv hx
    obtain rfl := Rep.int_inv (.rep hy)
    have e : atI l i = some d := e
    obtain ⟨j, _, h2, h3, _⟩ := atI_get e
    obtain ⟨z, hz, rz⟩ := r.get h2
    have e' : atI xs i = some z := by
      have e1 := e
      unfold atI at e1 ⊢
      rw [r.length]
      cases q1 : ixN l.length i with
      | none => rw [q1] at e1; cases e1
      | some k =>
        have := (ixN_seq q1).1
        rw [show seqIndex? i l.length = some j from ‹_›] at this
        cases this
        exact hz
    exact ix_tup value slice pins s σ H _ _ v u Q I rx ry ⟨a, xs, i, z, rfl, rfl, .of ea, e', q z rz⟩ hs
  | kt l =>
    cases dy <;> try cases e
    rename_i i
    obtain ⟨a, xs, rfl, ea, r⟩ := Rep.kt_inv hx
    obtain rfl := Rep.int_inv (.rep hy)
    have e : atI l i = some d := e
    obtain ⟨j, _, h2, h3, _⟩ := atI_get e
    obtain ⟨z, hz, rz⟩ := r.get h2
    have e' : atI xs i = some z := by
      have e1 := e
      unfold atI at e1 ⊢
      rw [r.length]
      cases q1 : ixN l.length i with
      | none => rw [q1] at e1; cases e1
      | some k =>
        have := (ixN_seq q1).1
        rw [show seqIndex? i l.length = some j from ‹_›] at this
        cases this
        exact hz
    exact ix_tup value slice pins s σ H _ _ v u Q I rx ry ⟨a, xs, i, z, rfl, rfl, by rw [hK]; exact ea H, e', q z rz⟩ hs
  | kd l =>
    cases hx with
    | rep h => cases h
    | cont h => cases h
  | dct l =>
    have e : (if fits dy l then look dy l else none) = some d := by cases dy <;> exact e
    by_cases hf : fits dy l = true
    · rw [if_pos hf] at e
      obtain ⟨a, o, H1, rfl, I1, bk, g, ho⟩ := hx.dget I (.rep hy) hf
      rcases ho with ⟨d', z, h1, rfl, rz⟩ | ⟨h1, rfl⟩
      · rw [e] at h1; cases h1
        obtain rfl : v = Value.ref a := rx
        exact tail_any (dict_typeIs I1 g) PySem.F.slot_dict_getitem.lookup (d_getItem hu I1 g ry fun w' s3 I3 rw' => ⟨z, H, bk s3 I3, rw', q z rz⟩) hs
      · rw [e] at h1; cases h1
    · rw [if_neg hf] at e; cases e
  | _ => cases e

/-! ### slices -/
theorem endOf_eq (n d : Nat) (o : Option Int) : endOf n d o = HT.sIx n d o := by
  cases o with
  | none => rfl
  | some i =>
    show (if 0 ≤ i then min i.toNat n else (i + n).toNat) = (if i < 0 then (i + (n : Int)).toNat else min i.toNat n)
    by_cases h : 0 ≤ i
    · rw [if_pos h, if_neg (by omega)]
    · rw [if_neg h, if_pos (by omega)]
theorem RepL.cut {xs : List V} {l : List D} (r : RepL G W as H xs l) (lo hi : Option Int) : RepL G W as H (cutV xs lo hi) (Fw.cut l lo hi) := by
  unfold cutV Fw.cut
  rw [endOf_eq, endOf_eq, r.length]
  exact (r.drop _).take _
/-- a slice of core data -/
def rSlc (G : G0) : V → Option Int → Option Int → Hp → VK → Prop := fun x lo hi H Q => ∃ (W : Addr → Prop) (as : List Addr) (dx : D) (r : Bool × D), RepC G W as H x dx ∧ sliceD dx lo hi = some r ∧ (∀ a, W a → H a ≠ none) ∧ ∀ v H', NewV G W as H r v H' → Q v H'
theorem sl_of (hK : X.K = G.K) : SlR X (rSlc G) := by
  intro pins s σ H x v vl vu lo hi sl Q I rx hs pl pu ⟨W, as, dx, r, hx, e, hw, q⟩
  cases dx <;> simp only [sliceD] at e <;> try cases e
  · rename_i l
    obtain ⟨a, xs, rfl, ea, na, r⟩ := Rep.tup_inv hx
    refine sl_tupA pins s σ H _ v vl vu lo hi sl Q I rx hs pl pu ⟨a, xs, rfl, .of ea, fun hz => ?_, fun _ p n => q _ _ (.tup hw n (r.cut lo hi))⟩
    refine q _ _ (.same (.tup ea na ?_))
    have := r.cut lo hi
    unfold cutV at this
    rw [hz.1, hz.2] at this
    simpa using this
  · rename_i l
    obtain ⟨a, xs, rfl, ea, r⟩ := Rep.lst_inv hx
    exact sl_list pins s σ H _ v vl vu lo hi sl Q I rx hs pl pu ⟨a, xs, rfl, .of ea, fun p n => q _ _ (.lst n (r.cut lo hi))⟩
  · rename_i l
    obtain ⟨a, xs, rfl, ea, r⟩ := Rep.scr_inv hx
    exact sl_list pins s σ H _ v vl vu lo hi sl Q I rx hs pl pu ⟨a, xs, rfl, hK ▸ ea, fun p n => q _ _ (.lst n (r.cut lo hi))⟩
end
end Fw
set_option linter.all false
set_option Elab.async false
set_option maxRecDepth 100000
/-! Expressions: names, constants, truth, conditions, comparisons, displays, subscripts. -/
namespace Fw
open PySem PySem.Spec L2
open PyProof.Rows hiding St
section
variable {G : G0} {X : Cx} {Wd : WX} {cl : Call} {a b c e : Expr} {ca cb cc : C} {pos : Pos} {x : Str} {i : Nat}
/-! ### names, constants -/
theorem o_var (hN : X.N[i]? = some x) (hv : Vis X.env.scope x) (hd : (x == ("__debug__" : Str)) = false) (hcd : (x == ("__classdict__" : Str)) = false) : PE X (.Name x pos) (TM G Wd (RO G) (readOp i)) := by
  refine PE.imp (pe_var hN hv hd hcd) fun σ H Q ⟨B, as, s, r, h⟩ => ?_
  have h' : Ans (match s.fr[i]? with | some (.val d) => .ok (.d d) s | some (.own _) => .ok (.own i) s | _ => .stk : R OV) _ _ := h
  cases q : s.fr[i]? with
  | none => rw [q] at h'; exact False.elim h'
  | some sl =>
    rw [q] at h'
    cases sl with
    | none => exact False.elim h'
    | val d =>
      obtain ⟨v, e, rv⟩ := r.val i d q
      exact ⟨v, e, h' v as H r .refl rv⟩
    | own d =>
      obtain ⟨a, e, _⟩ := r.own i d q
      exact ⟨_, e, h' _ as H r .refl e⟩
theorem s_var (hN : X.N[i]? = some x) (hv : Vis X.env.scope x) (hd : (x == ("__debug__" : Str)) = false) (hcd : (x == ("__classdict__" : Str)) = false) : PE X (.Name x pos) (TF G Wd (evF cl (.var i))) := by
  refine PE.imp (pe_var hN hv hd hcd) fun σ H Q ⟨B, as, s, r, h⟩ => ?_
  have h' : Ans (match s.fr[i]? with | some (.val d) => .ok (false, d) s | some (.own d) => .ok (false, d) { s with fr := s.fr.set i (.val d) } | _ => .stk : R (Bool × D)) _ _ := h
  cases q : s.fr[i]? with
  | none => rw [q] at h'; exact False.elim h'
  | some sl =>
    rw [q] at h'
    cases sl with
    | none => exact False.elim h'
    | val d =>
      obtain ⟨v, e, rv⟩ := r.val i d q
      exact ⟨v, e, h' v as H ⟨.refl, by rw [if_neg (by simp)]; exact ⟨r, rv⟩⟩⟩
    | own d =>
      obtain ⟨a, e, rv, r', x⟩ := r.freeze q
      exact ⟨_, e, h' _ as H ⟨x, by rw [if_neg (by simp)]; exact ⟨r', rv⟩⟩⟩
theorem PE.const {v : V} {d : D} (h : PE X e (tC v)) (hr : ∀ W as H, Rep G W as H v d) : PE X e (TF G Wd (evF cl (.lit d))) :=
  PE.imp h fun σ H Q ⟨B, as, s, r, q⟩ => q v as H ⟨.refl, by rw [if_neg (by simp)]; exact ⟨r, hr _ _ _⟩⟩
theorem s_const {k : Const} {j} {d : D} (h : constOf k = some d) : PE X (.Constant k j pos) (TF G Wd (evF cl (.lit d))) := by
  cases k <;> cases h
  · exact PE.const pe_non fun _ _ _ => .non
  · exact PE.const pe_bl fun _ _ _ => .bl _
  · exact PE.const pe_int fun _ _ _ => .int _
  · exact PE.const pe_str fun _ _ _ => .str _

/-! ### operands -/
theorem pe_opd (h : PE X e (TF G Wd (evF cl ca))) (hv : ∀ i, ca = .var i → PE X e (TM G Wd (RO G) (readOp i))) : PE X e (TM G Wd (RO G) (opd ca (evF cl ca))) := by
  by_cases hh : ∃ i, ca = .var i
  · obtain ⟨i, rfl⟩ := hh
    exact hv i rfl
  · have e1 : opd ca (evF cl ca) = (do let v ← evF cl ca; pure (.d v.2)) := by
      cases ca <;> first | rfl | exact absurd ⟨_, rfl⟩ hh
    rw [e1]
    refine PE.imp (PE.datum h) fun σ H Q ⟨B, as, s, r, q⟩ => ⟨B, as, s, r, (Ans.bind q).imp (fun v s' h w as' H' r' x' rz => h w as' H' r' x' rz) fun _ _ h => h⟩

/-! ### truth -/
/-- the test of a value -/
def tstF (cl : Call) (a : C) : M Bool := do let x ← evF cl a; lift (truthy x.2)
theorem tst_eq (h : ∀ i, ca ≠ .var i) : tst ca (evF cl ca) = tstF cl ca := by
  cases ca <;> first | rfl | exact absurd rfl (h _)
/-- a value whose truth it is -/
def RTru (G : G0) : (Addr → Prop) → List Addr → Sta → St → Hp → V → Bool → Prop := fun _ _ _ _ H v b => TruV G.K v H b
theorem tru_f (h : PE X e (TF G Wd (evF cl ca))) : PE X e (TM G Wd (RTru G) (tstF cl ca)) := by
  refine PE.imp (PE.datum h) fun σ H Q ⟨B, as, s, r, q⟩ => ⟨B, as, s, r, (Ans.bind q).imp (fun v s' h w as' H' r' x' rz => ?_) fun _ _ h => h⟩
  obtain ⟨k, e, h⟩ := Ans.lift h
  exact h w as' H' r' x' (RepC.tru (.rep rz) e)
theorem tru_o (h : PE X e (TF G Wd (evF cl ca))) (hv : ∀ i, ca = .var i → PE X e (TM G Wd (RO G) (readOp i))) : PE X e (TM G Wd (RTru G) (tst ca (evF cl ca))) := by
  by_cases hh : ∃ i, ca = .var i
  · obtain ⟨i, rfl⟩ := hh
    refine PE.imp (hv i rfl) fun σ H Q ⟨B, as, s, r, q⟩ => ⟨B, as, s, r, (Ans.bind q).imp (fun v s' h w as' H' r' x' rz => ?_) fun _ _ h => h⟩
    obtain ⟨d, cd, h⟩ := Ans.res r' rz (Ans.bind h)
    obtain ⟨k, e, h⟩ := Ans.lift h
    exact h w as' H' r' x' (cd.tru e)
  · rw [tst_eq fun i z => hh ⟨i, z⟩]
    exact tru_f h
theorem pt_tru (hK : X.K = G.K) {m : M Bool} (h : PE X e (TM G Wd (RTru G) m)) (he : ∀ whole, isTrue e X.env whole = (do let v ← whole; standAt e.pos; holding [v] (PySem.truthy v))) : PT X e (TB G Wd m) :=
  PT.imp (pt_truth h he) fun σ H Q ⟨B, as, s, r, q⟩ => ⟨B, as, s, r, q.imp (fun k s' h w as' H' r' x' rz => ⟨k, by rw [hK]; exact rz, h as' H' r' x'⟩) fun _ _ h => h⟩
theorem s_not (hK : X.K = G.K) (h : PE X a (TM G Wd (RTru G) (tst ca (evF cl ca)))) : PE X (.UnaryOp .Not a pos) (TF G Wd (evF cl (.not ca))) := by
  rw [evF_not]
  refine PE.imp (pe_notT h) fun σ H Q ⟨B, as, s, r, q⟩ => ⟨B, as, s, r, (Ans.bind q).imp (fun k s' h w as' H' r' x' rz => ⟨k, by rw [hK]; exact rz, h _ as' H' ⟨x', by rw [if_neg (by simp)]; exact ⟨r', .bl _⟩⟩⟩) fun _ _ h => h⟩
theorem t_not (h : PT X a (TB G Wd (tst ca (evF cl ca)))) : PT X (.UnaryOp .Not a pos) (TB G Wd (tstF cl (.not ca))) := by
  refine PT.imp (pt_not h) fun σ H Q ⟨B, as, s, r, q⟩ => ⟨B, as, s, r, ?_⟩
  unfold tstF at q
  rw [evF_not] at q
  exact (Ans.bind (Ans.bind q)).imp (fun k s' h as' H' r' x' => h as' H' r' x') fun _ _ h => h
/-! ### and, or -/
theorem s_and (hK : X.K = G.K) {rest : List Expr} (ha : PE X a (TF G Wd (evF cl ca))) (hb : PE X (.BoolOp .And (b :: rest) pos) (TF G Wd (evF cl cb))) : PE X (.BoolOp .And (a :: b :: rest) pos) (TF G Wd (evF cl (.and ca cb))) := by
  rw [evF_and]
  refine PE.imp (pe_andT (PE.datum ha) hb) fun σ H Q ⟨B, as, s, r, q⟩ => ⟨B, as, s, r, (Ans.bind q).imp (fun v s' h w as' H' r' x' rz => ?_) fun _ _ h => h⟩
  obtain ⟨k, e, h⟩ := Ans.lift (Ans.bind h)
  refine ⟨k, by rw [hK]; exact RepC.tru (.rep rz) e, ?_⟩
  cases k with
  | true =>
    rw [if_pos rfl] at h ⊢
    exact ⟨B, as', s', r', h.imp (fun v2 s2 h w2 as2 H2 pv => h w2 as2 H2 (pv.earlier x')) fun _ _ h => h.later x'⟩
  | false =>
    rw [if_neg (by simp)] at h ⊢
    exact h w as' H' ⟨x', by rw [if_neg (by simp)]; exact ⟨r', rz⟩⟩
theorem s_or (hK : X.K = G.K) {rest : List Expr} (ha : PE X a (TF G Wd (evF cl ca))) (hb : PE X (.BoolOp .Or (b :: rest) pos) (TF G Wd (evF cl cb))) : PE X (.BoolOp .Or (a :: b :: rest) pos) (TF G Wd (evF cl (.or ca cb))) := by
  rw [evF_or]
  refine PE.imp (pe_orT (PE.datum ha) hb) fun σ H Q ⟨B, as, s, r, q⟩ => ⟨B, as, s, r, (Ans.bind q).imp (fun v s' h w as' H' r' x' rz => ?_) fun _ _ h => h⟩
  obtain ⟨k, e, h⟩ := Ans.lift (Ans.bind h)
  refine ⟨k, by rw [hK]; exact RepC.tru (.rep rz) e, ?_⟩
  cases k with
  | true =>
    rw [if_pos rfl] at h ⊢
    exact h w as' H' ⟨x', by rw [if_neg (by simp)]; exact ⟨r', rz⟩⟩
  | false =>
    rw [if_neg (by simp)] at h ⊢
    exact ⟨B, as', s', r', h.imp (fun v2 s2 h w2 as2 H2 pv => h w2 as2 H2 (pv.earlier x')) fun _ _ h => h.later x'⟩
theorem t_and {rest : List Expr} (ha : PT X a (TB G Wd (tstF cl ca))) (hb : PW X (.BoolOp .And (b :: rest) pos) (TB G Wd (tstF cl cb))) : PW X (.BoolOp .And (a :: b :: rest) pos) (TB G Wd (tstF cl (.and ca cb))) := by
  refine ⟨fun whole pins s σ H Q I h => (pw_and ha hb).run whole pins s σ H Q I ?_⟩
  obtain ⟨B, as, s, r, q⟩ := h
  unfold tstF at q
  rw [evF_and] at q
  refine ⟨B, as, s, r, Ans.mk ((Ans.bind (Ans.bind q)).imp (fun v s' h => ?_) fun _ _ h => h)⟩
  obtain ⟨k, e, h⟩ := Ans.lift (Ans.bind h)
  rw [e]
  intro as' H' r' x'
  cases k with
  | true =>
    rw [if_pos rfl] at h ⊢
    exact ⟨B, as', s', r', Ans.mk (h.imp (fun v2 s2 h => Ans.imp h (fun k s3 h as2 H2 r2 x2 => h as2 H2 r2 (x'.trans x2)) fun _ _ h => h.later x') fun _ _ h => h.later x')⟩
  | false =>
    rw [if_neg (by simp)] at h ⊢
    obtain ⟨k', e3, h⟩ := Ans.lift (Ans.pure h)
    rw [e] at e3; cases e3
    exact h as' H' r' x'
theorem t_or {rest : List Expr} (ha : PT X a (TB G Wd (tstF cl ca))) (hb : PW X (.BoolOp .Or (b :: rest) pos) (TB G Wd (tstF cl cb))) : PW X (.BoolOp .Or (a :: b :: rest) pos) (TB G Wd (tstF cl (.or ca cb))) := by
  refine ⟨fun whole pins s σ H Q I h => (pw_or ha hb).run whole pins s σ H Q I ?_⟩
  obtain ⟨B, as, s, r, q⟩ := h
  unfold tstF at q
  rw [evF_or] at q
  refine ⟨B, as, s, r, Ans.mk ((Ans.bind (Ans.bind q)).imp (fun v s' h => ?_) fun _ _ h => h)⟩
  obtain ⟨k, e, h⟩ := Ans.lift (Ans.bind h)
  rw [e]
  intro as' H' r' x'
  cases k with
  | false =>
    rw [if_neg (by simp)] at h ⊢
    exact ⟨B, as', s', r', Ans.mk (h.imp (fun v2 s2 h => Ans.imp h (fun k s3 h as2 H2 r2 x2 => h as2 H2 r2 (x'.trans x2)) fun _ _ h => h.later x') fun _ _ h => h.later x')⟩
  | true =>
    rw [if_pos rfl] at h ⊢
    obtain ⟨k', e3, h⟩ := Ans.lift (Ans.pure h)
    rw [e] at e3; cases e3
    exact h as' H' r' x'

/-! ### conditions -/
theorem s_ite {t : M Bool} (hc : PT X c (TB G Wd t)) (ha : PE X a (TF G Wd (evF cl ca))) (hb : PE X b (TF G Wd (evF cl cb))) : PE X (.IfExp c a b pos) (TF G Wd (do let t ← t; if t then evF cl ca else evF cl cb)) :=
  PE.imp (pe_ifExp hc ha hb) fun σ H Q ⟨B, as, s, r, q⟩ => ⟨B, as, s, r, (Ans.bind q).imp (fun k s' h as' H' r' x' => by
    cases k with
    | true => rw [if_pos rfl] at h ⊢; exact ⟨B, as', s', r', h.imp (fun v2 s2 h w2 as2 H2 pv => h w2 as2 H2 (pv.earlier x')) fun _ _ h => h.later x'⟩
    | false => rw [if_neg (by simp)] at h ⊢; exact ⟨B, as', s', r', h.imp (fun v2 s2 h w2 as2 H2 pv => h w2 as2 H2 (pv.earlier x')) fun _ _ h => h.later x'⟩) fun _ _ h => h⟩
theorem pt_ite {tc ta tb : TT} (hc : PT X c tc) (ha : PT X a ta) (hb : PT X b tb) : PT X (.IfExp c a b pos) (fun σ H Q => tc σ H fun k H1 => if k = true then ta σ H1 Q else tb σ H1 Q) := by
  refine ⟨fun pins s σ H Q I h => ?_⟩
  show wpAny _ _ (do if ← isTrue c X.env (eval c X.env) then isTrue a X.env (eval a X.env) else isTrue b X.env (eval b X.env)) _ _ _
  refine wpAny_bind (thn (hc.run pins s σ H _ I h) fun k s1 ⟨H1, I1, q1⟩ => ?_)
  cases k with
  | true => rw [if_pos rfl] at q1 ⊢; exact ha.run pins s1 σ H1 Q I1 q1
  | false => rw [if_neg (by simp)] at q1 ⊢; exact hb.run pins s1 σ H1 Q I1 q1
theorem t_ite (hc : PT X c (TB G Wd (tst cc (evF cl cc)))) (ha : PT X a (TB G Wd (tstF cl ca))) (hb : PT X b (TB G Wd (tstF cl cb))) : PT X (.IfExp c a b pos) (TB G Wd (tstF cl (.ite cc ca cb))) := by
  refine PT.imp (pt_ite hc ha hb) fun σ H Q ⟨B, as, s, r, q⟩ => ⟨B, as, s, r, ?_⟩
  unfold tstF at q
  rw [evF_ite] at q
  refine (Ans.bind (Ans.bind q)).imp (fun k s' h as' H' r' x' => ?_) fun _ _ h => h
  unfold tstF
  cases k with
  | true =>
    rw [if_pos rfl] at h ⊢
    exact ⟨B, as', s', r', Ans.mk (h.imp (fun v2 s2 h => Ans.imp h (fun k s3 h as2 H2 r2 x2 => h as2 H2 r2 (x'.trans x2)) fun _ _ h => h.later x') fun _ _ h => h.later x')⟩
  | false =>
    rw [if_neg (by simp)] at h ⊢
    exact ⟨B, as', s', r', Ans.mk (h.imp (fun v2 s2 h => Ans.imp h (fun k s3 h as2 H2 r2 x2 => h as2 H2 r2 (x'.trans x2)) fun _ _ h => h.later x') fun _ _ h => h.later x')⟩

/-! ### arithmetic, comparisons -/
theorem s_neg (ha : PE X a (TF G Wd (evF cl ca))) : PE X (.UnaryOp .USub a pos) (TF G Wd (evF cl (.neg ca))) := by
  rw [evF_neg]
  refine PE.imp (pe_un un_neg (PE.datum ha)) fun σ H Q ⟨B, as, s, r, q⟩ => ⟨B, as, s, r, (Ans.bind q).imp (fun v s' h w as' H' r' x' rz => ?_) fun _ _ h => h⟩
  obtain ⟨z, e, h⟩ := Ans.lift h
  obtain ⟨f, d⟩ := v
  obtain ⟨j, rfl, rfl⟩ : ∃ j, d = .int j ∧ z = (false, .int (-j)) := by cases d <;> simp [negD] at e ⊢; exact e.symm
  obtain rfl := Rep.int_inv (.rep rz)
  exact ⟨j, rfl, h _ as' H' ⟨x', by rw [if_neg (by simp)]; exact ⟨r', .int _⟩⟩⟩
theorem s_cmp (hK : X.K = G.K) (hu : X.A.units + 65 < cLine) {o : CmpOp} (ha : PE X a (TM G Wd (RO G) (opd ca (evF cl ca)))) (hb : PE X b (TM G Wd (RO G) (opd cb (evF cl cb)))) (hm : behindInMarks o b = false) : PE X (.Compare a [o] [b] pos) (TF G Wd (evF cl (.cmp (cpOf o) ca cb))) := by
  rw [evF_cmp]
  refine PE.imp (pe_cmpR (opR_cmp (G := G) hK hu o) ha hb hm) fun σ H Q ⟨B, as, s, q, h⟩ => ⟨B, as, s, q, (Ans.bind h).imp (fun x s1 h v1 as1 H1 q1 x1 r1 => ?_) fun _ _ h => h⟩
  refine ⟨B, as1, s1, q1, (Ans.bind h).imp (fun y s2 h v2 as2 H2 q2 x2 r2 => ?_) fun _ _ h => h.later x1⟩
  obtain ⟨dx, cx, h⟩ := Ans.res q2 (r1.ext x2) (Ans.bind h)
  obtain ⟨dy, cy, h⟩ := Ans.res q2 r2 (Ans.bind h)
  obtain ⟨k, e, h⟩ := Ans.lift (Ans.bind h)
  exact ⟨_, as2, dx, dy, k, cx, cy, e, h _ as2 H2 ⟨x1.trans x2, by rw [if_neg (by simp)]; exact ⟨q2, .bl _⟩⟩⟩
theorem t_cmp (hK : X.K = G.K) (hu : X.A.units + 65 < cLine) {o : CmpOp} (ha : PE X a (TM G Wd (RO G) (opd ca (evF cl ca)))) (hb : PE X b (TM G Wd (RO G) (opd cb (evF cl cb)))) (hm : behindInMarks o b = false) : PT X (.Compare a [o] [b] pos) (TB G Wd (tstF cl (.cmp (cpOf o) ca cb))) := by
  unfold tstF
  rw [evF_cmp]
  refine PT.imp (pt_cmpR (opR_cmp (G := G) hK hu o) ha hb hm) fun σ H Q ⟨B, as, s, q, h⟩ => ⟨B, as, s, q, (Ans.bind (Ans.bind h)).imp (fun x s1 h v1 as1 H1 q1 x1 r1 => ?_) fun _ _ h => h⟩
  refine ⟨B, as1, s1, q1, (Ans.bind h).imp (fun y s2 h v2 as2 H2 q2 x2 r2 => ?_) fun _ _ h => h.later x1⟩
  obtain ⟨dx, cx, h⟩ := Ans.res q2 (r1.ext x2) (Ans.bind h)
  obtain ⟨dy, cy, h⟩ := Ans.res q2 r2 (Ans.bind h)
  obtain ⟨k, e, h⟩ := Ans.lift (Ans.bind h)
  obtain ⟨k', e', h⟩ := Ans.lift (Ans.pure h)
  cases e'
  exact ⟨_, as2, dx, dy, k, cx, cy, e, k, rfl, h as2 H2 q2 (x1.trans x2)⟩
theorem chain_in (hK : X.K = G.K) {σ : St} {H : Hp} {Q : VK} {o p : CmpOp} (ha : PE X a (TF G Wd (evF cl ca))) (h : TF G Wd (evF cl (.cmp2 (cpOf o) (cpOf p) ca cb cc)) σ H Q) :
    tChain (rCp G (cmpop (cpOf o))) (rCp G (cmpop (cpOf p))) (TM G Wd (RZ G) (evF cl ca)) (TM G Wd (RZ G) (evF cl cb)) (TM G Wd (RZ G) (evF cl cc)) σ H Q := by
  rw [evF_cmp2] at h
  obtain ⟨B, as, s, q, h⟩ := h
  refine ⟨B, as, s, q, (Ans.bind h).imp (fun x s1 h v1 as1 H1 q1 x1 r1 => ?_) fun _ _ h => h⟩
  refine ⟨B, as1, s1, q1, (Ans.bind h).imp (fun y s2 h v2 as2 H2 q2 x2 r2 => ?_) fun _ _ h => h.later x1⟩
  obtain ⟨k, e, h⟩ := Ans.lift (Ans.bind h)
  refine ⟨_, as2, _, _, k, .rep (Rep.ext r1 x2), .rep r2, e, k, rfl, ?_⟩
  cases k with
  | false =>
    rw [if_neg (by simp)] at h ⊢
    exact h _ as2 H2 ⟨x1.trans x2, by rw [if_neg (by simp)]; exact ⟨q2, .bl _⟩⟩
  | true =>
    rw [if_pos rfl] at h ⊢
    refine ⟨B, as2, s2, q2, (Ans.bind h).imp (fun z s3 h v3 as3 H3 q3 x3 r3 => ?_) fun _ _ h => (h.later x1).later x2⟩
    obtain ⟨u, e, h⟩ := Ans.lift (Ans.bind h)
    exact ⟨_, as3, _, _, u, .rep (Rep.ext r2 x3), .rep r3, e, h _ as3 H3 ⟨(x1.trans x2).trans x3, by rw [if_neg (by simp)]; exact ⟨q3, .bl _⟩⟩⟩
theorem s_cmp2 (hK : X.K = G.K) (hu : X.A.units + 65 < cLine) {o p : CmpOp} (ha : PE X a (TF G Wd (evF cl ca))) (hb : PE X b (TF G Wd (evF cl cb))) (hc : PE X c (TF G Wd (evF cl cc))) (hm : lastMarks [o, p] [b, c] = false) :
    PE X (.Compare a [o, p] [b, c] pos) (TF G Wd (evF cl (.cmp2 (cpOf o) (cpOf p) ca cb cc))) :=
  PE.imp (pe_chain (opR_cmp (G := G) hK hu o) (opR_cmp (G := G) hK hu p) (PE.datum ha) (PE.datum hb) (PE.datum hc) hm) fun σ H Q h => chain_in hK ha h
theorem t_cmp2 (hK : X.K = G.K) (hu : X.A.units + 65 < cLine) {o p : CmpOp} (ha : PE X a (TF G Wd (evF cl ca))) (hb : PE X b (TF G Wd (evF cl cb))) (hc : PE X c (TF G Wd (evF cl cc))) (hm : lastMarks [o, p] [b, c] = false) :
    PT X (.Compare a [o, p] [b, c] pos) (TB G Wd (tstF cl (.cmp2 (cpOf o) (cpOf p) ca cb cc))) := by
  refine PT.imp (pt_chain (opR_cmp (G := G) hK hu o) (opR_cmp (G := G) hK hu p) (PE.datum ha) (PE.datum hb) (PE.datum hc) hm) fun σ H Q h => ?_
  refine chain_in hK ha ?_
  obtain ⟨B, as, s, r, h⟩ := h
  refine ⟨B, as, s, r, ?_⟩
  unfold tstF at h
  have h' := Ans.bind h
  rw [evF_cmp2] at h' ⊢
  refine Ans.mk ((Ans.bind h').imp (fun x s1 h => Ans.mk ((Ans.bind h).imp (fun y s2 h => ?_) fun _ _ h => h)) fun _ _ h => h)
  obtain ⟨k, e, h⟩ := Ans.lift (Ans.bind h)
  rw [e]
  refine Ans.mk ?_
  show Ans _ _ _
  cases k with
  | false =>
    rw [if_neg (by simp)] at h
    obtain ⟨k', e', h⟩ := Ans.lift (Ans.pure h)
    cases e'
    intro v as' H' pv
    obtain ⟨x', pv⟩ := pv
    rw [if_neg (by simp)] at pv
    cases pv.2
    exact ⟨_, rfl, h as' H' pv.1 x'⟩
  | true =>
    rw [if_pos rfl] at h
    refine Ans.mk ((Ans.bind h).imp (fun z s3 h => ?_) fun _ _ h => h)
    obtain ⟨u, e, h⟩ := Ans.lift (Ans.bind h)
    obtain ⟨k', e', h⟩ := Ans.lift (Ans.pure h)
    cases e'
    rw [e]
    intro v as' H' pv
    obtain ⟨x', pv⟩ := pv
    rw [if_neg (by simp)] at pv
    cases pv.2
    exact ⟨_, rfl, h as' H' pv.1 x'⟩
end
end Fw
set_option linter.all false
set_option Elab.async false
set_option maxRecDepth 100000
/-! Expressions: lists of arguments, displays, subscripts, slices, built-in functions. -/
namespace Fw
open PySem PySem.Spec L2
open PyProof.Rows hiding St
section
variable {G : G0} {X : Cx} {Wd : WX} {cl : Call} {a b c e : Expr} {es : List Expr} {ca cb cc : C} {pos : Pos} {x : Str} {i : Nat}
/-! ### lists -/
theorem star_cons {env : Env} (h : noStar (e :: es) = true) : starEach (e :: es) env = (false, eval e env) :: starEach es env ∧ noStar es = true := by
  cases e <;> first | exact ⟨rfl, h⟩ | cases h
theorem star_any {env : Env} : ∀ {es : List Expr}, noStar es = true → (backTo pos (starEach es env)).any (·.1) = false
  | [], _ => rfl
  | e :: es, h => by
    obtain ⟨h1, h2⟩ := star_cons (env := env) h
    rw [h1]
    show (false || (backTo pos (starEach es env)).any (·.1)) = false
    rw [star_any h2]; rfl
theorem l_nil : PA X [] (TL G Wd (RZs G) (evL cl .nil)) := PA.imp pa_nil fun σ H Q ⟨B, as, s, r, h⟩ => Ans.pure h [] as H r .refl .nil
theorem l_cons (ha : PE X e (TF G Wd (evF cl ca))) (hb : PA X es (TL G Wd (RZs G) (evL cl cb))) (hs : starEach (e :: es) X.env = (false, eval e X.env) :: starEach es X.env) : PA X (e :: es) (TL G Wd (RZs G) (evL cl (.cons ca cb))) := by
  rw [evL_cons]
  refine PA.imp (pa_cons (PE.datum ha) hb hs) fun σ H Q ⟨B, as, s, r, h⟩ => ⟨B, as, s, r, (Ans.bind h).imp (fun v s' h w as' H' r' x' rz => ?_) fun _ _ h => h⟩
  exact ⟨B, as', s', r', (Ans.bind h).imp (fun ds s2 h ws as2 H2 r2 x2 rs => h (w :: ws) as2 H2 r2 (x'.trans x2) (.cons (Rep.ext rz x2) rs)) fun _ _ h => h.later x'⟩
theorem o_nil : PA X [] (TL G Wd (ROs G) (evO cl .nil)) := PA.imp pa_nil fun σ H Q ⟨B, as, s, r, h⟩ => Ans.pure h [] as H r .refl .nil
theorem o_cons (ha : PE X e (TM G Wd (RO G) (opd ca (evF cl ca)))) (hb : PA X es (TL G Wd (ROs G) (evO cl cb))) (hs : starEach (e :: es) X.env = (false, eval e X.env) :: starEach es X.env) : PA X (e :: es) (TL G Wd (ROs G) (evO cl (.cons ca cb))) := by
  rw [evO_cons]
  refine PA.imp (pa_cons ha hb hs) fun σ H Q ⟨B, as, s, r, h⟩ => ⟨B, as, s, r, (Ans.bind h).imp (fun v s' h w as' H' r' x' rz => ?_) fun _ _ h => h⟩
  exact ⟨B, as', s', r', (Ans.bind h).imp (fun ds s2 h ws as2 H2 r2 x2 rs => h (w :: ws) as2 H2 r2 (x'.trans x2) (.cons (rz.ext x2) rs)) fun _ _ h => h.later x'⟩
/-! ### displays -/
theorem s_tup {k} (h : PA X es (TL G Wd (RZs G) (evL cl ca))) : PE X (.Tuple es k pos) (TF G Wd (evF cl (.tup ca))) := by
  rw [evF_tup]
  refine PE.imp (pe_tup h) fun σ H Q ⟨B, as, s, r, h⟩ => ⟨B, as, s, r, (Ans.bind h).imp (fun ds s' h vs as' H' r' x' rs => ?_) fun _ _ h => h⟩
  obtain ⟨z, e, h⟩ := Ans.lift h
  split at e
  · rename_i hz
    cases e
    exact ⟨by rw [RepL.length rs]; exact hz, fun p n => h _ as' _ ((PV.of_new r' (.tup r'.dom n rs)).earlier x')⟩
  · cases e
theorem s_lst (h : PA X es (TL G Wd (RZs G) (evL cl ca))) : PE X (.List es pos) (TF G Wd (evF cl (.lst ca))) := by
  rw [evF_lst]
  refine PE.imp (pe_lst h) fun σ H Q ⟨B, as, s, r, h⟩ => ⟨B, as, s, r, (Ans.bind h).imp (fun ds s' h vs as' H' r' x' rs => ?_) fun _ _ h => h⟩
  obtain ⟨z, e, h⟩ := Ans.lift h
  split at e
  · rename_i hz
    cases e
    exact ⟨by rw [RepL.length rs]; exact hz, fun p n => h _ as' _ ((PV.of_new r' (.lst n rs)).earlier x')⟩
  · cases e
/-- a fresh container becomes an object of the core heap -/
theorem Rel.box {B W : Addr → Prop} {as : List Addr} {σ : St} {H : Hp} {s : Sta} {a : Addr} {o : HObj} (r : Rel G (fun b => B b ∨ b = a) as σ H s) (nb : ¬ B a) (c : ObjR G (Wof (fun b => B b ∨ b = a) as s.fr σ) as H a o) :
    Rel G B (as ++ [a]) σ H { s with hp := s.hp ++ [o] } ∧ Keeps (Wof (fun b => B b ∨ b = a) as s.fr σ) as H (Wof B (as ++ [a]) s.fr σ) (as ++ [a]) H := by
  have k : Keeps (Wof (fun b => B b ∨ b = a) as s.fr σ) as H (Wof B (as ++ [a]) s.fr σ) (as ++ [a]) H := ⟨List.prefix_append _ _, fun _ _ e _ _ => e, fun b z => by
    rcases z with z | z | z
    · exact .inl (.inl (.inl z))
    · rcases List.mem_append.mp z with z | z
      · exact .inl (.inr (.inl z))
      · exact .inl (.inl (.inr (by simpa using z)))
    · exact .inl (.inr (.inr z))⟩
  obtain ⟨n1, n2⟩ := r.ba a (.inr rfl)
  refine ⟨⟨r.len, fun i d e => ?_, fun i d e => ?_, by simp [r.hlen], fun n b o' e1 e2 => ?_, ?_, fun b hb => ?_, r.oo, fun b hb => ⟨fun hb' => ?_, (r.ba b (.inl hb)).2⟩, fun b hb => r.bd b (.inl hb), r.tabs⟩, k⟩
  · obtain ⟨v, e1, q⟩ := r.val i d e; exact ⟨v, e1, q.mono k⟩
  · obtain ⟨b, e1, q⟩ := r.own i d e; exact ⟨b, e1, q.mono k fun _ e _ => e⟩
  · by_cases hn : n < as.length
    · rw [List.getElem?_append_left hn] at e1
      rw [List.getElem?_append_left (by rw [← r.hlen]; exact hn)] at e2
      exact (r.obj n b o' e1 e2).mono k fun _ e _ => e
    · rw [List.getElem?_append_right (by omega)] at e1
      rw [List.getElem?_append_right (by rw [← r.hlen]; omega)] at e2
      have hz : n - as.length = 0 := by
        by_cases q : n - as.length = 0
        · exact q
        · rw [List.getElem?_eq_none (by simp; omega)] at e1; cases e1
      rw [hz] at e1
      rw [← r.hlen, hz] at e2
      cases e1; cases e2
      exact c.mono k fun _ e _ => e
  · rw [List.nodup_append]
    refine ⟨r.nd, by simp, fun b hb c hc => ?_⟩
    have : c = a := by simpa using hc
    subst this
    intro z; subst z; exact n1 hb
  · rcases List.mem_append.mp hb with z | z
    · exact r.ao b z
    · have : b = a := by simpa using z
      subst this; exact n2
  · rcases List.mem_append.mp hb' with z | z
    · exact (r.ba b (.inl hb)).1 z
    · have : b = a := by simpa using z
      subst this; exact nb hb
theorem s_box {m : M (Bool × D)} (h : PE X e (TF G Wd m)) : PE X e (TF G Wd (do let v ← m; boxM v)) := by
  refine PE.imp h fun σ H Q ⟨B, as, s, r, h⟩ => ⟨B, as, s, r, (Ans.bind h).imp (fun v s' h w as' H' pv => ?_) fun _ _ h => h⟩
  obtain ⟨x', pv⟩ := pv
  have fin : ∀ (o : HObj) (d : D), v = (true, d) → (∀ (W : Addr → Prop) a, Cont G W as' H' a d → ObjR G W as' H' a o) → (∀ (v : V) (as2 : List Addr) (H2 : Hp), PV G B σ as (Own s.fr σ) H (false, .ref s'.hp.length) { s' with hp := s'.hp ++ [o] } v as2 H2 → Q v H2) → Q w H' := by
    intro o d ev hc hq
    subst ev
    rw [if_pos rfl] at pv
    obtain ⟨a, rfl, n, q, c⟩ := pv
    have nb : ¬ B a := fun z => n (r.bd a z)
    obtain ⟨q', k⟩ := Rel.box (W := fun _ => True) q nb (hc _ a c)
    refine hq (.ref a) (as' ++ [a]) H' ⟨⟨x'.pre.trans (List.prefix_append _ _), fun b hb => ?_, x'.own, x'.keep, x'.dom⟩, ?_⟩
    · rcases List.mem_append.mp hb with z | z
      · exact x'.new b z
      · have : b = a := by simpa using z
        subst this; exact .inr n
    · rw [if_neg (by simp)]
      exact ⟨q', .ref (by rw [← q.hlen]; simp)⟩
  obtain ⟨f, d⟩ := v
  cases f with
  | false => cases d <;> exact False.elim h
  | true =>
    cases d with
    | lst l => exact fin (.lst l) (.lst l) rfl (fun W a c => .lst c) h
    | dct l => exact fin (.dct l) (.dct l) rfl (fun W a c => .dct c) h
    | _ => exact False.elim h

/-! ### subscripts, slices -/
theorem s_sub (hK : X.K = G.K) (hu : X.A.units + 1 < cLine) (ha : PE X a (TM G Wd (RO G) (opd ca (evF cl ca)))) (hb : PE X b (TF G Wd (evF cl cb))) (hs : PlainIx b) : PE X (.Subscript a b pos) (TF G Wd (evF cl (.sub ca cb))) := by
  rw [evF_sub]
  refine PE.imp (pe_ix (ix_of (G := G) hK hu) ha (PE.datum hb) hs) fun σ H Q ⟨B, as, s, r, h⟩ => ⟨B, as, s, r, (Ans.bind h).imp (fun x s1 h v1 as1 H1 q1 x1 r1 => ?_) fun _ _ h => h⟩
  refine ⟨B, as1, s1, q1, (Ans.bind h).imp (fun y s2 h v2 as2 H2 q2 x2 r2 => ?_) fun _ _ h => h.later x1⟩
  obtain ⟨dx, cx, h⟩ := Ans.res q2 (r1.ext x2) (Ans.bind h)
  obtain ⟨d, e, h⟩ := Ans.lift (Ans.bind h)
  exact ⟨_, as2, dx, _, d, cx, r2, e, fun v rv => h v as2 H2 ⟨x1.trans x2, by rw [if_neg (by simp)]; exact ⟨q2, rv⟩⟩⟩
/-- a slice's part -/
def TO' (G : G0) (Wd : WX) (m : M (Option Int)) : TO := fun σ H Q => ∃ (B : Addr → Prop) (as : List Addr) (s : Sta), Rel G B as σ H s ∧
  Ans (m s) (fun r s' => ∀ (as' : List Addr) (H' : Hp), Rel G B as' σ H' s' → Ext as (Own s.fr σ) H as' (Own s'.fr σ) H' → Q r H') (XW G B Wd σ as (Own s.fr σ) H)
theorem PO.imp {e : Option Expr} {t t' : TO} (h : PO X e t) (i : ∀ σ H Q, t' σ H Q → t σ H Q) : PO X e t' := ⟨fun pins s σ H Q I q => h.run pins s σ H Q I (i σ H Q q)⟩
theorem part_none : PO X none (TO' G Wd (partM .nil (evF cl .nil))) := PO.imp po_none fun σ H Q ⟨B, as, s, r, h⟩ => h as H r .refl
theorem part_some (ha : PE X e (TF G Wd (evF cl ca))) (hn : ca ≠ .nil) : PO X (some e) (TO' G Wd (partM ca (evF cl ca))) := by
  have e1 : partM ca (evF cl ca) = (do let v ← evF cl ca; let i ← lift (intOf v.2); pure (some i)) := by
    cases ca <;> first | rfl | exact absurd rfl hn
  rw [e1]
  refine PO.imp (po_some (PE.datum ha)) fun σ H Q ⟨B, as, s, r, h⟩ => ⟨B, as, s, r, (Ans.bind h).imp (fun v s' h w as' H' r' x' rz => ?_) fun _ _ h => h⟩
  obtain ⟨i, e, h⟩ := Ans.lift (Ans.bind h)
  obtain ⟨f, d⟩ := v
  obtain rfl : d = .int i := by cases d <;> simp [intOf] at e ⊢; exact e
  obtain rfl := Rep.int_inv (.rep rz)
  exact ⟨i, rfl, h as' H' r' x'⟩
theorem s_slc {lo hi : Option Expr} {p2 : Pos} {ml mh : M (Option Int)} (hK : X.K = G.K) (ha : PE X a (TM G Wd (RO G) (opd ca (evF cl ca)))) (hl : PO X lo (TO' G Wd ml)) (hh : PO X hi (TO' G Wd mh)) :
    PE X (.Subscript a (.Slice lo hi none p2) pos) (TF G Wd (do let x ← opd ca (evF cl ca); let l ← ml; let h ← mh; let x ← res x; lift (sliceD x l h))) := by
  refine PE.imp (pe_slice (sl_of (G := G) hK) ha hl hh) fun σ H Q ⟨B, as, s, r, h⟩ => ⟨B, as, s, r, (Ans.bind h).imp (fun x s1 h v1 as1 H1 q1 x1 r1 => ?_) fun _ _ h => h⟩
  refine ⟨B, as1, s1, q1, (Ans.bind h).imp (fun l s2 h as2 H2 q2 x2 => ?_) fun _ _ h => h.later x1⟩
  refine ⟨B, as2, s2, q2, (Ans.bind h).imp (fun u s3 h as3 H3 q3 x3 => ?_) fun _ _ h => (h.later x1).later x2⟩
  obtain ⟨dx, cx, h⟩ := Ans.res q3 (r1.ext (x2.trans x3)) (Ans.bind h)
  obtain ⟨d, e, h⟩ := Ans.lift h
  exact ⟨_, as3, dx, d, cx, e, q3.dom, fun v H' n => h v as3 H' ((PV.of_new q3 n).earlier (x1.trans (x2.trans x3)))⟩

/-! ### built-in functions -/
/-- what a built-in function makes of its arguments -/
def rBi (G : G0) (b : Bi) : List V → Hp → VK → Prop := fun vs H Q => ∃ (W : Addr → Prop) (as : List Addr) (ds : List D) (r : Bool × D), RepCs G W as H vs ds ∧ biop b ds = some r ∧ (∀ a, W a → H a ≠ none) ∧ ∀ v H', NewV G W as H r v H' → Q v H'
theorem RepCs.one {W : Addr → Prop} {as : List Addr} {H : Hp} {vs : List V} {d : D} (h : RepCs G W as H vs [d]) : ∃ v, vs = [v] ∧ RepC G W as H v d := by
  cases h with
  | cons a b => cases b; exact ⟨_, rfl, a⟩
theorem tcb_in {b : Bi} {σ : St} {H : Hp} {Q : VK} (h : TF G Wd (evF cl (.bi b ca)) σ H Q) : tCB (rBi G b) (TL G Wd (ROs G) (evO cl ca)) σ H Q := by
  rw [evF_bi] at h
  obtain ⟨B, as, s, r, h⟩ := h
  refine ⟨B, as, s, r, (Ans.bind h).imp (fun os s1 h vs as1 H1 q1 x1 rs => ?_) fun _ _ h => h⟩
  obtain ⟨ds, cs, h⟩ := Ans.ress q1 rs (Ans.bind h)
  obtain ⟨z, e, h⟩ := Ans.lift h
  exact ⟨_, as1, ds, z, cs, e, q1.dom, fun v H' n => h v as1 H' ((PV.of_new q1 n).earlier x1)⟩
theorem s_biB {b : Bi} {id : String} (hc : CallR X (.builtin id) (rBi G b)) (hg : Gl X x) (hm : X.mg x = none) (hv : bootBuiltins x = some (.builtin id)) (ha : PA X (e :: es) (TL G Wd (ROs G) (evO cl ca))) (hs : noStar (e :: es) = true) (hn : x ≠ "__name__") (hd : (x == ("__debug__" : Str)) = false) {p : Pos} :
    PE X (.Call (.Name x p) (e :: es) [] pos) (TF G Wd (evF cl (.bi b ca))) :=
  PE.imp (pe_callB hc hg hm hv ha hn hd (star_cons hs).1 (star_any (star_cons (env := X.env) hs).2)) fun σ H Q h => tcb_in h
theorem s_biT {b : Bi} {T : String} (hc : CallR X (.type T) (rBi G b)) (hg : Gl X x) (hm : X.mg x = none) (hv : bootBuiltins x = some (.type T)) (ha : PA X (e :: es) (TL G Wd (ROs G) (evO cl ca))) (hs : noStar (e :: es) = true) (hn : x ≠ "__name__") (hd : (x == ("__debug__" : Str)) = false) {p : Pos} :
    PE X (.Call (.Name x p) (e :: es) [] pos) (TF G Wd (evF cl (.bi b ca))) :=
  PE.imp (pe_callTy hc hg hm hv ha hn hd (star_cons hs).1 (star_any (star_cons (env := X.env) hs).2)) fun σ H Q h => tcb_in h
theorem c_len (hK : X.K = G.K) : CallR X (.builtin "len") (rBi G .len) := by
  intro pins s σ H vs us Q I r ⟨W, as, ds, z, cs, e, hw, q⟩
  match ds, e with
  | [d], e =>
    obtain ⟨v, rfl, c⟩ := RepCs.one cs
    have e : (lenD d).map (fun n => (false, D.int n)) = some z := e
    cases en : lenD d with
    | none => rw [en] at e; cases e
    | some n =>
      rw [en] at e; cases e
      have fin := q _ _ (.same (.int n))
      cases d with
      | lst l =>
        cases en
        obtain ⟨a, xs, rfl, ea, rl⟩ := Rep.lst_inv c
        exact call_len_seq pins s σ H _ us Q I r ⟨a, xs, rfl, .inl (.of ea), by rw [rl.length]; exact fin⟩
      | tup l =>
        cases en
        obtain ⟨a, xs, rfl, ea, _, rl⟩ := Rep.tup_inv c
        exact call_len_seq pins s σ H _ us Q I r ⟨a, xs, rfl, .inr (.of ea), by rw [rl.length]; exact fin⟩
      | kt l =>
        cases en
        obtain ⟨a, xs, rfl, ea, rl⟩ := Rep.kt_inv c
        exact call_len_seq pins s σ H _ us Q I r ⟨a, xs, rfl, .inr (by rw [hK]; exact ea H), by rw [rl.length]; exact fin⟩
      | str x =>
        obtain rfl := Rep.str_inv c
        have en : (if x.length ≤ sizeLine then some (x.length : Int) else none) = some n := en
        by_cases hz : x.length ≤ sizeLine
        · rw [if_pos hz] at en; cases en
          exact call_len_str pins s σ H _ us Q I r ⟨x, rfl, hz, fin⟩
        · rw [if_neg hz] at en; cases en
      | dct l =>
        have en : (if l.all (fun p => p.1.isKey1) then some (l.length : Int) else none) = some n := en
        by_cases hk : (l.all fun p => p.1.isKey1) = true
        · rw [if_pos hk] at en; cases en
          obtain ⟨a, ks, H1, rfl, I1, e1, rk, bk, _⟩ := c.asK I hk
          obtain ⟨u, rfl, r1⟩ := vals1 r
          obtain rfl : u = Value.ref a := r1
          exact d_len I1 (.inl e1) fun t s' I' => ⟨.int l.length, H, bk s' I', ⟨t, by rw [rk.length]⟩, fin⟩
        · rw [if_neg hk] at en; cases en
      | _ => cases en
theorem bools_inv {W : Addr → Prop} {as : List Addr} {H : Hp} : ∀ {l : List D} {bs : List Bool} {xs : List V}, RepL G W as H xs l → boolsOf l = some bs → xs = bs.map V.bl
  | [], _, _, r, e => by cases r; cases e; rfl
  | d :: l, bs, _, r, e => by
    cases r with
    | cons a b =>
      cases d <;> try cases e
      rename_i y
      have e : (boolsOf l).map (y :: ·) = some bs := e
      cases q : boolsOf l with
      | none => rw [q] at e; cases e
      | some cs =>
        rw [q] at e; cases e
        rw [Rep.bl_inv (.rep a), bools_inv b q]; rfl
theorem ints_inv {W : Addr → Prop} {as : List Addr} {H : Hp} : ∀ {l : List D} {bs : List Int} {xs : List V}, RepL G W as H xs l → intsOf l = some bs → xs = bs.map V.int
  | [], _, _, r, e => by cases r; cases e; rfl
  | d :: l, bs, _, r, e => by
    cases r with
    | cons a b =>
      cases d <;> try cases e
      rename_i y
      have e : (intsOf l).map (y :: ·) = some bs := e
      cases q : intsOf l with
      | none => rw [q] at e; cases e
      | some cs =>
        rw [q] at e; cases e
        rw [Rep.int_inv (.rep a), ints_inv b q]; rfl
theorem c_all (hc : X.calm = true) : CallR X (.builtin "all") (rBi G .all) := by
  intro pins s σ H vs us Q I r ⟨W, as, ds, z, cs, e, hw, q⟩
  match ds, e with
  | [.lst l], e =>
    obtain ⟨v, rfl, c⟩ := RepCs.one cs
    have e : (boolsOf l).map (fun b => (false, D.bl (b.all id))) = some z := e
    cases en : boolsOf l with
    | none => rw [en] at e; cases e
    | some bs =>
      rw [en] at e; cases e
      obtain ⟨a, xs, rfl, ea, rl⟩ := Rep.lst_inv c
      obtain rfl := bools_inv rl en
      exact cr_all hc pins s σ H _ us Q I r ⟨a, bs, rfl, .of ea, q _ _ (.same (.bl _))⟩
theorem c_any (hc : X.calm = true) : CallR X (.builtin "any") (rBi G .any) := by
  intro pins s σ H vs us Q I r ⟨W, as, ds, z, cs, e, hw, q⟩
  match ds, e with
  | [.lst l], e =>
    obtain ⟨v, rfl, c⟩ := RepCs.one cs
    have e : (boolsOf l).map (fun b => (false, D.bl (b.any id))) = some z := e
    cases en : boolsOf l with
    | none => rw [en] at e; cases e
    | some bs =>
      rw [en] at e; cases e
      obtain ⟨a, xs, rfl, ea, rl⟩ := Rep.lst_inv c
      obtain rfl := bools_inv rl en
      exact cr_any hc pins s σ H _ us Q I r ⟨a, bs, rfl, .of ea, q _ _ (.same (.bl _))⟩
theorem c_sum (hc : X.calm = true) : CallR X (.builtin "sum") (rBi G .sum) := by
  intro pins s σ H vs us Q I r ⟨W, as, ds, z, cs, e, hw, q⟩
  match ds, e with
  | [.lst l], e =>
    obtain ⟨v, rfl, c⟩ := RepCs.one cs
    have e : (intsOf l).map (fun b => (false, D.int b.sum)) = some z := e
    cases en : intsOf l with
    | none => rw [en] at e; cases e
    | some bs =>
      rw [en] at e; cases e
      obtain ⟨a, xs, rfl, ea, rl⟩ := Rep.lst_inv c
      obtain rfl := ints_inv rl en
      exact cr_sum hc pins s σ H _ us Q I r ⟨a, bs, rfl, .of ea, q _ _ (.same (.int _))⟩
theorem c_tuple : CallR X (.type "tuple") (rBi G .tuple) := by
  intro pins s σ H vs us Q I r ⟨W, as, ds, z, cs, e, hw, q⟩
  match ds, e with
  | [.lst l], e =>
    cases e
    obtain ⟨v, rfl, c⟩ := RepCs.one cs
    obtain ⟨a, xs, rfl, ea, rl⟩ := Rep.lst_inv c
    exact call_tuple_of pins s σ H _ us Q I r ⟨a, xs, rfl, .inl ⟨.of ea, fun p n => q _ _ (.tup hw n rl)⟩⟩
  | [.tup l], e =>
    cases e
    obtain ⟨v, rfl, c⟩ := RepCs.one cs
    obtain ⟨a, xs, rfl, ea, na, rl⟩ := Rep.tup_inv c
    exact call_tuple_of pins s σ H _ us Q I r ⟨a, xs, rfl, .inr ⟨.of ea, q _ _ (.same (.tup ea na rl))⟩⟩
theorem c_list (hK : X.K = G.K) : CallR X (.type "list") (rBi G .list) := by
  intro pins s σ H vs us Q I r ⟨W, as, ds, z, cs, e, hw, q⟩
  match ds, e with
  | [.lst l], e =>
    cases e
    obtain ⟨v, rfl, c⟩ := RepCs.one cs
    obtain ⟨a, xs, rfl, ea, rl⟩ := Rep.lst_inv c
    exact call_list_of pins s σ H _ us Q I r ⟨a, xs, rfl, .inl (.of ea), fun p n => q _ _ (.lst n rl)⟩
  | [.tup l], e =>
    cases e
    obtain ⟨v, rfl, c⟩ := RepCs.one cs
    obtain ⟨a, xs, rfl, ea, na, rl⟩ := Rep.tup_inv c
    exact call_list_of pins s σ H _ us Q I r ⟨a, xs, rfl, .inr (.of ea), fun p n => q _ _ (.lst n rl)⟩
  | [.kt l], e =>
    cases e
    obtain ⟨v, rfl, c⟩ := RepCs.one cs
    obtain ⟨a, xs, rfl, ea, rl⟩ := Rep.kt_inv c
    exact call_list_of pins s σ H _ us Q I r ⟨a, xs, rfl, .inr (by rw [hK]; exact ea H), fun p n => q _ _ (.lst n rl)⟩
/-- putting into a dict, by its data -/
theorem RepK.any {W : Addr → Prop} {as : List Addr} {H : Hp} {k : Key} : ∀ {l : List (D × D)} {ks : List (Key × V)}, RepK G W as H ks l → (k ∈ ks.map (·.1) ↔ (Fw.look (keyD k) l).isSome = true)
  | [], _, h => by cases h; simp [Fw.look]
  | (d, u) :: l, _, h => by
    obtain ⟨c, v, xs, rfl, e1, _, h'⟩ := h.inv
    have e1 : d = keyD c := e1
    subst e1
    unfold Fw.look
    rw [beq_key, List.map_cons, List.mem_cons]
    by_cases q : c = k
    · subst q; simp
    · rw [if_neg (by simpa using q), ← RepK.any h']
      constructor
      · rintro (z | z)
        · exact absurd z.symm q
        · exact z
      · exact .inr
theorem RepK.put {W : Addr → Prop} {as : List Addr} {H : Hp} {k : Key} {v : V} {d : D} (rv : Rep G W as H v d) : ∀ {l : List (D × D)} {ks : List (Key × V)}, RepK G W as H ks l → (ks.map (·.1)).Nodup → RepK G W as H (putK ks k v) (put (keyD k) d l)
  | [], _, h, _ => by cases h; exact .cons rv .nil
  | (c', u) :: l, _, h, nd => by
    obtain ⟨c, w, xs, rfl, e1, rw', h'⟩ := h.inv
    have e1 : c' = keyD c := e1
    subst e1
    rw [List.map_cons, List.nodup_cons] at nd
    unfold Fw.put
    rw [beq_key]
    by_cases q : c = k
    · subst q
      rw [if_pos (by simp)]
      have e2 : putK ((c, w) :: xs) c v = (c, v) :: xs := by
        unfold putK
        rw [if_pos (by simp), List.map_cons, if_pos rfl]
        congr 1
        refine (List.map_congr_left fun p hp => ?_).trans (List.map_id _)
        rw [if_neg fun z => nd.1 (by rw [← z]; exact List.mem_map.mpr ⟨p, hp, rfl⟩)]
        rfl
      rw [e2]
      exact .cons rv h'
    · rw [if_neg (by simpa using q)]
      have e2 : putK ((c, w) :: xs) k v = (c, w) :: putK xs k v := by
        unfold putK
        rw [List.any_cons, decide_eq_false q, Bool.false_or]
        split
        · rw [List.map_cons, if_neg q]
        · rfl
      rw [e2]
      exact .cons rw' (RepK.put rv h' nd.2)
theorem putK_keys {ks : List (Key × V)} {k : Key} {v : V} (nd : (ks.map (·.1)).Nodup) : ((putK ks k v).map (·.1)).Nodup := by
  unfold putK
  split
  · have e : (ks.map fun kv => if kv.1 = k then (kv.1, v) else kv).map (·.1) = ks.map (·.1) := by
      rw [List.map_map]
      exact List.map_congr_left fun p _ => by show (if p.1 = k then (p.1, v) else p).1 = p.1; split <;> rfl
    rw [e]; exact nd
  · rename_i h
    rw [List.map_append, List.nodup_append]
    refine ⟨nd, by simp, fun a ha b hb => ?_⟩
    have : b = k := by simpa using hb
    subst this
    intro z; subst z
    obtain ⟨p, hp, e⟩ := List.mem_map.mp ha
    exact h (List.any_eq_true.mpr ⟨p, hp, by simp [e]⟩)
theorem RepK.merge {W : Addr → Prop} {as : List Addr} {H : Hp} : ∀ {m : List (D × D)} {ms : List (Key × V)} {l : List (D × D)} {ks : List (Key × V)}, RepK G W as H ms m → RepK G W as H ks l → (ks.map (·.1)).Nodup → RepK G W as H (mergeK ks ms) (merge l m)
  | [], _, _, _, h, r, _ => by cases h; exact r
  | (c', u) :: m, _, l, ks, h, r, nd => by
    obtain ⟨c, w, xs, rfl, e1, rw', h'⟩ := h.inv
    have e1 : c' = keyD c := e1
    subst e1
    exact RepK.merge (l := Fw.put (keyD c) u l) (ks := putK ks c w) h' (r.put rw' nd) (putK_keys nd)
theorem NewV.dct {W : Addr → Prop} {as : List Addr} {H : Hp} {a : Addr} {ks : List (Key × V)} {l : List (D × D)} (n : H a = none) (r : RepK G W as H ks l) : NewV G W as H (true, .dct l) (.ref a) (upd H a (.dK ks)) :=
  ⟨upd_keep n, by rw [if_pos rfl]; exact ⟨a, rfl, n, .dctK upd_same (r.mono (Keeps.upd n))⟩⟩
/-- a list of pairs, in the model -/
theorem pairs_inv {W : Addr → Prop} {as : List Addr} {H : Hp} {K : PySem.W.Frag} : ∀ {l : List D} {ps : List (D × D)} {xs : List V}, RepL G W as H xs l → pairsOf l = some ps → (ps.all fun p => p.1.isKey1) = true →
    ∃ (qs : List Addr) (kvs : List (Key × V)), xs = qs.map V.ref ∧ Paired (fun p kv => SqT K H p [kV kv.1, kv.2]) qs kvs ∧ RepK G W as H kvs ps
  | [], _, _, r, e, _ => by cases r; cases e; exact ⟨[], [], rfl, .nil, .nil⟩
  | d :: l, ps, _, r, e, hk => by
    cases r with
    | cons a b =>
      match d, e with
      | .tup [k, v], e =>
        have e : (pairsOf l).map ((k, v) :: ·) = some ps := e
        cases q : pairsOf l with
        | none => rw [q] at e; cases e
        | some qs =>
          rw [q] at e; cases e
          rw [List.all_cons, Bool.and_eq_true] at hk
          obtain ⟨qs', kvs, rfl, hp, hr⟩ := pairs_inv (K := K) b q hk.2
          obtain ⟨p, ys, rfl, ep, _, rp⟩ := Rep.tup_inv (.rep a)
          obtain ⟨z, rfl⟩ := key1_inv hk.1
          cases rp with
          | cons r1 r2 =>
            cases r2 with
            | cons r3 r4 =>
              cases r4
              obtain rfl := Rep.key r1
              exact ⟨p :: qs', (z, _) :: kvs, rfl, .cons (.of ep) hp, .cons r3 hr⟩
theorem c_dict (hc : X.calm = true) : CallR X (.type "dict") (rBi G .dict) := by
  intro pins s σ H vs us Q I r ⟨W, as, ds, z, cs, e, hw, q⟩
  match ds, e with
  | [.lst l], e =>
    have e : ((pairsOf l).bind fun ps => if ps.all (fun p => p.1.isKey1) then some (true, D.dct (merge [] ps)) else none) = some z := e
    cases en : pairsOf l with
    | none => rw [en] at e; cases e
    | some ps =>
      rw [en] at e
      have e : (if ps.all (fun p => p.1.isKey1) then some (true, D.dct (merge [] ps)) else none) = some z := e
      by_cases hk : (ps.all fun p => p.1.isKey1) = true
      · rw [if_pos hk] at e; cases e
        obtain ⟨v, rfl, c⟩ := RepCs.one cs
        obtain ⟨a, xs, rfl, ea, rl⟩ := Rep.lst_inv c
        obtain ⟨qs, kvs, rfl, hp, hr⟩ := pairs_inv (K := X.K) rl en hk
        exact call_dictP hc pins s σ H _ us Q I r ⟨a, qs, kvs, rfl, .of ea, hp, fun p n => q _ _ (.dct n (hr.merge .nil List.nodup_nil))⟩
      · rw [if_neg hk] at e; cases e
theorem c_int : CallR X (.type "int") (rBi G .int) := by
  intro pins s σ H vs us Q I r ⟨W, as, ds, z, cs, e, hw, q⟩
  match ds, e with
  | [.int i], e =>
    cases e
    obtain ⟨v, rfl, c⟩ := RepCs.one cs
    obtain rfl := Rep.int_inv c
    exact call_int1 pins s σ H _ us Q I r (.inl ⟨i, rfl, q _ _ (.same (.int _))⟩)
theorem c_abs : CallR X (.builtin "abs") (rBi G .abs) := by
  intro pins s σ H vs us Q I r ⟨W, as, ds, z, cs, e, hw, q⟩
  match ds, e with
  | [.int i], e =>
    cases e
    obtain ⟨v, rfl, c⟩ := RepCs.one cs
    obtain rfl := Rep.int_inv c
    have e : (if i < 0 then -i else i) = (i.natAbs : Int) := by split <;> omega
    exact call_abs pins s σ H _ us Q I r ⟨i, rfl, by rw [e]; exact q _ _ (.same (.int _))⟩
mutual
theorem py_noDict : ∀ (d : D) (p : PyData), d.py = some p → p.hasDict = false
  | .non, _, e => by cases e; rfl
  | .bl b, _, e => by cases e; rfl
  | .int i, _, e => by cases e; rfl
  | .str x, _, e => by cases e; rfl
  | .tup l, p, e => by
    have e' : (D.pyL l).map PyData.tuple = some p := e
    cases q : D.pyL l with
    | none => rw [q] at e'; cases e'
    | some ps => rw [q] at e'; cases e'; exact py_noDictL l ps q
  | .lst l, p, e => by
    have e' : (D.pyL l).map PyData.list = some p := e
    cases q : D.pyL l with
    | none => rw [q] at e'; cases e'
    | some ps => rw [q] at e'; cases e'; exact py_noDictL l ps q
  | .kt l, p, e => by
    have e' : (D.pyL l).map PyData.tuple = some p := e
    cases q : D.pyL l with
    | none => rw [q] at e'; cases e'
    | some ps => rw [q] at e'; cases e'; exact py_noDictL l ps q
  | .dct _, _, e => by cases e
  | .kd _, _, e => by cases e
  | .scr _, _, e => by cases e
  | .fn _, _, e => by cases e
  | .ref _, _, e => by cases e
theorem py_noDictL : ∀ (l : List D) (ps : List PyData), D.pyL l = some ps → PyData.hasDictAll ps = false
  | [], _, e => by cases e; rfl
  | d :: l, ps, e => by
    have e' : (match D.py d, D.pyL l with | some x, some y => some (x :: y) | _, _ => none) = some ps := e
    cases q1 : D.py d with
    | none => rw [q1] at e'; cases e'
    | some x =>
      cases q2 : D.pyL l with
      | none => rw [q1, q2] at e'; cases e'
      | some y =>
        rw [q1, q2] at e'; cases e'
        show (PyData.hasDict x || PyData.hasDictAll y) = false
        rw [py_noDict d x q1, py_noDictL l y q2]; rfl
end
theorem c_repr (hK : X.K = G.K) (hg : X.A.guards = some []) (hu : X.A.units + 65 < cLine) : CallR X (.builtin "repr") (rBi G .repr) := by
  intro pins s σ H vs us Q I r ⟨W, as, ds, z, cs, e, hw, q⟩
  match ds, e with
  | [d], e =>
    obtain ⟨v, rfl, c⟩ := RepCs.one cs
    obtain ⟨u, rfl, rv⟩ := vals1 r
    have e : (reprD d).map (fun x => (false, x)) = some z := e
    unfold reprD at e
    cases ed : d.py with
    | none => rw [ed] at e; cases e
    | some p =>
      rw [ed] at e
      simp only at e
      split at e
      · rename_i hp
        cases e
        simp only [Bool.and_eq_true, decide_eq_true_eq] at hp
        obtain ⟨⟨hs, hd⟩, hz⟩ := hp
        have fin : ∀ {s'}, L2.Inv X pins σ H s' → ∀ u, EP X pins σ Q (.str p.shown u) s' := fun I' u => ⟨.str _, H, I', ⟨u, rfl⟩, q _ _ (.same (.str _))⟩
        obtain ⟨bs, rd⟩ := Dp.reads I p v u (by rw [hK]; exact c.dp ed) rv
        have hn := py_noDict d p ed
        cases rd with
        | none => exact PySem.P.repr_of_none (fin (I.tok _) _)
        | bool b => exact PySem.P.repr_of_bool (fin (I.tok _) _)
        | int i t => exact PySem.P.repr_of_int (by simpa [PyData.showable] using hs) (fin (I.tok _) _)
        | str x t => exact PySem.P.repr_of_str (fin (I.tok _) _) hz
        | list h1 h2 h3 h4 => exact repr_of_reads' (h₀ := s.heap) (.list h1 h2 h3 h4) hs (PyData.noDict_hsm hn) hg (by omega) (fun _ _ e => e) (fun h' u tk hk => fin (I.kept hk) u) hz
        | tuple h1 h2 h3 h4 => exact repr_of_reads' (h₀ := s.heap) (.tuple h1 h2 h3 h4) hs (PyData.noDict_hsm hn) hg (by omega) (fun _ _ e => e) (fun h' u tk hk => fin (I.kept hk) u) hz
        | dict h1 h2 h3 h4 h5 => simp [PyData.hasDict] at hn
      · cases e
end
end Fw
set_option linter.all false
set_option Elab.async false
set_option maxRecDepth 100000
/-! isinstance; methods that change a container. -/
namespace Fw
open PySem PySem.Spec L2
open PyProof.Rows hiding St
def kdS : Kd → String
  | .non => "NoneType" | .int => "int" | .bool => "bool" | .str => "str" | .tuple => "tuple" | .list => "list" | .dict => "dict"
def tyS : Ty → String
  | .int => "int" | .bool => "bool" | .str => "str" | .tuple => "tuple" | .list => "list" | .dict => "dict"
theorem kit_kd (k : Kd) (t : Ty) : kitB (kdS k) (tyS t) = some (kdIs k t) := by
  cases k <;> cases t <;> decide +kernel
section
variable {G : G0} {X : Cx} {Wd : WX} {cl : Call} {a b c e : Expr} {es : List Expr} {ca cb cc : C} {pos : Pos} {x : Str} {i : Nat}
theorem kt_in {K : PySem.W.Frag} {a : Addr} {xs : List V} (h : ∀ H' : Hp, SqT K H' a xs) : ∃ o, K.lookup a = some o ∧ o.cls = .type "tuple" := by
  rcases h fun _ => none with (h | ⟨o, h⟩) | ⟨o, its, n, h1, h2, _⟩
  · cases h
  · cases h
  · exact ⟨o, h1, h2⟩
theorem RepC.ty {W : Addr → Prop} {as : List Addr} {H : Hp} {v : V} {d : D} {k : Kd} (h : RepC G W as H v d) (e : kdOf d = some k) : TyX G.K H v (.type (kdS k)) := by
  cases d with
  | non => cases e; obtain rfl := Rep.non_inv h; exact .base .non
  | bl b => cases e; obtain rfl := Rep.bl_inv h; exact .base (.bl _)
  | int i => cases e; obtain rfl := Rep.int_inv h; exact .base (.int _)
  | str x => cases e; obtain rfl := Rep.str_inv h; exact .base (.str _)
  | lst l => cases e; obtain ⟨a, xs, rfl, ea, _⟩ := Rep.lst_inv h; exact .base (.lst ea)
  | tup l => cases e; obtain ⟨a, xs, rfl, ea, _, _⟩ := Rep.tup_inv h; exact .base (.tup ea)
  | kt l => cases e; obtain ⟨a, xs, rfl, ea, _⟩ := Rep.kt_inv h; obtain ⟨o, h1, h2⟩ := kt_in ea; exact .kTuple h1 h2
  | dct l =>
    cases e
    obtain ⟨a, rfl, ⟨kvs, e, r⟩ | ⟨kvs, e, r⟩⟩ := h.dct
    · exact .base (.dK e)
    · exact .base (.dT e)
  | _ => cases e
theorem s_isi (hK : X.K = G.K) {y : Str} {t : Ty} {p p' : Pos} (ha : PE X a (TM G Wd (RO G) (opd ca (evF cl ca)))) (hs : noStar [a] = true) (hg : Gl X x) (hm : X.mg x = none) (hv : bootBuiltins x = some (.builtin "isinstance")) (hn : x ≠ "__name__") (hd : (x == ("__debug__" : Str)) = false)
    (hg' : Gl X y) (hm' : X.mg y = none) (hv' : bootBuiltins y = some (.type (tyS t))) (hn' : y ≠ "__name__") (hd' : (y == ("__debug__" : Str)) = false) :
    PE X (.Call (.Name x p) [a, .Name y p'] [] pos) (TF G Wd (evF cl (.isi ca [t]))) := by
  have h2 : PA X [.Name y p'] _ := pa_cons (pe_bltn (v := .ty (tyS t)) hg' hm' hv' rfl hn' hd') pa_nil
  have hs1 : starEach [a, .Name y p'] X.env = (false, eval a X.env) :: starEach [.Name y p'] X.env := by
    cases a <;> first | rfl | cases hs
  rw [evF_isi]
  refine PE.imp (pe_callB call_isi hg hm hv (pa_cons ha h2 hs1) hn hd hs1 rfl) fun σ H Q ⟨B, as, s, r, h⟩ => ⟨B, as, s, r, (Ans.bind h).imp (fun o s1 h v1 as1 H1 q1 x1 r1 => ?_) fun _ _ h => h⟩
  obtain ⟨d, cd, h⟩ := Ans.res q1 r1 (Ans.bind h)
  obtain ⟨b, e, h⟩ := Ans.lift (Ans.bind h)
  have e : (kdOf d).map (fun k => kdIs k t) = some b := e
  cases ek : kdOf d with
  | none => rw [ek] at e; cases e
  | some k =>
    rw [ek] at e; cases e
    exact ⟨v1, .ty (tyS t), _, _, _, rfl, .ty _, by rw [hK]; exact cd.ty ek, kit_ty (kit_kd k t), h _ as1 H1 ⟨x1, by rw [if_neg (by simp)]; exact ⟨q1, .bl _⟩⟩⟩

/-! ### writing into a container -/
theorem tabs_upd {T : List (Addr × Str)} {H : Hp} {a : Addr} {o : HO} (t : LamX.Tabs T H) (c : ∃ u, H a = some u ∧ (∀ ps, u ≠ .tbl ps) ∧ ∀ c q, u ≠ LamX.CodeO c q) : LamX.Tabs T (upd H a o) := fun p hp => by
  obtain ⟨u, hu, n1, n2⟩ := c
  obtain ⟨ps, h1, h2, h3⟩ := t p hp
  refine ⟨ps, ?_, h2, fun pos cv hc => ?_⟩
  · rw [upd_ne fun z => n1 ps (Option.some.inj (hu.symm.trans (by rw [← z]; exact h1)))]; exact h1
  · obtain ⟨c, e1, e2⟩ := h3 pos cv hc
    exact ⟨c, e1, by rw [upd_ne fun z => n2 c p.2 (Option.some.inj (hu.symm.trans (by rw [← z]; exact e2)))]; exact e2⟩
theorem Cont.plain {W : Addr → Prop} {as : List Addr} {H : Hp} {a : Addr} {d : D} (c : Cont G W as H a d) : ∃ u, H a = some u ∧ (∀ ps, u ≠ .tbl ps) ∧ ∀ c q, u ≠ LamX.CodeO c q := by
  cases c with
  | lst h _ => exact ⟨_, h, (fun _ z => by cases z), (fun _ _ z => by cases z)⟩
  | dctK h _ => exact ⟨_, h, (fun _ z => by cases z), (fun _ _ z => by cases z)⟩
  | dctT h _ => exact ⟨_, h, (fun _ z => by cases z), (fun _ _ z => by cases z)⟩
section
variable {B W : Addr → Prop} {as : List Addr} {σ : St} {H : Hp} {s : Sta} {d d' : D} {p : Addr} {o : HO}
theorem keeps_upd (w : W p) : Keeps W as H W as (upd H p o) := ⟨List.prefix_refl _, fun b u e _ n => by rw [upd_ne fun z => n (by rw [z]; exact w)]; exact e, fun _ z => .inl z⟩
theorem Rel.write_own (r : Rel G B as σ H s) (e : s.fr[i]? = some (.own d)) (es : σ[i]? = some (some (V.ref p))) (new : Cont G (Wof B as s.fr σ) as (upd H p o) p d') :
    Rel G B as σ (upd H p o) { s with fr := s.fr.set i (.own d') } ∧ Ext as (Own s.fr σ) H as (Own (s.fr.set i (.own d')) σ) (upd H p o) := by
  have op : Own s.fr σ p := ⟨i, d, e, es⟩
  have wp : Wof B as s.fr σ p := .inr (.inr op)
  obtain ⟨p', e1, c⟩ := r.own i d e
  rw [es] at e1; cases e1
  have hi : i < s.fr.length := (List.getElem?_eq_some_iff.mp e).1
  have oo : ∀ b, Own (s.fr.set i (.own d')) σ b ↔ Own s.fr σ b := fun b => by
    constructor
    · rintro ⟨j, c, h1, h2⟩
      by_cases hj : j = i
      · subst hj; exact ⟨j, d, e, h2⟩
      · rw [List.getElem?_set_ne (Ne.symm hj)] at h1; exact ⟨j, c, h1, h2⟩
    · rintro ⟨j, c, h1, h2⟩
      by_cases hj : j = i
      · subst hj; exact ⟨j, d', List.getElem?_set_self hi, h2⟩
      · exact ⟨j, c, by rw [List.getElem?_set_ne (Ne.symm hj)]; exact h1, h2⟩
  have ww : ∀ b, Wof B as (s.fr.set i (.own d')) σ b ↔ Wof B as s.fr σ b := fun b => or_congr_right (or_congr_right (oo b))
  have k : Keeps (Wof B as s.fr σ) as H (Wof B as (s.fr.set i (.own d')) σ) as (upd H p o) := ⟨List.prefix_refl _, (keeps_upd (as := as) wp).keep, fun b z => .inl ((ww b).mp z)⟩
  refine ⟨⟨by simpa using r.len, fun j c h => ?_, fun j c h => ?_, r.hlen, fun n b u h1 h2 => ?_, r.nd, fun b h z => r.ao b h ((oo b).mp z), fun j j' c c' b h1 h2 h3 h4 => ?_, fun b h => ⟨(r.ba b h).1, fun z => (r.ba b h).2 ((oo b).mp z)⟩, fun b h => ?_, tabs_upd r.tabs c.plain⟩, ⟨List.prefix_refl _, fun _ h => .inl h, fun b h => .inl ((oo b).mp h), fun b u h _ _ n => by rw [upd_ne fun z => n (by rw [z]; exact op)]; exact h, fun b h => ?_⟩⟩
  · have h' : (s.fr.set i (Slot.own d'))[j]? = some (.val c) := h
    by_cases hj : j = i
    · subst hj; rw [List.getElem?_set_self hi] at h'; cases h'
    · rw [List.getElem?_set_ne (Ne.symm hj)] at h'
      obtain ⟨v, e2, q⟩ := r.val j c h'
      exact ⟨v, e2, q.mono k⟩
  · have h' : (s.fr.set i (Slot.own d'))[j]? = some (.own c) := h
    by_cases hj : j = i
    · subst hj; rw [List.getElem?_set_self hi] at h'; cases h'
      exact ⟨p, es, new.mono (Keeps.sub fun b z => (ww b).mp z) fun _ e _ => e⟩
    · rw [List.getElem?_set_ne (Ne.symm hj)] at h'
      obtain ⟨b, e2, q⟩ := r.own j c h'
      refine ⟨b, e2, q.mono k fun u e3 _ => ?_⟩
      rw [upd_ne fun z => hj (r.oo j i c d p h' e (by rw [e2, z]) es)]; exact e3
  · refine (r.obj n b u h1 h2).mono k fun u e3 _ => ?_
    rw [upd_ne fun z => r.ao b (List.mem_of_getElem? h1) (by rw [z]; exact op)]; exact e3
  · have at_ : ∀ {j : Nat} {c : D}, (s.fr.set i (Slot.own d'))[j]? = some (Slot.own c) → ∃ c' : D, s.fr[j]? = some (Slot.own c') := fun {j c} h => by
      by_cases hj : j = i
      · subst hj; exact ⟨d, e⟩
      · rw [List.getElem?_set_ne (Ne.symm hj)] at h; exact ⟨c, h⟩
    obtain ⟨c1, g1⟩ := at_ h1
    obtain ⟨c2, g2⟩ := at_ h2
    exact r.oo j j' c1 c2 b g1 g2 h3 h4
  · exact (r.bd b h).keep fun u e _ => by rw [upd_ne fun z => (r.ba b h).2 (by rw [z]; exact op)]; exact e
  · by_cases hb : b = p
    · rw [hb]; exact new.there
    · exact h.keep fun u e _ => by rw [upd_ne hb]; exact e
theorem Rel.write_obj {n : Nat} {u u' : HObj} (r : Rel G B as σ H s) (ea : as[n]? = some p) (e : s.hp[n]? = some u) (cp : ∃ d, Cont G (Wof B as s.fr σ) as H p d) (new : ObjR G (Wof B as s.fr σ) as (upd H p o) p u') :
    Rel G B as σ (upd H p o) { s with hp := s.hp.set n u' } ∧ Ext as (Own s.fr σ) H as (Own s.fr σ) (upd H p o) := by
  have mp : p ∈ as := List.mem_of_getElem? ea
  have wp : Wof B as s.fr σ p := .inr (.inl mp)
  have hn : n < s.hp.length := (List.getElem?_eq_some_iff.mp e).1
  have k : Keeps (Wof B as s.fr σ) as H (Wof B as s.fr σ) as (upd H p o) := keeps_upd wp
  obtain ⟨d, c⟩ := cp
  refine ⟨⟨r.len, fun j c h => ?_, fun j c h => ?_, by simpa using r.hlen, fun m b x h1 h2 => ?_, r.nd, r.ao, r.oo, r.ba, fun b h => ?_, tabs_upd r.tabs c.plain⟩, ⟨List.prefix_refl _, fun _ h => .inl h, fun b h => .inl h, fun b u h _ n _ => by rw [upd_ne fun z => n (by rw [z]; exact mp)]; exact h, fun b h => ?_⟩⟩
  · obtain ⟨v, e2, q⟩ := r.val j c h
    exact ⟨v, e2, q.mono k⟩
  · obtain ⟨b, e2, q⟩ := r.own j c h
    refine ⟨b, e2, q.mono k fun u e3 _ => ?_⟩
    rw [upd_ne fun z => r.ao p mp ⟨j, c, h, by rw [e2, z]⟩]; exact e3
  · have h2' : (s.hp.set n u')[m]? = some x := h2
    by_cases hm : m = n
    · subst hm
      rw [List.getElem?_set_self hn] at h2'; cases h2'
      rw [ea] at h1; cases h1
      exact new
    · rw [List.getElem?_set_ne (Ne.symm hm)] at h2'
      refine (r.obj m b x h1 h2').mono k fun u e3 _ => ?_
      have hne : b ≠ p := fun z => by
        subst z
        obtain ⟨i1, g1⟩ := List.getElem?_eq_some_iff.mp h1
        obtain ⟨i2, g2⟩ := List.getElem?_eq_some_iff.mp ea
        exact hm ((List.getElem_inj r.nd).mp (g1.trans g2.symm))
      rw [upd_ne hne]; exact e3
  · exact (r.bd b h).keep fun u e _ => by rw [upd_ne fun z => (r.ba b h).1 (by rw [z]; exact mp)]; exact e
  · by_cases hb : b = p
    · rw [hb]; exact new.there
    · exact h.keep fun u e _ => by rw [upd_ne hb]; exact e
/-- a new content for an operand's container -/
theorem Rel.store {H' : Hp} {t : Sta} {x : OV} {u : Unit} (r : Rel G B as σ H s) (hx : RO G B as s σ H (V.ref p) x) (er : Fw.res x s = .ok d s) (eH : H' = upd H p o) (new : Wof B as s.fr σ p → Cont G (Wof B as s.fr σ) as (upd H p o) p d') (e : Fw.store x d' s = .ok u t) :
    Rel G B as σ H' t ∧ Ext as (Own s.fr σ) H as (Own t.fr σ) H' := by
  subst eH
  cases x with
  | own i =>
    have e' : (if i < s.fr.length then R.ok () { s with fr := s.fr.set i (.own d') } else .stk) = .ok u t := e
    by_cases hi : i < s.fr.length
    · rw [if_pos hi] at e'; cases e'
      have hx' : σ[i]? = some (some (V.ref p)) := hx
      have er' : (match s.fr[i]? with | some (.own d) => R.ok d s | _ => .stk) = .ok d s := er
      split at er'
      · rename_i d0 q
        cases er'
        exact r.write_own q hx' (new (.inr (.inr ⟨i, d, q, hx'⟩)))
      · cases er'
    · rw [if_neg hi] at e'; cases e'
  | d y =>
    cases y with
    | ref n =>
      have hx' : Rep G (Wof B as s.fr σ) as H (V.ref p) (.ref n) := hx
      cases hx' with
      | ref ea =>
        have er' : (match s.hp[n]? with | some (.lst l) => R.ok (D.lst l) s | some (.dct l) => .ok (.dct l) s | some (.ins _ _) => .ok (.ref n) s | none => .stk) = .ok d s := er
        have wp : Wof B as s.fr σ p := .inr (.inl (List.mem_of_getElem? ea))
        cases q : s.hp[n]? with
        | none => rw [q] at er'; cases er'
        | some ob =>
          have oc : ∃ d, Cont G (Wof B as s.fr σ) as H p d := by
            have := r.obj n p ob ea q
            cases this with
            | lst c => exact ⟨_, c⟩
            | dct c => exact ⟨_, c⟩
          have hn : n < s.hp.length := (List.getElem?_eq_some_iff.mp q).1
          cases d' with
          | lst l =>
            have e' : (if n < s.hp.length then R.ok () { s with hp := s.hp.set n (.lst l) } else .stk) = .ok u t := e
            rw [if_pos hn] at e'; cases e'
            exact r.write_obj ea q oc (.lst (new wp))
          | dct l =>
            have e' : (if n < s.hp.length then R.ok () { s with hp := s.hp.set n (.dct l) } else .stk) = .ok u t := e
            rw [if_pos hn] at e'; cases e'
            exact r.write_obj ea q oc (.dct (new wp))
          | _ => cases e
    | _ => cases d' <;> cases e
theorem store_ok {x : OV} {ok : Unit → Sta → Prop} {ex : Exc → Sta → Prop} (h : Ans (Fw.store x d s) ok ex) : ∃ t, Fw.store x d s = .ok () t ∧ ok () t := by
  cases q : Fw.store x d s with
  | stk => rw [q] at h; exact h.elim
  | ok u t => rw [q] at h; exact ⟨t, rfl, h⟩
  | exc e t =>
    exfalso
    cases x with
    | own i =>
      have q' : (if i < s.fr.length then R.ok () { s with fr := s.fr.set i (.own d) } else .stk) = .exc e t := q
      split at q' <;> cases q'
    | d y =>
      cases y with
      | ref n =>
        cases d with
        | lst l =>
          have q' : (if n < s.hp.length then R.ok () { s with hp := s.hp.set n (.lst l) } else .stk) = .exc e t := q
          split at q' <;> cases q'
        | dct l =>
          have q' : (if n < s.hp.length then R.ok () { s with hp := s.hp.set n (.dct l) } else .stk) = .exc e t := q
          split at q' <;> cases q'
        | _ => cases q
      | _ => cases d <;> cases q
end
/-- a changing method by values: v holds d, the arguments ds -/
def rMu (G : G0) (m : Mu) : V → List V → Hp → VK → Prop := fun v vs H Q => ∃ (W : Addr → Prop) (as : List Addr) (d : D) (ds : List D) (z : D × D), RepC G W as H v d ∧ RepCs G W as H vs ds ∧ muop m d ds = some z ∧
  ∀ (p : Addr) (o : HO) (w : V), v = .ref p → (W p → Cont G W as (upd H p o) p z.1) → (W p → Rep G W as (upd H p o) w z.2) → Q w (upd H p o)
/-- .. the arguments are data -/
def rMuD (G : G0) (m : Mu) : V → List V → Hp → VK → Prop := fun v vs H Q => ∃ (W : Addr → Prop) (as : List Addr) (d : D) (ds : List D) (z : D × D), RepC G W as H v d ∧ RepL G W as H vs ds ∧ muop m d ds = some z ∧
  ∀ (p : Addr) (o : HO) (w : V), v = .ref p → (W p → Cont G W as (upd H p o) p z.1) → (W p → Rep G W as (upd H p o) w z.2) → Q w (upd H p o)
theorem RepC.tyV {W : Addr → Prop} {as : List Addr} {H : Hp} {v : V} {d : D} (h : RepC G W as H v d) : (kdOf d = some .list → L2.tyV G.K "list" v H) ∧ (kdOf d = some .dict → L2.tyV G.K "dict" v H) := by
  constructor
  · intro e
    cases d with
    | lst l => obtain ⟨a, xs, rfl, ea, _⟩ := Rep.lst_inv h; exact .inl ⟨rfl, _, .of ea⟩
    | _ => cases e
  · intro e
    cases d with
    | dct l =>
      obtain ⟨a, rfl, ⟨kvs, e, r⟩ | ⟨kvs, e, r⟩⟩ := h.dct
      · exact .inr (.inr (.inl ⟨rfl, .inl ⟨_, e⟩⟩))
      · exact .inr (.inr (.inl ⟨rfl, .inr ⟨_, e⟩⟩))
    | _ => cases e
theorem ask_ok {b : Bool} {s : Sta} {ok : Unit → Sta → Prop} {ex : Exc → Sta → Prop} (h : Ans (ask b s) ok ex) : b = true ∧ ok () s := by
  cases b with
  | true => exact ⟨rfl, h⟩
  | false => exact h.elim
/-- the end of a changing method -/
theorem mu_end {B : Addr → Prop} {as : List Addr} {σ : St} {H : Hp} {s : Sta} {x : OV} {v w : V} {d : D} {z : D × D} {p : Addr} {o : HO} {Q : VK} {as0 : List Addr} {O0 : Addr → Prop} {H0 : Hp} {ex : Exc → Sta → Prop} (q : Rel G B as σ H s) (r : RO G B as s σ H v x) (er : Fw.res x s = .ok d s) (x0 : Ext as0 O0 H0 as (Own s.fr σ) H)
    (h : Ans (Fw.store x z.1 s) (fun _ t => Ans ((Pure.pure (false, z.2) : M (Bool × D)) t) (fun r s' => ∀ (v : V) (as' : List Addr) (H' : Hp), PV G B σ as0 O0 H0 r s' v as' H' → Q v H') ex) ex)
    (ev : v = .ref p) (hc : Wof B as s.fr σ p → Cont G (Wof B as s.fr σ) as (upd H p o) p z.1) (hw : Wof B as s.fr σ p → Rep G (Wof B as s.fr σ) as (upd H p o) w z.2) : Q w (upd H p o) := by
  subst ev
  obtain ⟨t, et, h⟩ := store_ok h
  obtain ⟨q2, x2⟩ := q.store r er rfl hc et
  refine Ans.pure h w as (upd H p o) ⟨x0.trans x2, ?_⟩
  rw [if_neg (by simp)]
  refine ⟨q2, ?_⟩
  have wp : Wof B as s.fr σ p := by
    cases x with
    | own i =>
      have er' : (match s.fr[i]? with | some (.own d) => R.ok d s | _ => .stk) = .ok d s := er
      split at er'
      · rename_i d0 q0; exact .inr (.inr ⟨i, _, q0, r⟩)
      · cases er'
    | d y =>
      cases y with
      | ref n =>
        have r' : Rep G (Wof B as s.fr σ) as H (V.ref p) (.ref n) := r
        cases r' with
        | ref ea => exact .inr (.inl (List.mem_of_getElem? ea))
      | _ => generalize z.1 = z1 at et; cases z1 <;> cases et
  exact (hw wp).mono ⟨List.prefix_refl _, fun _ _ e _ _ => e, fun b hb => .inl (by
    rcases hb with hb | hb | hb
    · exact .inl hb
    · exact .inr (.inl hb)
    · rcases x2.own b hb with z | z
      · exact .inr (.inr z)
      · exfalso
        obtain ⟨u, e, nt⟩ := q2.th b (.inr (.inr hb))
        by_cases hbp : b = p
        · exact z (by rw [hbp]; exact q.th p wp)
        · rw [upd_ne hbp] at e
          exact z ⟨u, e, nt⟩)⟩
theorem Ans.res' {B : Addr → Prop} {as : List Addr} {σ : St} {H : Hp} {s : Sta} {o : OV} {v : V} {ok : D → Sta → Prop} {ex : Exc → Sta → Prop} (q : Rel G B as σ H s) (h : RO G B as s σ H v o) (a : Ans (Fw.res o s) ok ex) : ∃ d, RepC G (Wof B as s.fr σ) as H v d ∧ Fw.res o s = .ok d s ∧ ok d s := by
  obtain ⟨d, c, a'⟩ := Ans.res (ok := fun d t => Fw.res o s = .ok d t ∧ ok d t) (ex := ex) q h (by
    cases e : Fw.res o s with
    | stk => rw [e] at a; exact a
    | ok d t => rw [e] at a; exact ⟨rfl, a⟩
    | exc x t => rw [e] at a; exact a)
  exact ⟨d, c, a'⟩
theorem s_mu {m : Mu} {T id : String} {name : Str} {apos cpos : Pos} {o : Expr} (hK : X.K = G.K) (hT : T = kdS (kdMu m)) (pa : PlainAttrs T) (slot : PySem.Slot T name id) (hty : typeOf (.builtin id) = pure (.type "method_descriptor")) (hm : MtR X id (rMuD G m))
    (ho : PE X o (TM G Wd (RO G) (opd cc (evF cl cc)))) (ha : PA X (e :: es) (TL G Wd (RZs G) (evL cl ca))) (hbase : attributeBase o name X.env (eval o X.env) = eval o X.env) (hs : noStar (e :: es) = true) (hl : (e :: es).length < 30) (hline : (apos.endLine == cpos.line) = true) :
    PE X (.Call (.Attribute o name apos) (e :: es) [] cpos) (TF G Wd (evF cl (.mu m cc ca))) := by
  rw [evF_mu]
  have hst : ∀ {l : List Expr}, noStar l = true → (backTo cpos (starEach l X.env)).all (fun x => !x.1) = true := by
    intro l
    induction l with
    | nil => intro _; rfl
    | cons e l ih =>
      intro h
      obtain ⟨h1, h2⟩ := star_cons (env := X.env) h
      rw [h1]
      show (!false && (backTo cpos (starEach l X.env)).all (fun x => !x.1)) = true
      rw [ih h2]; rfl
  have hfew : ((backTo cpos (starEach (e :: es) X.env)).all (fun x => !x.1) && (backToKw cpos (keywordEach [] X.env)).all (fun x => x.1.isSome)
      && decide ((e :: es).length + ([] : List Keyword).length + (if ([] : List Keyword).isEmpty then 0 else 1) < 30)) = true := by
    rw [hst hs]
    show (true && true && decide ((e :: es).length + 0 + 0 < 30)) = true
    simpa using hl
  refine PE.imp (pe_bm pa slot hty hm ho ha hbase hfew hline (star_cons hs).1 (star_any (star_cons (env := X.env) hs).2)) fun σ H Q ⟨B, as, s, r, h⟩ => ⟨B, as, s, r, (Ans.bind h).imp (fun x s1 h v1 as1 H1 q1 x1 r1 => ?_) fun _ _ h => h⟩
  obtain ⟨d0, c0, h⟩ := Ans.res q1 r1 (Ans.bind h)
  obtain ⟨hk, h⟩ := ask_ok (Ans.bind h)
  refine ⟨?_, B, as1, s1, q1, (Ans.bind h).imp (fun ds s2 h vs as2 H2 q2 x2 r2 => ?_) fun _ _ h => h.later x1⟩
  · have hk : kdOf d0 = some (kdMu m) := by simpa using hk
    subst hT
    rw [hK]
    cases hm : kdMu m with
    | list => exact c0.tyV.1 (hk.trans (by rw [hm]))
    | dict => exact c0.tyV.2 (hk.trans (by rw [hm]))
    | _ => cases m <;> cases hm
  · obtain ⟨d, cd, er, h⟩ := Ans.res' q2 (r1.ext x2) (Ans.bind h)
    obtain ⟨z, ez, h⟩ := Ans.lift (Ans.bind h)
    refine ⟨_, as2, d, ds, z, cd, r2, ez, fun p o w ev hc hw => ?_⟩
    exact mu_end q2 (r1.ext x2) er (x1.trans x2) (Ans.bind h) ev hc hw
theorem m_append : MtR X "list.append" (rMuD G .append) := by
  intro pins s σ H v vs u us Q I rv rs ⟨W, as, d, ds, z, cd, rd, ez, q⟩
  cases d with
  | lst l =>
    match ds, ez with
    | [x], ez =>
      have ez : (if l.length < sizeLine then some (D.lst (l ++ [x]), D.non) else none) = some z := ez
      by_cases hz : l.length < sizeLine
      · rw [if_pos hz] at ez; cases ez
        obtain ⟨a, xs, rfl, ea, rl⟩ := Rep.lst_inv cd
        cases rd with
        | cons ry rn =>
          cases rn
          exact mt_append pins s σ H _ _ u us Q I rv rs ⟨a, xs, _, rfl, rfl, ea, by rw [rl.length]; exact hz, q a _ .non rfl (fun w => .lst upd_same ((rl.append (.cons ry .nil)).mono (keeps_upd w))) fun _ => .non⟩
      · rw [if_neg hz] at ez; cases ez
  | _ => cases ez
theorem s_append (hK : X.K = G.K) {apos cpos : Pos} {o : Expr} (ho : PE X o (TM G Wd (RO G) (opd cc (evF cl cc)))) (ha : PA X (e :: es) (TL G Wd (RZs G) (evL cl ca))) (hbase : attributeBase o "append" X.env (eval o X.env) = eval o X.env) (hs : noStar (e :: es) = true) (hl : (e :: es).length < 30) (hline : (apos.endLine == cpos.line) = true) :
    PE X (.Call (.Attribute o "append" apos) (e :: es) [] cpos) (TF G Wd (evF cl (.mu .append cc ca))) :=
  s_mu hK rfl PySem.F.plainAttrs_list PySem.F.slot_list_append PySem.F.type_list_append m_append ho ha hbase hs hl hline
end
end Fw
set_option linter.all false
set_option Elab.async false
set_option maxRecDepth 100000
/-! Calls of the module's defs: what a def promises; what a caller has of it. -/
namespace Fw
open PySem PySem.Spec L2
open PyProof.Rows hiding St
/-- what a call of the def f promises -/
def spF (G : G0) (cl : Call) (f : Nat) : Sp := fun vs H Q E => ∃ (B : Addr → Prop) (as : List Addr) (hp : List HObj) (ds : List D), Rel G B as [] H ⟨[], hp⟩ ∧ RepL G (Wof B as [] []) as H vs ds ∧
  match cl f ds hp with
  | .stk => False
  | .ok b d hp' => ∀ (v : V) (as' : List Addr) (H' : Hp), PV G B [] as (Own [] []) H (b, d) ⟨[], hp'⟩ v as' H' → Q v H'
  | .exc e hp' => ∀ (cls : Value) (dd : Option Addr) (as' : List Addr) (H' : Hp), Rel G B as' [] H' ⟨[], hp'⟩ → Ext as (Own [] []) H as' (Own [] []) H' → ExcR G (Wof B as' [] []) as' H' e cls dd → E cls dd H'
/-- the def f keeps its promise within n -/
structure FnG (G : G0) (cl : Call) (n : Nat) (f : Nat) (fd : FuncData) (ps : List Str) (gd : Bool) : Prop where
  len : ∀ ds hp, cl f ds hp ≠ .stk → ds.length = ps.length
  run : ∀ (A : Around) (outer : List Env) (s : Shared) (H : Hp) (args : Args) (us : List Value) (vs : List V) (Q : VK) (E : XK), Room n A → (gd = true → A.guards = some []) → Env0 G.P G.w G.K G.mg G.base A outer s H → BindsTo s fd args (ps.zip us) → Vals vs us → vs.length = ps.length → spF G cl f vs H Q E →
    codeAny (model G.P G.w) A (.call (.ref (G.fa f)) args) (CR (L2.CX G.P G.w) outer G.P G.w H s Q E) s
theorem no_own (b : Addr) : ¬ Own [] [] b := fun ⟨i, d, h, _⟩ => by simp at h
section
variable {G : G0} {B Z : Addr → Prop} {as as' : List Addr} {σ : St} {H H' : Hp} {s : Sta} {hp' : List HObj}
/-- the heap without the frame: what the frame owns is kept from others -/
theorem Rel.down (r : Rel G B as σ H s) : Rel G (fun b => B b ∨ Own s.fr σ b) as [] H ⟨[], s.hp⟩ := by
  have k : Keeps (Wof B as s.fr σ) as H (Wof (fun b => B b ∨ Own s.fr σ b) as [] []) as H := Keeps.sub fun b z => by
    rcases z with (z | z) | z | z
    · exact .inl z
    · exact .inr (.inr z)
    · exact .inr (.inl z)
    · exact absurd z (no_own b)
  refine ⟨rfl, fun i d h => by simp at h, fun i d h => by simp at h, r.hlen, fun n a o e1 e2 => (r.obj n a o e1 e2).mono k fun _ e _ => e, r.nd, fun b _ => no_own b, fun i j d d' a h => by simp at h, fun b hb => ⟨?_, no_own b⟩, fun b hb => ?_, r.tabs⟩
  · rcases hb with z | z
    · exact (r.ba b z).1
    · exact fun h => r.ao b h z
  · rcases hb with z | z
    · exact r.bd b z
    · exact r.th b (.inr (.inr z))
/-- and back -/
theorem Rel.up (r : Rel G B as σ H s) (r' : Rel G (fun b => (B b ∨ Own s.fr σ b) ∨ Z b) as' [] H' ⟨[], hp'⟩) (hZ : ∀ b, Z b → ¬ Th H b) (x : Ext as (Own [] []) H as' (Own [] []) H') :
    Rel G (fun b => B b ∨ Z b) as' σ H' { s with hp := hp' } ∧ Keeps (Wof (fun b => (B b ∨ Own s.fr σ b) ∨ Z b) as' [] []) as' H' (Wof (fun b => B b ∨ Z b) as' s.fr σ) as' H' := by
  have k0 : Keeps (Wof (fun b => (B b ∨ Own s.fr σ b) ∨ Z b) as' [] []) as' H' (Wof (fun b => B b ∨ Z b) as' s.fr σ) as' H' := Keeps.sub fun b z => by
    rcases z with (z | z) | z | z
    · exact .inl (.inl (.inl z))
    · exact .inl (.inr z)
    · exact .inr (.inl z)
    · exact .inl (.inl (.inr z))
  have k : Keeps (Wof B as s.fr σ) as H (Wof (fun b => B b ∨ Z b) as' s.fr σ) as' H' := ⟨x.pre, fun a o e nt n => x.keep a o e nt (fun h => n (.inr (.inl h))) (no_own a), fun a z => by
    rcases z with (z | z) | z | z
    · exact .inl (.inl z)
    · exact .inr (hZ a z)
    · rcases x.new a z with h | h
      · exact .inl (.inr (.inl h))
      · exact .inr h
    · exact .inl (.inr (.inr z))⟩
  refine ⟨⟨r.len, fun i d e => ?_, fun i d e => ?_, r'.hlen, fun n a o e1 e2 => (r'.obj n a o e1 e2).mono k0 fun _ e _ => e, r'.nd, fun b hb z => (r'.ba b (.inl (.inr z))).1 hb, r.oo, fun b hb => ?_, fun b hb => ?_, r'.tabs⟩, k0⟩
  · obtain ⟨v, e1, q⟩ := r.val i d e
    exact ⟨v, e1, q.mono k⟩
  · obtain ⟨a, e1, q⟩ := r.own i d e
    exact ⟨a, e1, q.mono k fun o h nt => x.keep a o h nt (fun h => r.ao a h ⟨i, d, e, e1⟩) (no_own a)⟩
  · rcases hb with z | z
    · exact ⟨(r'.ba b (.inl (.inl z))).1, (r.ba b z).2⟩
    · exact ⟨(r'.ba b (.inr z)).1, fun h => hZ b z (r.th b (.inr (.inr h)))⟩
  · rcases hb with z | z
    · exact r'.bd b (.inl (.inl z))
    · exact r'.bd b (.inr z)
theorem Ext.frame {O : Addr → Prop} (x : Ext as (Own [] []) H as' (Own [] []) H') : Ext as O H as' O H' :=
  ⟨x.pre, x.new, fun _ h => .inl h, fun a o e nt n _ => x.keep a o e nt n (no_own a), x.dom⟩
/-- a call, by the callee's promise -/
theorem call_in {cl : Call} {f : Nat} {ds : List D} {vs : List V} {Wd : WX} {Q : VK} {as0 : List Addr} {O0 : Addr → Prop} {H0 : Hp} (r : Rel G B as σ H s) (rs : RepL G (Wof B as s.fr σ) as H vs ds) (x0 : Ext as0 O0 H0 as (Own s.fr σ) H)
    (h : Ans (callM cl f ds s) (fun r s' => ∀ (v : V) (as' : List Addr) (H' : Hp), PV G B σ as0 O0 H0 r s' v as' H' → Q v H') (XW G B Wd σ as0 O0 H0)) : spF G cl f vs H Q (fun cls dd H' => Wd cls dd σ H') := by
  have ks : Keeps (Wof B as s.fr σ) as H (Wof (fun b => B b ∨ Own s.fr σ b) as [] []) as H := Keeps.sub fun b z => by
    rcases z with (z | z) | z | z
    · exact .inl z
    · exact .inr (.inr z)
    · exact .inr (.inl z)
    · exact absurd z (no_own b)
  refine ⟨_, as, s.hp, ds, r.down, rs.mono ks, ?_⟩
  have h' : Ans (match cl f ds s.hp with | .stk => .stk | .ok b d hp => .ok (b, d) { s with hp := hp } | .exc e hp => .exc e { s with hp := hp } : R (Bool × D)) _ _ := h
  cases e : cl f ds s.hp with
  | stk => rw [e] at h'; exact h'
  | ok b d hp' =>
    rw [e] at h'
    intro v as' H' pv
    obtain ⟨x, pv⟩ := pv
    refine h' v as' H' (PV.earlier x0 ⟨x.frame, ?_⟩)
    cases b with
    | true =>
      rw [if_pos rfl] at pv ⊢
      obtain ⟨a, rfl, n, r', c⟩ := pv
      obtain ⟨q, k⟩ := r.up (Z := fun b => b = a) r' (fun b hb => by subst hb; exact n) x
      exact ⟨a, rfl, n, q, c.mono k fun _ e _ => e⟩
    | false =>
      rw [if_neg (by simp)] at pv ⊢
      obtain ⟨r', c⟩ := pv
      obtain ⟨q, k⟩ := r.up (Z := fun _ => False) (r'.weaken fun b hb => hb.elim id False.elim) (fun b hb => hb.elim) x
      exact ⟨q.weaken fun b hb => .inl hb, c.mono (Keeps.sub fun b z => by
        rcases z with z | z | z
        · exact .inl (.inl z)
        · exact .inr (.inl z)
        · exact .inl (.inr z))⟩
  | exc e hp' =>
    rw [e] at h'
    intro cls dd as' H' r' x z
    obtain ⟨q, k⟩ := r.up (Z := fun _ => False) (r'.weaken fun b hb => hb.elim id False.elim) (fun b hb => hb.elim) x
    exact h' cls dd as' H' (q.weaken fun b hb => .inl hb) (x0.trans x.frame) (z.mono (Keeps.sub fun b z => by
      rcases z with z | z | z
      · exact .inl (.inl z)
      · exact .inr (.inl z)
      · exact .inl (.inr z)))
end
section
variable {G : G0} {X : Cx} {Wd : WX} {cl : Call} {e : Expr} {es : List Expr} {ca : C} {pos p : Pos} {x : Str} {n f : Nat} {fd : FuncData} {ps : List Str}
/-- the context belongs to the program's world -/
structure CxP (G : G0) (X : Cx) : Prop where
  P : X.prog = G.P
  w : X.w = G.w
  K : X.K = G.K
  mg : X.mg = G.mg
  base : X.base = G.base
theorem run_call (C : CxP G X) {gd : Bool} (F : FnG G cl n f fd ps gd) (hr : Room n X.A) (hg : gd = true → X.A.guards = some []) (hb : Binds G.K fd ps []) (tk : Takes X Wd) {pins : List (Addr × Obj)} {σ : St} {H : Hp} {s : Shared} {Q : VK} {us : List Value} {vs : List V} (I : Inv X pins σ H s) (r : Vals vs us)
    (h : spF G cl f vs H Q (fun cls dd H' => Wd cls dd σ H')) : wpAny (model X.prog X.w) X.A (call (.ref (G.fa f)) us) (EP X pins σ Q) X.xe s := by
  have hl : vs.length = ps.length := by
    obtain ⟨B, as, hp, ds, _, rs, h⟩ := h
    rw [RepL.length rs]
    refine F.len ds hp fun z => ?_
    rw [z] at h
    exact h
  have hu : us.length = ps.length := by rw [← r.length]; exact hl
  have e0 : Env0 G.P G.w G.K G.mg G.base X.A X.stack s H := by
    have := I.env0
    rw [C.P, C.w, C.K, C.mg, C.base] at this
    exact this
  have run := F.run X.A X.stack s H ⟨us, []⟩ us vs Q _ hr hg e0 (by have := hb s us (by have := I.kIn; rw [C.K] at this; exact this) (by simpa using hu); simpa using this) r hl h
  rw [C.P, C.w]
  refine wpAny_call (codeAny_mono run fun r s' hq => ?_)
  rw [← C.P, ← C.w] at hq
  cases r with
  | error e => exact tk e s' (XE.of_call I (fun _ _ _ h => h) hq)
  | ok fl =>
    cases fl with
    | ret u => exact I.after hq
    | next => exact False.elim hq
    | brk => exact False.elim hq
    | cont => exact False.elim hq
theorem s_call (C : CxP G X) {gd : Bool} (F : FnG G cl n f fd ps gd) (hr : Room n X.A) (hgd : gd = true → X.A.guards = some []) (hb : Binds G.K fd ps []) (tk : Takes X Wd) (hg : Gl X x) (hm : G.mg x = some (.ref (G.fa f))) (hk : PySem.W.keepIn G.K (.ref (G.fa f)) = true)
    (ha : PA X es (TL G Wd (RZs G) (evL cl ca))) (hn : es = [] → ca = .nil) (hs : noStar es = true) (hd : (x == ("__debug__" : Str)) = false) :
    PE X (.Call (.Name x p) es [] pos) (TF G Wd (evF cl (.call f ca))) := by
  rw [evF_call]
  refine ⟨fun pins s σ H Q I h => ?_⟩
  obtain ⟨B, as, st, r, h⟩ := h
  refine wpAny_Call_Name_kw (ld_glob I hg (by rw [C.mg]; exact hm) ?_ hd)
  have hA := ha.run pos pins s σ H _ I ⟨B, as, st, r, (Ans.bind h).imp (fun ds s1 h vs as1 H1 q1 x1 r1 => (show spF G cl f vs H1 Q (fun cls dd H' => Wd cls dd σ H') from call_in q1 r1 x1 h)) fun _ _ h => h⟩
  cases es with
  | nil =>
    obtain rfl := hn rfl
    exact PySem.W.callWith_K0 I.kIn (by rw [C.K]; exact hk) (run_call C F hr hgd hb tk (us := []) (vs := []) I .nil (call_in r .nil .refl (Ans.pure (Ans.bind h))))
  | cons e es =>
    refine PySem.W.callWith_K (h₀ := X.base) I.ok.mod.kin (by rw [C.K]; exact hk) (thn hA fun us s1 ⟨vs, H1, I1, r, q⟩ => ⟨I1.kIn, ?_⟩) (star_cons hs).1 (star_any (star_cons (env := X.env) hs).2)
    exact run_call C F hr hgd hb tk I1 r q
end
end Fw
set_option linter.all false
set_option Elab.async false
set_option maxRecDepth 100000
/-! Statements: readings, targets, assignments, returns. -/
namespace Fw
open PySem PySem.Spec L2
open PyProof.Rows hiding St
/-- what is wanted of an error of a statement -/
def XS (G : G0) (B : Addr → Prop) (Wd : WX) (as : List Addr) (O : Addr → Prop) (H : Hp) (e : Exc) (s' : Sta) : Prop :=
  ∀ (cls : Value) (dd : Option Addr) (σ' : St) (as' : List Addr) (H' : Hp), Rel G B as' σ' H' s' → Ext as O H as' (Own s'.fr σ') H' → ExcR G (Wof B as' s'.fr σ') as' H' e cls dd → Wd cls dd σ' H'
/-- what is told: a value, the frame forgotten -/
def RV (G : G0) (B : Addr → Prop) (as : List Addr) (O : Addr → Prop) (H : Hp) (r : Bool × D) (s' : Sta) (v : V) (as' : List Addr) (H' : Hp) : Prop :=
  Ext as O H as' (Own [] []) H' ∧
  (if r.1 = true then ∃ a, v = .ref a ∧ (O a ∨ ¬ Th H a) ∧ ¬ B a ∧ Rel G (fun b => B b ∨ b = a) as' [] H' ⟨[], s'.hp⟩ ∧ Cont G (Wof (fun b => B b ∨ b = a) as' [] []) as' H' a r.2
   else Rel G B as' [] H' ⟨[], s'.hp⟩ ∧ Rep G (Wof B as' [] []) as' H' v r.2)
/-- the ends of a statement -/
def FlowR (G : G0) (B : Addr → Prop) (as : List Addr) (O : Addr → Prop) (H : Hp) (D : Ends) : Flow → Sta → Prop
  | .nx, s' => ∀ (σ' : St) (as' : List Addr) (H' : Hp), Rel G B as' σ' H' s' → Ext as O H as' (Own s'.fr σ') H' → D.nx σ' H'
  | .brk, s' => ∀ (σ' : St) (as' : List Addr) (H' : Hp), Rel G B as' σ' H' s' → Ext as O H as' (Own s'.fr σ') H' → D.bk σ' H'
  | .cont, s' => ∀ (σ' : St) (as' : List Addr) (H' : Hp), Rel G B as' σ' H' s' → Ext as O H as' (Own s'.fr σ') H' → D.ct σ' H'
  | .ret b d, s' => ∀ (v : V) (as' : List Addr) (H' : Hp), RV G B as O H (b, d) s' v as' H' → D.rt v H'
/-- the reading of a statement -/
def TSs (G : G0) (Wd : WX) (m : M Flow) : TS := fun D σ H => ∃ (B : Addr → Prop) (as : List Addr) (s : Sta), Rel G B as σ H s ∧ Ans (m s) (FlowR G B as (Own s.fr σ) H D) (XS G B Wd as (Own s.fr σ) H)
/-- only the slots is are set otherwise -/
def Same (is : List Nat) (σ σ' : St) : Prop := σ'.length = σ.length ∧ ∀ j, j ∉ is → σ'[j]? = σ[j]?
theorem Same.refl {is : List Nat} {σ : St} : Same is σ σ := ⟨rfl, fun _ _ => rfl⟩
/-- the reading of a target that takes a value -/
def TGe (G : G0) (Wd : WX) (is : List Nat) (f : Bool × D → M Unit) : TG := fun v σ H Q => ∃ (B : Addr → Prop) (as0 : List Addr) (O0 : Addr → Prop) (H0 : Hp) (r : Bool × D) (s : Sta) (as : List Addr), (∀ a, B a → Th H0 a) ∧ PV G B σ as0 O0 H0 r s v as H ∧
  Ans (f r s) (fun _ s' => ∀ (σ' : St) (as' : List Addr) (H' : Hp), Rel G B as' σ' H' s' → Ext as0 O0 H0 as' (Own s'.fr σ') H' → Same is σ σ' → Q σ' H') (XS G B Wd as0 O0 H0)
section
variable {G : G0} {B Z : Addr → Prop} {as as' as0 as1 : List Addr} {σ σ' : St} {H H' H0 H1 : Hp} {s s' : Sta} {O O0 O1 : Addr → Prop} {Wd : WX} {D : Ends} {i : Nat} {v : V} {d : Fw.D} {r : Bool × Fw.D} {a : Addr} {x : Exc}
theorem XS.later (h : XS G B Wd as O H x s') (e : Ext as O H as1 O1 H1) : XS G B Wd as1 O1 H1 x s' := fun cls dd σ' as' H' r y z => h cls dd σ' as' H' r (e.trans y) z
theorem XS.xw (h : XS G B Wd as O H x s') : XW G B Wd σ as O H x s' := fun cls dd as' H' r y z => h cls dd σ as' H' r y z
theorem RV.earlier (e : Ext as O H as1 O1 H1) (h : RV G B as1 O1 H1 r s' v as' H') : RV G B as O H r s' v as' H' := by
  obtain ⟨y, h⟩ := h
  refine ⟨e.trans y, ?_⟩
  by_cases q : r.1 = true
  · rw [if_pos q] at h ⊢
    obtain ⟨a, ev, n, z⟩ := h
    refine ⟨a, ev, ?_, z⟩
    rcases n with n | n
    · exact e.own a n
    · exact .inr fun z => n (e.dom a z)
  · rw [if_neg q] at h ⊢
    exact h
theorem FlowR.later {f : Flow} (h : FlowR G B as O H D f s') (e : Ext as O H as1 O1 H1) : FlowR G B as1 O1 H1 D f s' := by
  cases f with
  | nx => exact fun σ' as' H' r y => h σ' as' H' r (e.trans y)
  | brk => exact fun σ' as' H' r y => h σ' as' H' r (e.trans y)
  | cont => exact fun σ' as' H' r y => h σ' as' H' r (e.trans y)
  | ret b d => exact fun v as' H' z => h v as' H' (z.earlier e)
theorem Rel.drop (r : Rel G B as σ H s) : Rel G B as [] H ⟨[], s.hp⟩ ∧ Keeps (Wof B as s.fr σ) as H (Wof B as [] []) as H :=
  ⟨r.down.weaken fun _ h => .inl h, Keeps.sub fun b z => by
    rcases z with z | z | z
    · exact .inl z
    · exact .inr (.inl z)
    · exact absurd z (no_own b)⟩
theorem Ext.drop (e : Ext as O H as' O1 H') : Ext as O H as' (Own [] []) H' := ⟨e.pre, e.new, fun a h => absurd h (no_own a), e.keep, e.dom⟩
theorem RV.of_pv (hB : ∀ a, B a → Th H a) (h : PV G B σ as O H r s' v as' H') : RV G B as O H r s' v as' H' := by
  obtain ⟨e, h⟩ := h
  refine ⟨e.drop, ?_⟩
  by_cases q : r.1 = true
  · rw [if_pos q] at h ⊢
    obtain ⟨a, ev, n, r, c⟩ := h
    exact ⟨a, ev, .inr n, fun z => n (hB a z), r.drop.1, c.mono r.drop.2 fun _ e _ => e⟩
  · rw [if_neg q] at h ⊢
    exact ⟨h.1.drop.1, h.2.mono h.1.drop.2⟩
/-! ### slots -/
theorem set_at {l : List Slot} {z : Slot} {j : Nat} (hi : i < l.length) : (l.set i z)[j]? = if j = i then some z else l[j]? := by
  by_cases h : j = i
  · subst h; rw [if_pos rfl, List.getElem?_set_self hi]
  · rw [if_neg h, List.getElem?_set_ne (Ne.symm h)]
theorem set_atV {l : St} {z : Option V} {j : Nat} (hi : i < l.length) : (l.set i z)[j]? = if j = i then some z else l[j]? := by
  by_cases h : j = i
  · subst h; rw [if_pos rfl, List.getElem?_set_self hi]
  · rw [if_neg h, List.getElem?_set_ne (Ne.symm h)]
theorem Rel.set_val (r : Rel G B as σ H s) (q : Rep G (Wof B as s.fr σ) as H v d) (hi : i < s.fr.length) :
    Rel G B as (σ.set i (some v)) H { s with fr := s.fr.set i (.val d) } ∧ ∀ b, Own (s.fr.set i (.val d)) (σ.set i (some v)) b → Own s.fr σ b := by
  have hj : i < σ.length := by rw [← r.len]; exact hi
  have less : ∀ b, Own (s.fr.set i (.val d)) (σ.set i (some v)) b → Own s.fr σ b := fun b ⟨j, c, h1, h2⟩ => by
    rw [set_at hi] at h1
    rw [set_atV hj] at h2
    by_cases h : j = i
    · rw [if_pos h] at h1; cases h1
    · rw [if_neg h] at h1 h2; exact ⟨j, c, h1, h2⟩
  have k : Keeps (Wof B as s.fr σ) as H (Wof B as (s.fr.set i (.val d)) (σ.set i (some v))) as H := Keeps.sub fun b z => by
    rcases z with z | z | z
    · exact .inl z
    · exact .inr (.inl z)
    · exact .inr (.inr (less b z))
  refine ⟨⟨by simpa using r.len, fun j c h => ?_, fun j c h => ?_, r.hlen, fun n b o h1 h2 => (r.obj n b o h1 h2).mono k fun _ e _ => e, r.nd, fun b h z => r.ao b h (less b z), fun j j' c c' b h1 h2 h3 h4 => ?_, fun b h => ⟨(r.ba b h).1, fun z => (r.ba b h).2 (less b z)⟩, r.bd, r.tabs⟩, less⟩
  · have h' : (s.fr.set i (Slot.val d))[j]? = some (.val c) := h
    rw [set_at hi] at h'
    rw [set_atV hj]
    by_cases e : j = i
    · rw [if_pos e] at h' ⊢; cases h'; exact ⟨v, rfl, q.mono k⟩
    · rw [if_neg e] at h' ⊢
      obtain ⟨w, e2, q⟩ := r.val j c h'
      exact ⟨w, e2, q.mono k⟩
  · have h' : (s.fr.set i (Slot.val d))[j]? = some (.own c) := h
    rw [set_at hi] at h'
    rw [set_atV hj]
    by_cases e : j = i
    · rw [if_pos e] at h'; cases h'
    · rw [if_neg e] at h' ⊢
      obtain ⟨b, e2, q⟩ := r.own j c h'
      exact ⟨b, e2, q.mono k fun _ e _ => e⟩
  · have h1' : (s.fr.set i (Slot.val d))[j]? = some (.own c) := h1
    have h2' : (s.fr.set i (Slot.val d))[j']? = some (.own c') := h2
    rw [set_at hi] at h1' h2'
    rw [set_atV hj] at h3 h4
    by_cases e : j = i
    · rw [if_pos e] at h1'; cases h1'
    · by_cases e' : j' = i
      · rw [if_pos e'] at h2'; cases h2'
      · rw [if_neg e] at h1' h3; rw [if_neg e'] at h2' h4
        exact r.oo j j' c c' b h1' h2' h3 h4
theorem Rel.set_own (r : Rel G (fun b => B b ∨ b = a) as σ H s) (nb : ¬ B a) (q : Cont G (Wof (fun b => B b ∨ b = a) as s.fr σ) as H a d) (hi : i < s.fr.length) :
    Rel G B as (σ.set i (some (.ref a))) H { s with fr := s.fr.set i (.own d) } ∧ ∀ b, Own (s.fr.set i (.own d)) (σ.set i (some (.ref a))) b → Own s.fr σ b ∨ b = a := by
  have hj : i < σ.length := by rw [← r.len]; exact hi
  obtain ⟨na, no⟩ := r.ba a (.inr rfl)
  have less : ∀ b, Own (s.fr.set i (.own d)) (σ.set i (some (.ref a))) b → Own s.fr σ b ∨ b = a := fun b ⟨j, c, h1, h2⟩ => by
    rw [set_at hi] at h1
    rw [set_atV hj] at h2
    by_cases h : j = i
    · rw [if_pos h] at h2; cases h2; exact .inr rfl
    · rw [if_neg h] at h1 h2; exact .inl ⟨j, c, h1, h2⟩
  have k : Keeps (Wof (fun b => B b ∨ b = a) as s.fr σ) as H (Wof B as (s.fr.set i (.own d)) (σ.set i (some (.ref a)))) as H := Keeps.sub fun b z => by
    rcases z with z | z | z
    · exact .inl (.inl z)
    · exact .inr (.inl z)
    · rcases less b z with z | z
      · exact .inr (.inr z)
      · exact .inl (.inr z)
  refine ⟨⟨by simpa using r.len, fun j c h => ?_, fun j c h => ?_, r.hlen, fun n b o h1 h2 => (r.obj n b o h1 h2).mono k fun _ e _ => e, r.nd, fun b h z => ?_, fun j j' c c' b h1 h2 h3 h4 => ?_, fun b h => ⟨(r.ba b (.inl h)).1, fun z => ?_⟩, fun b h => r.bd b (.inl h), r.tabs⟩, less⟩
  · have h' : (s.fr.set i (Slot.own d))[j]? = some (.val c) := h
    rw [set_at hi] at h'
    rw [set_atV hj]
    by_cases e : j = i
    · rw [if_pos e] at h'; cases h'
    · rw [if_neg e] at h' ⊢
      obtain ⟨w, e2, q⟩ := r.val j c h'
      exact ⟨w, e2, q.mono k⟩
  · have h' : (s.fr.set i (Slot.own d))[j]? = some (.own c) := h
    rw [set_at hi] at h'
    rw [set_atV hj]
    by_cases e : j = i
    · rw [if_pos e] at h' ⊢; cases h'; exact ⟨a, rfl, q.mono k fun _ e _ => e⟩
    · rw [if_neg e] at h' ⊢
      obtain ⟨b, e2, q⟩ := r.own j c h'
      exact ⟨b, e2, q.mono k fun _ e _ => e⟩
  · rcases less b z with z | z
    · exact r.ao b h z
    · subst z; exact na h
  · have h1' : (s.fr.set i (Slot.own d))[j]? = some (.own c) := h1
    have h2' : (s.fr.set i (Slot.own d))[j']? = some (.own c') := h2
    rw [set_at hi] at h1' h2'
    rw [set_atV hj] at h3 h4
    by_cases e : j = i
    · by_cases e' : j' = i
      · rw [e, e']
      · rw [if_pos e] at h3; rw [if_neg e'] at h2' h4
        cases h3
        exact absurd ⟨j', c', h2', h4⟩ no
    · by_cases e' : j' = i
      · rw [if_pos e'] at h4; rw [if_neg e] at h1' h3
        cases h4
        exact absurd ⟨j, c, h1', h3⟩ no
      · rw [if_neg e] at h1' h3; rw [if_neg e'] at h2' h4
        exact r.oo j j' c c' b h1' h2' h3 h4
  · rcases less b z with z | z
    · exact (r.ba b (.inl h)).2 z
    · subst z; exact nb h
end
end Fw
set_option linter.all false
set_option Elab.async false
set_option maxRecDepth 100000
/-! Statements: assignments, returns, conditions, sequences. -/
namespace Fw
open PySem PySem.Spec L2
open PyProof.Rows hiding St
section
variable {G : G0} {X : Cx} {Wd : WX} {cl : Call} {a b c e o : Expr} {es : List Expr} {ca cb cc ct : C} {pos : Pos} {x : Str} {i : Nat} {is : List Nat} {l1 l2 : List Stmt}
theorem PG.imp {e : Expr} {t t' : TG} (h : PG X e t) (i : ∀ v σ H Q, t' v σ H Q → t v σ H Q) : PG X e t' := ⟨fun pins s σ H v u Q I r q => h.run pins s σ H v u Q I r (i v σ H Q q)⟩
theorem PGs.imp {e : List Expr} {t t' : TGs} (h : PGs X e t) (i : ∀ v σ H Q, t' v σ H Q → t v σ H Q) : PGs X e t' := ⟨fun pins s σ H v u Q I r q => h.run pins s σ H v u Q I r (i v σ H Q q)⟩
theorem PG.or {e : Expr} {t t' : TG} (h : PG X e t) (h' : PG X e t') : PG X e (fun v σ H Q => t v σ H Q ∨ t' v σ H Q) := ⟨fun pins s σ H v u Q I r q => q.elim (h.run pins s σ H v u Q I r) (h'.run pins s σ H v u Q I r)⟩
theorem setSlot_ok {z : Slot} {s : Sta} {ok : Unit → Sta → Prop} {ex : Exc → Sta → Prop} (h : Ans (setSlot i z s) ok ex) : i < s.fr.length ∧ ok () { s with fr := s.fr.set i z } := by
  have h' : Ans (if i < s.fr.length then .ok () { s with fr := s.fr.set i z } else .stk : R Unit) ok ex := h
  by_cases hi : i < s.fr.length
  · rw [if_pos hi] at h'; exact ⟨hi, h'⟩
  · rw [if_neg hi] at h'; exact h'.elim
/-! ### targets -/
theorem g_name_in {v : V} {σ : St} {H : Hp} {Q : St → Hp → Prop} (h : TGe G Wd [i] (asg1 cl (.var i)) v σ H Q) : gName i v σ H Q := by
  obtain ⟨B, as0, O0, H0, r, s, as, hB, pv, h⟩ := h
  obtain ⟨f, d⟩ := r
  obtain ⟨e, pv⟩ := pv
  have h' : Ans (setSlot i (if f then .own d else .val d) s) _ _ := h
  obtain ⟨hi, h'⟩ := setSlot_ok h'
  cases f with
  | true =>
    rw [if_pos rfl] at pv
    obtain ⟨a, rfl, n, r, c⟩ := pv
    obtain ⟨q, less⟩ := r.set_own (fun z => n (hB a z)) c hi
    exact h' _ as H q ⟨e.pre, e.new, fun b hb => by
      rcases less b hb with z | z
      · exact e.own b z
      · subst z; exact .inr n, e.keep, e.dom⟩ ⟨by simp, fun j hj => List.getElem?_set_ne fun z => hj (by simp [z])⟩
  | false =>
    rw [if_neg (by simp)] at pv
    obtain ⟨q, less⟩ := pv.1.set_val pv.2 hi
    exact h' _ as H q ⟨e.pre, e.new, fun b hb => e.own b (less b hb), e.keep, e.dom⟩ ⟨by simp, fun j hj => List.getElem?_set_ne fun z => hj (by simp [z])⟩
theorem g_name (hN : X.N.Nodup) (hi : X.N[i]? = some x) (hx : Loc X.env.scope x) (hf : X.fn x = true ∨ X.env.scope.names.lookup x = some .local) : PG X (.Name x pos) (TGe G Wd [i] (asg1 cl (.var i))) :=
  PG.imp (pg_name hN hi hx hf) fun v σ H Q h => g_name_in h
/-- names as targets -/
inductive Nms (X : Cx) : List Expr → List Nat → Prop
  | nil : Nms X [] []
  | cons {i : Nat} {x : Str} {p : Pos} {es : List Expr} {is : List Nat} (hi : X.N[i]? = some x) (hx : Loc X.env.scope x) (hf : X.fn x = true ∨ X.env.scope.names.lookup x = some .local) : Nms X es is → Nms X (.Name x p :: es) (i :: is)
def TGsN (G : G0) (is : List Nat) : TGs := fun vs σ H Q => ∃ (B : Addr → Prop) (as : List Addr) (s : Sta) (l : List D), Rel G B as σ H s ∧ RepL G (Wof B as s.fr σ) as H vs l ∧
  Ans (asgVars is l s) (fun _ s' => ∀ (σ' : St), Rel G B as σ' H s' → (∀ b, Own s'.fr σ' b → Own s.fr σ b) → Same is σ σ' → Q σ' H) (fun _ _ => False)
theorem pgs_names (hN : X.N.Nodup) (h : Nms X es is) : PGs X es (TGsN G is) := by
  induction h with
  | nil =>
    refine PGs.imp pgs_nil fun vs σ H Q ⟨B, as, s, l, r, rl, h⟩ => ?_
    cases l with
    | nil => cases rl; exact ⟨rfl, h σ r (fun _ h => h) .refl⟩
    | cons d l => exact False.elim h
  | cons hi hx hf _ ih =>
    refine PGs.imp (pgs_cons (pg_name hN hi hx hf) ih rfl) fun vs σ H Q ⟨B, as, s, l, r, rl, h⟩ => ?_
    cases l with
    | nil => exact False.elim h
    | cons d l =>
      cases rl with
      | cons q rl =>
        obtain ⟨hi, h⟩ := setSlot_ok (Ans.bind h)
        obtain ⟨q', less⟩ := r.set_val q hi
        refine ⟨_, _, rfl, B, as, _, l, q', rl.mono (Keeps.sub fun b z => ?_), Ans.imp h (fun _ s' h σ' r' ls sm => h σ' r' (fun b hb => less b (ls b hb)) ⟨by rw [sm.1]; simp, fun j hj => by
          rw [List.mem_cons, not_or] at hj
          rw [sm.2 j hj.2, List.getElem?_set_ne (Ne.symm hj.1)]⟩) fun _ _ h => h⟩
        rcases z with z | z | z
        · exact .inl z
        · exact .inr (.inl z)
        · exact .inr (.inr (less b z))
theorem nms_len (h : Nms X es is) : (assignEach es X.env).length = is.length ∧ (assignEach es X.env).findIdx? (·.1) = none := by
  induction h with
  | nil => exact ⟨rfl, rfl⟩
  | @cons i x p es is hi hx hf _ ih =>
    have e : assignEach (.Name x p :: es) X.env = (false, assign (.Name x p) X.env) :: assignEach es X.env := rfl
    rw [e]
    refine ⟨by simp [ih.1], ?_⟩
    rw [List.findIdx?_cons]
    simp [ih.2]
theorem asgVars_len : ∀ {is : List Nat} {l : List D} {s : Sta} {ok : Unit → Sta → Prop} {ex : Exc → Sta → Prop}, Ans (asgVars is l s) ok ex → l.length = is.length
  | [], [], _, _, _, _ => rfl
  | [], _ :: _, _, _, _, h => False.elim h
  | _ :: _, [], _, _, _, h => False.elim h
  | i :: is, d :: l, s, ok, ex, h => by
    obtain ⟨_, h⟩ := setSlot_ok (Ans.bind h)
    rw [List.length_cons, List.length_cons, asgVars_len h]
theorem asgVars_noexc : ∀ {is : List Nat} {l : List D} {s : Sta} {ok : Unit → Sta → Prop} {ex : Exc → Sta → Prop}, Ans (asgVars is l s) ok ex → Ans (asgVars is l s) ok (fun _ _ => False)
  | [], [], _, _, _, h => h
  | [], _ :: _, _, _, _, h => False.elim h
  | _ :: _, [], _, _, _, h => False.elim h
  | i :: is, d :: l, s, ok, ex, h => by
    obtain ⟨hi, h⟩ := setSlot_ok (Ans.bind h)
    refine Ans.mk ?_
    have e : setSlot i (.val d) s = .ok () { s with fr := s.fr.set i (.val d) } := by show (if i < s.fr.length then _ else _) = _; rw [if_pos hi]
    rw [e]
    exact asgVars_noexc h
theorem g_tup (hc : X.calm = true) (hK : X.K = G.K) (hN : X.N.Nodup) (h : Nms X es is) {ts : C} (ht : tnames ts = some is) {k} : PG X (.Tuple es k pos) (TGe G Wd is (asg1 cl (.tup ts))) := by
  obtain ⟨h1, h2⟩ := nms_len h
  refine PG.imp (PG.or (pg_tup hc (pgs_names (G := G) hN h) h1 h2) (pg_lst hc (pgs_names (G := G) hN h) h1 h2)) fun v σ H Q ⟨B, as0, O0, H0, r, s, as, hB, pv, hh⟩ => ?_
  have hh' : Ans ((do let is ← lift (tnames ts); let l ← lift (unpack r.2); asgVars is l : M Unit) s) _ _ := hh
  rw [ht] at hh'
  obtain ⟨is', e1, hh'⟩ := Ans.lift (Ans.bind hh')
  cases e1
  obtain ⟨l, e2, hh'⟩ := Ans.lift (Ans.bind hh')
  have rr : Rel G B as σ H s ∧ Ext as0 O0 H0 as (Own s.fr σ) H ∧ Rep G (Wof B as s.fr σ) as H v r.2 := by
    obtain ⟨e, pv⟩ := pv
    by_cases q : r.1 = true
    · rw [if_pos q] at pv
      obtain ⟨a, rfl, n, r', c⟩ := pv
      obtain ⟨n1, n2⟩ := r'.ba a (.inr rfl)
      refine ⟨r'.weaken fun b z => .inl z, e, (c.mono (Keeps.sub fun b z => z.elim (fun z => .inl (.inl z)) .inr) fun _ e _ => e).rep fun z => ?_⟩
      rcases z with z | z | z
      · exact n (hB a z)
      · exact n1 z
      · exact n2 z
    · rw [if_neg q] at pv
      exact ⟨pv.1, e, pv.2⟩
  obtain ⟨r', e, rep⟩ := rr
  obtain ⟨a, xs, rfl, hx, rl⟩ := RepC.seq (.rep rep) e2
  have hlen : xs.length = is.length := by rw [rl.length, asgVars_len hh']
  have fin : TGsN G is xs σ H Q := ⟨B, as, s, l, r', rl, Ans.imp (asgVars_noexc hh') (fun _ s' h σ' r2 less sm => h σ' as H r2 ⟨e.pre, e.new, fun b hb => e.own b (less b hb), e.keep, e.dom⟩ sm) fun _ _ h => h⟩
  rcases hx with hx | hx
  · exact .inr ⟨a, xs, rfl, by rw [hK]; exact hx, hlen, fin⟩
  · exact .inl ⟨a, xs, rfl, by rw [hK]; exact hx, hlen, fin⟩
/-! ### plain statements -/
theorem s_pass : PS X (.Pass pos) (TSs G Wd (evS cl .pass)) := PS.imp ps_pass fun D σ H ⟨B, as, s, r, h⟩ => Ans.pure h σ as H r .refl
theorem s_brk : PS X (.Break pos) (TSs G Wd (evS cl .brk)) := PS.imp ps_break fun D σ H ⟨B, as, s, r, h⟩ => Ans.pure h σ as H r .refl
theorem s_cont : PS X (.Continue pos) (TSs G Wd (evS cl .cont)) := PS.imp ps_continue fun D σ H ⟨B, as, s, r, h⟩ => Ans.pure h σ as H r .refl
theorem s_retN : PS X (.Return none pos) (TSs G Wd (evS cl .retN)) := PS.imp ps_retN fun D σ H ⟨B, as, s, r, h⟩ => Ans.pure h .non as H ⟨Ext.refl.drop, by rw [if_neg (by simp)]; exact ⟨r.drop.1, .non⟩⟩
theorem s_ret (ha : PE X a (TF G Wd (evF cl ca))) : PS X (.Return (some a) pos) (TSs G Wd (evS cl (.ret ca))) := by
  rw [evS_ret]
  exact PS.imp (ps_ret ha) fun D σ H ⟨B, as, s, r, h⟩ => ⟨B, as, s, r, (Ans.bind h).imp (fun v s' h w as' H' pv => h w as' H' (RV.of_pv r.bd pv)) fun _ _ h => h.xw⟩
theorem s_retV (hN : X.N[i]? = some x) (hv : Vis X.env.scope x) (hd : (x == ("__debug__" : Str)) = false) (hcd : (x == ("__classdict__" : Str)) = false) {p : Pos} : PS X (.Return (some (.Name x p)) pos) (TSs G Wd (evS cl (.retV i))) := by
  refine PS.imp (ps_ret (pe_var hN hv hd hcd)) fun D σ H ⟨B, as, s, r, h⟩ => ?_
  have h' : Ans (match s.fr[i]? with | some (.val d) => .ok (.ret false d) s | some (.own d) => .ok (.ret true d) s | _ => .stk : R Flow) _ _ := h
  cases q : s.fr[i]? with
  | none => rw [q] at h'; exact False.elim h'
  | some sl =>
    rw [q] at h'
    cases sl with
    | none => exact False.elim h'
    | val d =>
      obtain ⟨v, e, rv⟩ := r.val i d q
      exact ⟨v, e, h' v as H ⟨Ext.refl.drop, by rw [if_neg (by simp)]; exact ⟨r.drop.1, rv.mono r.drop.2⟩⟩⟩
    | own d =>
      obtain ⟨a, e, c⟩ := r.own i d q
      have oa : Own s.fr σ a := ⟨i, d, q, e⟩
      refine ⟨_, e, h' (.ref a) as H ⟨Ext.refl.drop, ?_⟩⟩
      rw [if_pos rfl]
      refine ⟨a, rfl, .inl oa, fun z => (r.ba a z).2 oa, r.down.weaken fun b z => ?_, c.mono (Keeps.sub fun b z => ?_) fun _ e _ => e⟩
      · rcases z with z | z
        · exact .inl z
        · subst z; exact .inr oa
      · rcases z with (z | z) | z | z
        · exact .inl z
        · subst z; exact .inr (.inr oa)
        · exact .inr (.inl z)
        · exact absurd z (no_own b)
theorem s_expr (ha : PE X a (TF G Wd (evF cl ca))) (hs : swapsWith a none pos.line X.env = pure false) : PS X (.Expr a pos) (TSs G Wd (evS cl (.expr ca))) := by
  rw [evS_expr]
  refine PS.imp (ps_expr (PE.datum ha) hs) fun D σ H ⟨B, as, s, r, h⟩ => ⟨B, as, s, r, (Ans.bind h).imp (fun v s' h w as' H' r' x' _ => h σ as' H' r' x') fun _ _ h => h.xw⟩
theorem asg_in {g : TG} {te : TE} {D : Ends} {σ : St} {H : Hp} (ht : te = TF G Wd (evF cl ca)) (hg : g = TGe G Wd is (asg1 cl ct)) (h : TSs G Wd (evS cl (.asg ct ca)) D σ H) : tAsg te g D σ H := by
  subst ht hg
  rw [evS_asg] at h
  obtain ⟨B, as, s, r, h⟩ := h
  exact ⟨B, as, s, r, (Ans.bind h).imp (fun v s' h w as' H' pv => ⟨B, as, _, H, v, s', as', r.bd, pv, (Ans.bind h).imp (fun _ s2 h σ' as' H' r' x' _ => h σ' as' H' r' x') fun _ _ h => h⟩) fun _ _ h => h.xw⟩
theorem s_asg {tg : Expr} (ha : PE X a (TF G Wd (evF cl ca))) (hg : PG X tg (TGe G Wd is (asg1 cl ct))) (hs : swapsWithSole [tg] a pos.line X.env = pure false) (hw : swappedStores [tg] a X.env = pure none) (h1 : (assignEach [tg] X.env).map (·.2) = [assign tg X.env]) :
    PS X (.Assign [tg] a pos) (TSs G Wd (evS cl (.asg ct ca))) :=
  PS.imp (ps_asg ha hg hs hw h1) fun D σ H h => asg_in rfl rfl h
theorem s_if {m : M Bool} {m1 m2 : M Flow} (hc : PT X c (TB G Wd m)) (ha : PSs X l1 (TSs G Wd m1)) (hb : PSs X l2 (TSs G Wd m2)) : PS X (.If c l1 l2 pos) (TSs G Wd (do let t ← m; if t then m1 else m2)) :=
  PS.imp (ps_if hc ha hb) fun D σ H ⟨B, as, s, r, h⟩ => ⟨B, as, s, r, (Ans.bind h).imp (fun k s' h as' H' r' x' => by
    cases k with
    | true => rw [if_pos rfl] at h ⊢; exact ⟨B, as', s', r', h.imp (fun _ _ h => h.later x') fun _ _ h => h.later x'⟩
    | false => rw [if_neg (by simp)] at h ⊢; exact ⟨B, as', s', r', h.imp (fun _ _ h => h.later x') fun _ _ h => h.later x'⟩) fun _ _ h => h.xw⟩
theorem ss_nil : PSs X [] (TSs G Wd (evS cl .pass)) := PSs.imp pss_nil fun D σ H ⟨B, as, s, r, h⟩ => Ans.pure h σ as H r .refl
theorem ss_one {st : Stmt} {t : TS} (h : PS X st t) : PSs X [st] t := pss_one h
theorem ss_cons {st : Stmt} {l : List Stmt} (h1 : PS X st (TSs G Wd (evS cl ca))) (h2 : PSs X l (TSs G Wd (evS cl cb))) : PSs X (st :: l) (TSs G Wd (evS cl (.seq ca cb))) := by
  rw [evS_seq]
  refine PSs.imp (pss_cons h1 h2) fun D σ H ⟨B, as, s, r, h⟩ => ⟨B, as, s, r, (Ans.bind h).imp (fun f s' h => ?_) fun _ _ h => h⟩
  cases f with
  | nx => exact fun σ' as' H' r' x' => ⟨B, as', s', r', h.imp (fun _ _ h => h.later x') fun _ _ h => h.later x'⟩
  | brk => exact h
  | cont => exact h
  | ret b d => exact h
end
end Fw
set_option linter.all false
set_option Elab.async false
set_option maxRecDepth 100000
/-! Statements: stores into containers, op=, while. -/
namespace Fw
open PySem PySem.Spec L2
open PyProof.Rows hiding St
section
variable {G : G0} {X : Cx} {Wd : WX} {cl : Call} {a b c e o : Expr} {es : List Expr} {ca cb cc ct ci : C} {pos : Pos} {x : Str} {i : Nat} {is : List Nat} {l1 l2 : List Stmt}
/-- a store by values -/
def rSet (G : G0) : TSet := fun o i v H Q => ∃ (W : Addr → Prop) (as : List Addr) (dd di dv d' : D), RepC G W as H o dd ∧ Rep G W as H i di ∧ Rep G W as H v dv ∧ setop dd di dv = some d' ∧
  ∀ (p : Addr) (ob : HO), o = .ref p → (W p → Cont G W as (upd H p ob) p d') → Q (upd H p ob)
theorem upd_off {H H1 : Hp} {a : Addr} {o : HO} (h : ∀ b, b ≠ a → H1 b = H b) : upd H1 a o = upd H a o := by
  funext b
  unfold upd
  by_cases e : b = a
  · rw [if_pos e, if_pos e]
  · rw [if_neg e, if_neg e, h b e]
theorem RepT.put {W : Addr → Prop} {as : List Addr} {H : Hp} {k : List Key} {v : V} {d : D} (rv : Rep G W as H v d) : ∀ {l : List (D × D)} {ks : List (List Key × V)}, RepT G W as H ks l → (ks.map (·.1)).Nodup → RepT G W as H (putK ks k v) (put (.tup (k.map keyD)) d l)
  | [], _, h, _ => by cases h; exact .cons rv .nil
  | (c', u) :: l, _, h, nd => by
    obtain ⟨c, w, xs, rfl, e1, rw', h'⟩ := h.inv
    have e1 : c' = .tup (c.map keyD) := e1
    subst e1
    rw [List.map_cons, List.nodup_cons] at nd
    unfold Fw.put
    rw [D.beq, beq_keys]
    by_cases q : c = k
    · subst q
      rw [if_pos (by simp)]
      have e2 : putK ((c, w) :: xs) c v = (c, v) :: xs := by
        unfold putK
        rw [if_pos (by simp), List.map_cons, if_pos rfl]
        congr 1
        refine (List.map_congr_left fun p hp => ?_).trans (List.map_id _)
        rw [if_neg fun z => nd.1 (by rw [← z]; exact List.mem_map.mpr ⟨p, hp, rfl⟩)]
        rfl
      rw [e2]
      exact .cons rv h'
    · rw [if_neg (by simpa using q)]
      have e2 : putK ((c, w) :: xs) k v = (c, w) :: putK xs k v := by
        unfold putK
        rw [List.any_cons, decide_eq_false q, Bool.false_or]
        split
        · rw [List.map_cons, if_neg q]
        · rfl
      rw [e2]
      exact .cons rw' (RepT.put rv h' nd.2)
theorem KT_keys {H : Hp} {kvs : List (List Key × V)} {xs : List (List Key × Addr × Value)} (r : KT H kvs xs) : kvs.map (·.1) = xs.map (·.1) := by
  induction r with
  | nil => rfl
  | cons h _ ih => rw [List.map_cons, List.map_cons, ih, h.1]
theorem set_of (hu : X.A.units + 1 < cLine) : PSet X (rSet G) := by
  intro pins s σ H o i v ov iv u Q I ro ri rv ⟨W, as, dd, di, dv, d', hd, hi, hv, e, q⟩
  cases dd with
  | lst l =>
    cases di <;> try cases e
    rename_i k
    have e : (ixOf l.length k).map (fun j => D.lst (l.set j dv)) = some d' := e
    cases ej : ixOf l.length k with
    | none => rw [ej] at e; cases e
    | some j =>
      rw [ej] at e; cases e
      obtain ⟨a, xs, rfl, ea, rl⟩ := Rep.lst_inv hd
      obtain rfl := Rep.int_inv (.rep hi)
      exact set_list pins s σ H _ _ v ov iv u Q I ro ri rv ⟨a, xs, k, j, rfl, rfl, ea, by rw [rl.length]; exact ej, q a _ rfl fun w => .lst upd_same ((rl.set j hv).mono (keeps_upd w))⟩
  | dct l =>
    have e : (if fits di l then (if l.length < sizeLine then some (D.dct (put di dv l)) else none) else none) = some d' := by cases di <;> exact e
    by_cases hf : fits di l = true
    · rw [if_pos hf] at e
      by_cases hz : l.length < sizeLine
      · rw [if_pos hz] at e; cases e
        unfold fits at hf
        by_cases hk : di.isKey1 = true
        · rw [if_pos hk] at hf
          obtain ⟨z, rfl⟩ := key1_inv hk
          obtain rfl := Rep.key hi
          obtain ⟨a, ks, H1, rfl, I1, e1, r, bk, ne⟩ := hd.asK I hf
          obtain rfl : ov = Value.ref a := ro
          have nd : (ks.map (·.1)).Nodup := by
            obtain ⟨_, _, vs, rel, o, es, ep, _, _, _, _, _, nd⟩ := dk_of I1.hok e1
            rw [rel.keys]; exact nd
          refine d_setItem hu I1 (.k e1 (by rw [r.length]; exact hz)) ri rv fun s' I' => ⟨_, I', ?_⟩
          rw [upd_off ne]
          exact q a _ rfl fun w => .dctK upd_same ((r.put hv nd).mono (keeps_upd w))
        · rw [if_neg hk, Bool.and_eq_true] at hf
          obtain ⟨a, ks, H1, rfl, I1, e1, r, bk, ne, nt⟩ := hd.asT I hf.2
          have ⟨ts, et⟩ : ∃ ts, di = .tup ts := by
            cases di <;> first | exact ⟨_, rfl⟩ | exact absurd rfl hk | cases hf.1
          subst et
          obtain ⟨zs, rfl⟩ := keys_inv (l := ts) hf.1
          obtain ⟨b, xs, rfl, eb, _, rb⟩ := Rep.tup_inv (.rep hi)
          obtain rfl := rb.keys
          have hab : b ≠ a := fun z => nt _ (z ▸ eb)
          obtain rfl : ov = Value.ref a := ro
          have nd : (ks.map (·.1)).Nodup := by
            obtain ⟨_, _, xs, rel, o, es, ep, _, _, _, _, _, nd⟩ := dt_of I1.hok e1
            rw [KT_keys rel]; exact nd
          refine d_setItem hu I1 (.t e1 (by rw [ne b hab]; exact eb) (by rw [r.length]; exact hz)) ri rv fun s' I' => ⟨_, I', ?_⟩
          rw [upd_off ne]
          exact q a _ rfl fun w => .dctT upd_same ((r.put hv nd).mono (keeps_upd w))
      · rw [if_neg hz] at e; cases e
    · rw [if_neg hf] at e; cases e
  | _ => cases e
theorem PG.sub_assign {i : Expr} (hi : ∀ lo hi st p, i ≠ .Slice lo hi st p) : ∀ v, assign (.Subscript o i pos) X.env v = (do
      let ov ← holding [v] (eval o X.env)
      let iv ← holding [v, ov] (eval i X.env)
      standAt pos
      holding [v, ov, iv] (setItem ov iv v)
      release [v, ov, iv] []) := by
  intro v
  cases i <;> first | rfl | exact absurd rfl (hi _ _ _ _)
theorem g_sub {i : Expr} (hu : X.A.units + 1 < cLine) (ho : PE X o (TM G Wd (RO G) (opd cc (evF cl cc)))) (hi : PE X i (TF G Wd (evF cl ci))) (hns : ∀ lo hi st p, i ≠ .Slice lo hi st p) : PG X (.Subscript o i pos) (TGe G Wd [] (asg1 cl (.sub cc ci))) := by
  refine PG.imp (pg_sub ho (PE.datum hi) (set_of (G := G) hu) (PG.sub_assign hns)) fun v σ H Q ⟨B, as0, O0, H0, r, s, as, hB, pv, h⟩ => ?_
  have rr : Rel G B as σ H s ∧ Ext as0 O0 H0 as (Own s.fr σ) H ∧ Rep G (Wof B as s.fr σ) as H v r.2 := by
    obtain ⟨e, pv⟩ := pv
    by_cases q : r.1 = true
    · rw [if_pos q] at pv
      obtain ⟨a, rfl, n, r', c⟩ := pv
      obtain ⟨n1, n2⟩ := r'.ba a (.inr rfl)
      refine ⟨r'.weaken fun b z => .inl z, e, (c.mono (Keeps.sub fun b z => z.elim (fun z => .inl (.inl z)) .inr) fun _ e _ => e).rep fun z => ?_⟩
      rcases z with z | z | z
      · exact n (hB a z)
      · exact n1 z
      · exact n2 z
    · rw [if_neg q] at pv
      exact ⟨pv.1, e, pv.2⟩
  obtain ⟨r0, x0, rep⟩ := rr
  rw [asg1_sub] at h
  refine ⟨B, as, s, r0, (Ans.bind h).imp (fun x s1 h v1 as1 H1 q1 x1 r1 => ?_) fun _ _ h => (h.later x0).xw⟩
  refine ⟨B, as1, s1, q1, (Ans.bind h).imp (fun y s2 h v2 as2 H2 q2 x2 r2 => ?_) fun _ _ h => ((h.later x0).later x1).xw⟩
  obtain ⟨d, cd, er, h⟩ := Ans.res' q2 (r1.ext x2) (Ans.bind h)
  obtain ⟨d', ed, h⟩ := Ans.lift (Ans.bind h)
  refine ⟨_, as2, d, _, _, d', cd, r2, (rep.ext (x1.trans x2)), ed, fun p ob ev hc => ?_⟩
  subst ev
  obtain ⟨t, et, h⟩ := store_ok h
  obtain ⟨q3, x3⟩ := q2.store (r1.ext x2) er rfl hc et
  exact h σ as2 _ q3 (x0.trans (x1.trans (x2.trans x3))) .refl
/-- op= on ints -/
def rAug (G : G0) (p : Op) : TIp := fun x y H Q => ∃ (W : Addr → Prop) (as : List Addr) (dx dy z : D), Rep G W as H x dx ∧ Rep G W as H y dy ∧ augD p dx dy = some z ∧ ∀ v, (∀ W as, Rep G W as H v z) → Q v H
theorem aug_inv {p : Op} {dx dy z : D} (e : augD p dx dy = some z) : ∃ i j r, dx = .int i ∧ dy = .int j ∧ p ≠ .pow ∧ binop p (.int i) (.int j) = some r ∧ z = r.2 := by
  cases dx <;> cases dy <;> try cases e
  rename_i i j
  cases p <;> first
    | (cases e; done)
    | (obtain ⟨r, h1, h2⟩ := Option.map_eq_some_iff.mp (show (binop .add (.int i) (.int j)).map (·.2) = some z from e); exact ⟨i, j, r, rfl, rfl, by simp, h1, h2.symm⟩)
    | (obtain ⟨r, h1, h2⟩ := Option.map_eq_some_iff.mp (show (binop .sub (.int i) (.int j)).map (·.2) = some z from e); exact ⟨i, j, r, rfl, rfl, by simp, h1, h2.symm⟩)
    | (obtain ⟨r, h1, h2⟩ := Option.map_eq_some_iff.mp (show (binop .mul (.int i) (.int j)).map (·.2) = some z from e); exact ⟨i, j, r, rfl, rfl, by simp, h1, h2.symm⟩)
    | (obtain ⟨r, h1, h2⟩ := Option.map_eq_some_iff.mp (show (binop .fdiv (.int i) (.int j)).map (·.2) = some z from e); exact ⟨i, j, r, rfl, rfl, by simp, h1, h2.symm⟩)
    | (obtain ⟨r, h1, h2⟩ := Option.map_eq_some_iff.mp (show (binop .mod (.int i) (.int j)).map (·.2) = some z from e); exact ⟨i, j, r, rfl, rfl, by simp, h1, h2.symm⟩)
theorem ip_of {op : Operator} {p : Op} (ho : opOf op = some p) : PIp X op (rAug G p) := by
  intro pins s σ H x y v u Q I rx ry ⟨W, as, dx, dy, z, hx, hy, e, q⟩
  obtain ⟨i, j, r, rfl, rfl, np, eb, rfl⟩ := aug_inv e
  obtain rfl := Rep.int_inv (.rep hx); obtain rfl := Rep.int_inv (.rep hy)
  cases op <;> cases ho
  · rcases add_inv eb with ⟨i', j', e1, e2, rfl⟩ | ⟨_, _, e1, _⟩ | ⟨_, _, e1, _⟩ | ⟨_, _, e1, _⟩ <;> cases e1
    cases e2
    exact iop_add pins s σ H _ _ v u Q I rx ry ⟨i, j, rfl, rfl, q _ fun _ _ => .int _⟩
  · obtain ⟨i', j', e1, e2, rfl⟩ := sub_inv eb
    cases e1; cases e2
    exact iop_sub pins s σ H _ _ v u Q I rx ry ⟨i, j, rfl, rfl, q _ fun _ _ => .int _⟩
  · rcases mul_inv eb with ⟨i', j', e1, e2, hc, rfl⟩ | ⟨_, _, e1, _⟩ <;> cases e1
    cases e2
    exact iop_mul pins s σ H _ _ v u Q I rx ry ⟨i, j, rfl, rfl, hc, q _ fun _ _ => .int _⟩
  · obtain ⟨i', j', e1, e2, hc, rfl⟩ := mod_inv eb
    cases e1; cases e2
    exact iop_mod pins s σ H _ _ v u Q I rx ry ⟨i, j, rfl, rfl, hc, q _ fun _ _ => .int _⟩
  · exact absurd rfl np
  · obtain ⟨i', j', e1, e2, hc, rfl⟩ := fdiv_inv eb
    cases e1; cases e2
    exact iop_fdiv pins s σ H _ _ v u Q I rx ry ⟨i, j, rfl, rfl, hc, q _ fun _ _ => .int _⟩
theorem at_rep {W : Addr → Prop} {as : List Addr} {H : Hp} {l : List D} {xs : List V} {k : Int} {d : D} (r : RepL G W as H xs l) (e : atI l k = some d) : ∃ j z, seqIndex? k xs.length = some j ∧ xs[j]? = some z ∧ j < xs.length ∧ -(xs.length : Int) ≤ k ∧ k < xs.length ∧ Rep G W as H z d := by
  obtain ⟨j, h1, h2, h3, h4, h5⟩ := atI_get e
  obtain ⟨z, hz, rz⟩ := r.get h2
  rw [← r.length] at h1 h3 h4 h5
  exact ⟨j, z, h1, hz, h3, h4, h5, rz⟩
/-- o[i], as getItem has it -/
theorem get_of (hK : X.K = G.K) (hu : X.A.units + 1 < cLine) : PGet X (rSub G) := by
  intro pins s σ H x y v u Q I rx ry ⟨W, as, dx, dy, d, hx, hy, e, q⟩
  have hn := line63
  have tupd : ∀ (a : Addr) (xs : List V) (l : List D) (k : Int), x = .ref a → y = .int k → SqT X.K H a xs → RepL G W as H xs l → atI l k = some d → wpAny (model X.prog X.w) X.A (getItem v u) (EP X pins σ Q) X.xe s := by
    intro a xs l k ex ey hq rl e
    subst ex ey
    obtain rfl : v = Value.ref a := rx
    obtain ⟨t, rfl⟩ := ry
    obtain ⟨its, r, pl, hz⟩ := I.tuple hq
    obtain ⟨j, z, h1, h2, h3, h4, h5, rz⟩ := at_rep rl e
    obtain ⟨w, ew, rw'⟩ := r.get h2
    have hl := r.length
    exact getItem_tuple (j := j) pl (by omega) (by omega) (by rw [List.size_toArray, ← hl]; exact h1) (by simpa using ew) ⟨z, H, I, rw', q z rz⟩
  cases dx with
  | lst l =>
    cases dy <;> try cases e
    rename_i k
    obtain ⟨a, xs, rfl, ea, rl⟩ := Rep.lst_inv hx
    obtain rfl := Rep.int_inv (.rep hy)
    obtain rfl : v = Value.ref a := rx
    obtain ⟨t, rfl⟩ := ry
    obtain ⟨its, r, pl, hz⟩ := I.list (.of ea)
    obtain ⟨j, z, h1, h2, h3, h4, h5, rz⟩ := at_rep rl (show atI l k = some d from e)
    obtain ⟨w, ew, rw'⟩ := r.get h2
    have hl := r.length
    have fin : EP X pins σ Q w s := ⟨z, H, I, rw', q z rz⟩
    by_cases h0 : 0 ≤ k
    · have hj : k.toNat = j := by
        rw [seqIndex_of h0 h5] at h1
        exact Option.some.inj h1
      exact wpAny_getItem_list pl.isList h0 (by omega) (by rw [hj]; simpa using ew) fin
    · have hj : (k + (its.toArray.size : Int)).toNat = j := by
        rw [seqIndex_neg (by omega) h4] at h1
        rw [List.size_toArray, ← hl]
        exact Option.some.inj h1
      exact wpAny_getItem_list_neg pl.isList (by omega) (by rw [List.size_toArray] <;> omega) (by omega) (by rw [hj]; simpa using ew) fin
  | tup l =>
    cases dy <;> try cases e
    rename_i k
    obtain ⟨a, xs, rfl, ea, _, rl⟩ := Rep.tup_inv hx
    obtain rfl := Rep.int_inv (.rep hy)
    exact tupd a xs l k rfl rfl (.of ea) rl e
  | kt l =>
    cases dy <;> try cases e
    rename_i k
    obtain ⟨a, xs, rfl, ea, rl⟩ := Rep.kt_inv hx
    obtain rfl := Rep.int_inv (.rep hy)
    exact tupd a xs l k rfl rfl (by rw [hK]; exact ea H) rl e
  | kd l =>
    cases hx with
    | rep h => cases h
    | cont h => cases h
  | dct l =>
    have e : (if fits dy l then look dy l else none) = some d := by cases dy <;> exact e
    by_cases hf : fits dy l = true
    · rw [if_pos hf] at e
      obtain ⟨a, o, H1, rfl, I1, bk, g, ho⟩ := hx.dget I (.rep hy) hf
      rcases ho with ⟨d', z, h1, rfl, rz⟩ | ⟨h1, rfl⟩
      · rw [e] at h1; cases h1
        obtain rfl : v = Value.ref a := rx
        exact d_getItem hu I1 g ry fun w' s3 I3 rw' => ⟨z, H, bk s3 I3, rw', q z rz⟩
      · rw [e] at h1; cases h1
    · rw [if_neg hf] at e; cases e
  | _ => cases e
theorem s_augS {i : Expr} {op : Operator} {p : Op} (hK : X.K = G.K) (hu : X.A.units + 1 < cLine) (hp : opOf op = some p) (ho : PE X o (TM G Wd (RO G) (opd cc (evF cl cc)))) (hi : PE X i (TF G Wd (evF cl ci))) (ha : PE X a (TF G Wd (evF cl ca))) (hns : ∀ lo hi st p, i ≠ .Slice lo hi st p) {tpos : Pos} :
    PS X (.AugAssign (.Subscript o i tpos) op a pos) (TSs G Wd (evS cl (.augS cc ci p ca))) := by
  rw [evS_augS]
  have hst : ∀ ov iv new, augStore i ov iv new = (do holding [new, ov, iv] (setItem ov iv new); release [new, ov, iv] []; pure .next) := by
    intros
    cases i <;> first | rfl | exact absurd rfl (hns _ _ _ _)
  refine PS.imp (ps_augS ho (PE.datum hi) (get_of (G := G) hK hu) (PE.datum ha) (ip_of (G := G) hp) (set_of (G := G) hu) hst) fun D σ H ⟨B, as, s, r, h⟩ => ⟨B, as, s, r, (Ans.bind h).imp (fun x s1 h v1 as1 H1 q1 x1 r1 => ?_) fun _ _ h => h.xw⟩
  refine ⟨B, as1, s1, q1, (Ans.bind h).imp (fun y s2 h v2 as2 H2 q2 x2 r2 => ?_) fun _ _ h => (h.later x1).xw⟩
  obtain ⟨d, cd, h⟩ := Ans.res q2 (r1.ext x2) (Ans.bind h)
  obtain ⟨u, eu, h⟩ := Ans.lift (Ans.bind h)
  refine ⟨_, as2, d, _, u, cd, r2, eu, fun vu ru => ⟨B, as2, s2, q2, (Ans.bind h).imp (fun z s3 h v3 as3 H3 q3 x3 r3 => ?_) fun _ _ h => ((h.later x1).later x2).xw⟩⟩
  obtain ⟨w, ew, h⟩ := Ans.lift (Ans.bind h)
  refine ⟨_, as3, u, _, w, ru.ext x3, r3, ew, fun vw rw' => ?_⟩
  obtain ⟨d2, cd2, er, h⟩ := Ans.res' q3 (r1.ext (x2.trans x3)) (Ans.bind h)
  obtain ⟨d', ed, h⟩ := Ans.lift (Ans.bind h)
  refine ⟨_, as3, d2, _, _, d', cd2, Rep.ext r2 x3, rw' _ _, ed, fun p ob ev hc => ?_⟩
  subst ev
  obtain ⟨t, et, h⟩ := store_ok (Ans.bind h)
  obtain ⟨q4, x4⟩ := q3.store (r1.ext (x2.trans x3)) er rfl hc et
  exact h σ as3 _ q4 (x1.trans (x2.trans (x3.trans x4)))
end
end Fw
set_option linter.all false
set_option Elab.async false
set_option maxRecDepth 100000
/-! What is walked; for. -/
namespace Fw
open PySem PySem.Spec L2
open PyProof.Rows hiding St
/-- J yields the data l, whatever else happens -/
structure Walks (G : G0) (J : It) (W : Addr → Prop) (as : List Addr) (H : Hp) (l : List D) : Prop where
  go : ∀ (W' : Addr → Prop) (as' : List Addr) (H' : Hp), Keeps W as H W' as' H' → (∀ a, W' a → H' a ≠ none) → ∀ (i : Nat) (d : D), l[i]? = some d → J.go i H' ∧ ∀ x H'', J.yld i H' x H'' → (∀ a o, H' a = some o → H'' a = some o) ∧ Rep G W' as' H'' x d
  stop : ∀ (W' : Addr → Prop) (as' : List Addr) (H' : Hp), Keeps W as H W' as' H' → J.stop l.length H'
def SrcR (G : G0) (W : Addr → Prop) (as : List Addr) (H : Hp) : List D ⊕ Nat → It → Prop
  | .inl l, J => Walks G J W as H l
  | .inr n, J => ∃ a, as[n]? = some a ∧ J = Itl G.K a
/-- the reading of what is walked -/
def TIr (G : G0) (Wd : WX) (m : M (List D ⊕ Nat)) : TI := fun σ H R => ∃ (B : Addr → Prop) (as : List Addr) (s : Sta), Rel G B as σ H s ∧
  Ans (m s) (fun src s' => ∀ (J : It) (as' : List Addr) (H' : Hp), Rel G B as' σ H' s' → Ext as (Own s.fr σ) H as' (Own s'.fr σ) H' → SrcR G (Wof B as' s'.fr σ) as' H' src J → R J H') (XW G B Wd σ as (Own s.fr σ) H)
section
variable {G : G0} {X : Cx} {Wd : WX} {cl : Call} {a b c e iter tg : Expr} {es : List Expr} {ca cb cc ct ci : C} {pos p : Pos} {x : Str} {body : List Stmt}
theorem PI.imp {t t' : TI} (h : PI X tg iter t) (i : ∀ σ H R, t' σ H R → t σ H R) : PI X tg iter t' := ⟨fun pins s σ H R I q => h.run pins s σ H R I (i σ H R q)⟩
theorem PI.or {t t' : TI} (h : PI X tg iter t) (h' : PI X tg iter t') : PI X tg iter (fun σ H R => t σ H R ∨ t' σ H R) := ⟨fun pins s σ H R I q => q.elim (h.run pins s σ H R I) (h'.run pins s σ H R I)⟩
theorem walks_lst {W : Addr → Prop} {as : List Addr} {H : Hp} {p : Addr} {xs : List V} {l : List D} (e : H p = some (.lst xs)) (n : ¬ W p) (r : RepL G W as H xs l) : Walks G (Itl G.K p) W as H l where
  go := fun W' as' H' k _ i d hd => by
    have e' : H' p = some (.lst xs) := k.keep p _ e (nt_lst _) n
    obtain ⟨v, hv, rv⟩ := (r.mono k).get hd
    refine ⟨⟨xs, v, .of e', hv⟩, fun x H'' ⟨eH, hx⟩ => ?_⟩
    subst eH
    have := hx xs (.of e')
    rw [hv] at this
    cases this
    exact ⟨fun _ _ h => h, rv⟩
  stop := fun W' as' H' k => ⟨xs, .of (k.keep p _ e (nt_lst _) n), by rw [r.length]; exact Nat.le_refl _⟩
theorem walks_tup {W : Addr → Prop} {as : List Addr} {H : Hp} {p : Addr} {xs : List V} {l : List D} (e : ∀ (W' : Addr → Prop) as' H', Keeps W as H W' as' H' → SqT G.K H' p xs) (r : RepL G W as H xs l) : Walks G (Itt G.K p) W as H l where
  go := fun W' as' H' k _ i d hd => by
    obtain ⟨v, hv, rv⟩ := (r.mono k).get hd
    refine ⟨⟨xs, v, e W' as' H' k, hv⟩, fun x H'' ⟨eH, hx⟩ => ?_⟩
    subst eH
    have := hx xs (e W' as' _ k)
    rw [hv] at this
    cases this
    exact ⟨fun _ _ h => h, rv⟩
  stop := fun W' as' H' k => ⟨xs, e W' as' H' k, by rw [r.length]; exact Nat.le_refl _⟩
theorem i_itv (hK : X.K = G.K) (ha : PE X a (TF G Wd (evF cl ca))) : PI X tg a (TIr G Wd (evI cl (.itv ca))) := by
  rw [evI_itv]
  refine PI.imp (PI.or (pi_list (PE.datum ha)) (pi_tup (PE.datum ha))) fun σ H R ⟨B, as, s, r, h⟩ => ?_
  have h := Ans.bind h
  cases ev : evF cl ca s with
  | stk => rw [ev] at h; exact h.elim
  | exc x s' => rw [ev] at h; exact .inl ⟨B, as, s, r, by rw [ev]; exact h⟩
  | ok v s' =>
    rw [ev] at h
    have h : Ans (srcOf v.2 s') _ _ := h
    obtain ⟨f, d⟩ := v
    cases d with
    | lst l =>
      obtain ⟨src, es, h⟩ := Ans.lift (o := (some (.inl l) : Option (List D ⊕ Nat))) h
      cases es
      refine .inl ⟨B, as, s, r, ?_⟩
      rw [ev]
      intro w as' H' r' x' rz
      have rz : Rep G (Wof B as' s'.fr σ) as' H' w (.lst l) := rz
      cases rz with
      | @lst p xs _ e n rl => exact ⟨p, rfl, ⟨xs, .of e⟩, by rw [hK]; exact h _ as' H' r' x' (walks_lst e n rl)⟩
    | tup l =>
      obtain ⟨src, es, h⟩ := Ans.lift (o := (some (.inl l) : Option (List D ⊕ Nat))) h
      cases es
      refine .inr ⟨B, as, s, r, ?_⟩
      rw [ev]
      intro w as' H' r' x' rz
      have rz : Rep G (Wof B as' s'.fr σ) as' H' w (.tup l) := rz
      cases rz with
      | @tup p xs _ e n rl => exact ⟨p, rfl, ⟨xs, .of e⟩, by rw [hK]; exact h _ as' H' r' x' (walks_tup (fun W' as' H' k => .of (k.keep p _ e (nt_tup _) n)) rl)⟩
    | kt l =>
      obtain ⟨src, es, h⟩ := Ans.lift (o := (some (.inl l) : Option (List D ⊕ Nat))) h
      cases es
      refine .inr ⟨B, as, s, r, ?_⟩
      rw [ev]
      intro w as' H' r' x' rz
      have rz : Rep G (Wof B as' s'.fr σ) as' H' w (.kt l) := rz
      cases rz with
      | @kt p xs _ e rl => exact ⟨p, rfl, ⟨xs, by rw [hK]; exact e H'⟩, by rw [hK]; exact h _ as' H' r' x' (walks_tup (fun W' as' H' k => e H') rl)⟩
    | ref n =>
      have h : Ans (match s'.hp[n]? with | some (.lst _) => .ok (.inr n) s' | _ => .stk : Fw.R (List D ⊕ Nat)) _ _ := h
      refine .inl ⟨B, as, s, r, ?_⟩
      rw [ev]
      intro w as' H' r' x' rz
      have rz : Rep G (Wof B as' s'.fr σ) as' H' w (.ref n) := rz
      cases rz with
      | @ref _ p ea =>
        split at h
        · rename_i l eo
          have ob := r'.obj n p _ ea eo
          cases ob with
          | lst c =>
            cases c with
            | lst e rl => exact ⟨p, rfl, ⟨_, .of e⟩, by rw [hK]; exact h _ as' H' r' x' ⟨p, ea, rfl⟩⟩
        · exact h.elim
    | _ => exact False.elim h
theorem walks_rng {W : Addr → Prop} {as : List Addr} {H : Hp} {m n : Int} : Walks G (Itr m (n - m).toNat) W as H ((List.range (n - m).toNat).map fun (k : Nat) => D.int (m + k)) where
  go := fun W' as' H' k _ i d hd => by
    rw [List.getElem?_map] at hd
    obtain ⟨j, hj, e⟩ := Option.map_eq_some_iff.mp hd
    obtain ⟨h1, h2⟩ := List.getElem?_eq_some_iff.mp hj
    rw [List.getElem_range] at h2
    subst h2 e
    refine ⟨by rw [List.length_range] at h1; exact h1, fun x H'' ⟨eH, ex⟩ => ?_⟩
    subst eH ex
    exact ⟨fun _ _ h => h, .int _⟩
  stop := fun W' as' H' k => by
    show (n - m).toNat ≤ _
    simp
theorem rangeD_inv {x y : D} {l : List D} (e : rangeD x y = some l) : ∃ m n : Int, x = .int m ∧ y = .int n ∧ (m < 2 ^ 62 ∧ -(2 ^ 62) ≤ m ∧ n < 2 ^ 62 ∧ -(2 ^ 62) ≤ n) ∧ l = (List.range (n - m).toNat).map fun (k : Nat) => D.int (m + k) := by
  match x, y, e with
  | .int m, .int n, e =>
    have e : (if m < 2 ^ 62 ∧ -(2 ^ 62) ≤ m ∧ n < 2 ^ 62 ∧ -(2 ^ 62) ≤ n then some ((List.range (n - m).toNat).map fun (k : Nat) => D.int (m + k)) else none) = some l := e
    split at e
    · rename_i h; cases e; exact ⟨m, n, rfl, rfl, h, rfl⟩
    · cases e
theorem i_rng1 (ha : PE X a (TF G Wd (evF cl ca))) (hs : noStar [a] = true) (hg : Gl X "range") (hm : X.mg "range" = none) : PI X tg (.Call (.Name "range" p) [a] [] pos) (TIr G Wd (evI cl (.rng1 ca))) := by
  have hs1 := (star_cons (env := X.env) hs).1
  rw [evI_rng1]
  refine PI.imp (pi_range1 hg hm (pa_cons (PE.datum ha) pa_nil hs1) hs1) fun σ H R ⟨B, as, s, r, h⟩ => ⟨B, as, s, r, (Ans.bind h).imp (fun v s' h w as' H' r' x' rz => ?_) fun _ _ h => h⟩
  obtain ⟨f, d⟩ := v
  obtain ⟨l, e, h2⟩ := Ans.lift (Ans.bind h)
  obtain ⟨m, n, e1, e2, ⟨b1, b2, b3, b4⟩, rfl⟩ := rangeD_inv e
  cases e1
  have e2 : d = .int n := e2
  subst e2
  obtain rfl := Rep.int_inv (.rep rz)
  refine ⟨n, rfl, b4, b3, ?_⟩
  have := h2 (Itr 0 (n - 0).toNat) as' H' r' x' walks_rng
  simpa using this
theorem i_rng2 (ha : PE X a (TF G Wd (evF cl ca))) (hb : PE X b (TF G Wd (evF cl cb))) (hs : noStar [a, b] = true) (hg : Gl X "range") (hm : X.mg "range" = none) : PI X tg (.Call (.Name "range" p) [a, b] [] pos) (TIr G Wd (evI cl (.rng2 ca cb))) := by
  have hs1 := star_cons (env := X.env) hs
  have hs2 := star_cons (env := X.env) hs1.2
  rw [evI_rng2]
  refine PI.imp (pi_range2 hg hm (pa_cons (PE.datum ha) (pa_cons (PE.datum hb) pa_nil hs2.1) hs1.1) (by rw [hs1.1, hs2.1]; rfl) hs2.1) fun σ H R ⟨B, as, s, r, h⟩ => ⟨B, as, s, r, (Ans.bind h).imp (fun v s1 h w as1 H1 r1 x1 rz => ?_) fun _ _ h => h⟩
  refine ⟨B, as1, s1, r1, (Ans.bind h).imp (fun v2 s2 h w2 as2 H2 r2 x2 rz2 => ?_) fun _ _ h => h.later x1⟩
  obtain ⟨f, d⟩ := v
  obtain ⟨f2, d2⟩ := v2
  obtain ⟨l, e, h3⟩ := Ans.lift (Ans.bind h)
  obtain ⟨m, n, e1, e2, ⟨b1, b2, b3, b4⟩, rfl⟩ := rangeD_inv e
  have e1 : d = .int m := e1
  have e2 : d2 = .int n := e2
  subst e1 e2
  obtain rfl := Rep.int_inv (.rep rz)
  obtain rfl := Rep.int_inv (.rep rz2)
  exact ⟨m, n, rfl, ⟨b2, b1, b4, b3⟩, h3 (Itr m (n - m).toNat) as2 H2 r2 (x1.trans x2) walks_rng⟩
/-! ### for -/
theorem s_for {m : M (List D ⊕ Nat)} {mb : M Flow} (hp : PassesOwn (model X.prog X.w) X.A X.env X.xe) (hc : X.calm = true) (hK : X.K = G.K) (hi : PI X tg iter (TIr G Wd m)) {is : List Nat} (hg : PG X tg (TGe G Wd is (asg1 cl ct))) (ht : ∀ v, asg1 cl ct v = asgT ct v) (hb : PSs X body (TSs G Wd mb)) (hs : ∀ x, foldedSetIterable iter X.env x = pure x) :
    PS X (.For tg iter body [] pos) (TSs G Wd (do
      let src ← m
      let r ← over src fun x => do
        asgT ct (false, x)
        let f ← mb
        turn f
      pure (r.getD .nx))) := by
  refine PS.imp (ps_for hp hc hi hg hb hs) fun D σ H ⟨B, as, s, r, h⟩ => ⟨B, as, s, r, (Ans.bind h).imp (fun src s1 h J as1 H1 q1 x1 sr => ?_) fun _ _ h => h.xw⟩
  have h := Ans.bind h
  -- one turn
  have one : ∀ (d : Fw.D) (as' : List Addr) (σ' : St) (H' H'' : Hp) (s' : Sta) (x : V) (K : Option Flow → Sta → Prop) (N : St → Hp → Prop),
      Rel G B as' σ' H' s' → Ext as1 (Own s1.fr σ) H1 as' (Own s'.fr σ') H' → (∀ a o, H' a = some o → H'' a = some o) → Rep G (Wof B as' s'.fr σ') as' H'' x d →
      Ans ((do asgT ct (false, d); let f ← mb; turn f : M (Option Flow)) s') K (XS G B Wd as (Own s.fr σ) H) →
      (∀ s3, K none s3 → ∀ σ3 as3 H3, Rel G B as3 σ3 H3 s3 → Ext as' (Own s'.fr σ') H' as3 (Own s3.fr σ3) H3 → N σ3 H3) → (∀ f s3, K (some f) s3 → FlowR G B as (Own s.fr σ) H D f s3) →
      TGe G Wd is (asg1 cl ct) x σ' H'' fun σ2 H2 => TSs G Wd mb { D with nx := N, ct := N, bk := D.nx } σ2 H2 := by
    intro d as' σ' H' H'' s' x K N q' x' keep rep h hn hf
    have e0 : Ext as' (Own s'.fr σ') H' as' (Own s'.fr σ') H'' := ⟨List.prefix_refl _, fun _ z => .inl z, fun _ z => .inl z, fun a o e _ _ _ => keep a o e, fun a z => z.keep fun o e _ => keep a o e⟩
    have x0 := x1.trans x'
    refine ⟨B, as', Own s'.fr σ', H', (false, d), s', as', q'.bd, ⟨e0, by rw [if_neg (by simp)]; exact ⟨q'.heap keep, rep⟩⟩, ?_⟩
    rw [ht]
    refine (Ans.bind h).imp (fun _ s2 h σ2 as2 H2 r2 x2 _ => ?_) fun _ _ h => h.later x0
    refine ⟨B, as2, s2, r2, (Ans.bind h).imp (fun f s3 h => ?_) fun _ _ h => (h.later x0).later x2⟩
    cases f with
    | nx => exact fun σ3 as3 H3 r3 x3 => hn s3 h σ3 as3 H3 r3 (x2.trans x3)
    | cont => exact fun σ3 as3 H3 r3 x3 => hn s3 h σ3 as3 H3 r3 (x2.trans x3)
    | brk => exact fun σ3 as3 H3 r3 x3 => hf .nx s3 h σ3 as3 H3 r3 (x0.trans (x2.trans x3))
    | ret b v => exact fun w as3 H3 z => hf (.ret b v) s3 h w as3 H3 ((z.earlier x2).earlier x0)
  cases src with
  | inl l =>
    have sr : Walks G J (Wof B as1 s1.fr σ) as1 H1 l := sr
    have h : Ans (walk (fun x => do asgT ct (false, x); let f ← mb; turn f) l s1) _ _ := h
    refine ⟨fun i m σ' H' => m = l.length - i ∧ i ≤ l.length ∧ ∃ (as' : List Addr) (s' : Sta), Rel G B as' σ' H' s' ∧ Ext as1 (Own s1.fr σ) H1 as' (Own s'.fr σ') H' ∧
      Ans (walk (fun x => do asgT ct (false, x); let f ← mb; turn f) (l.drop i) s') (fun r s'' => Ans ((Pure.pure (r.getD .nx) : M Flow) s'') (FlowR G B as (Own s.fr σ) H D) (XS G B Wd as (Own s.fr σ) H)) (XS G B Wd as (Own s.fr σ) H),
      ⟨l.length, rfl, Nat.zero_le _, as1, s1, q1, .refl, h⟩, ?_⟩
    rintro i m σ' H' ⟨rfl, hi, as', s', q', x', h⟩
    have x0 := x1.trans x'
    by_cases hlt : i < l.length
    · have hd : l[i]? = some l[i] := List.getElem?_eq_getElem hlt
      obtain ⟨go, yld⟩ := sr.go (Wof B as' s'.fr σ') as' H' x'.keeps q'.dom i l[i] hd
      rw [List.drop_eq_getElem_cons hlt] at h
      refine .inr ⟨go, fun σ3 H3 => l.length - (i + 1) = l.length - (i + 1) ∧ i + 1 ≤ l.length ∧ ∃ (as3 : List Addr) (s3 : Sta), Rel G B as3 σ3 H3 s3 ∧ Ext as1 (Own s1.fr σ) H1 as3 (Own s3.fr σ3) H3 ∧
        Ans (walk (fun x => do asgT ct (false, x); let f ← mb; turn f) (l.drop (i + 1)) s3) (fun r s'' => Ans ((Pure.pure (r.getD .nx) : M Flow) s'') (FlowR G B as (Own s.fr σ) H D) (XS G B Wd as (Own s.fr σ) H)) (XS G B Wd as (Own s.fr σ) H),
        fun σ3 H3 w => ⟨l.length - (i + 1), by omega, w⟩, fun x H'' y => ?_⟩
      obtain ⟨keep, rep⟩ := yld x H'' y
      exact one l[i] as' σ' H' H'' s' x _ _ q' x' keep rep (Ans.bind h) (fun s3 h σ3 as3 H3 r3 x3 => ⟨rfl, hlt, as3, s3, r3, x'.trans x3, h⟩) fun f s3 h => h
    · have hi' : i = l.length := by omega
      subst hi'
      rw [List.drop_length] at h
      exact .inl ⟨sr.stop _ _ _ x'.keeps, h σ' as' H' q' x0⟩
  | inr n =>
    obtain ⟨p, ep, rfl⟩ := sr
    have h : Ans (walkD n (fun x => do asgT ct (false, x); let f ← mb; turn f) LOOPS 0 s1) _ _ := h
    refine ⟨fun i m σ' H' => ∃ (as' : List Addr) (s' : Sta), Rel G B as' σ' H' s' ∧ Ext as1 (Own s1.fr σ) H1 as' (Own s'.fr σ') H' ∧
      Ans (walkD n (fun x => do asgT ct (false, x); let f ← mb; turn f) m i s') (fun r s'' => Ans ((Pure.pure (r.getD .nx) : M Flow) s'') (FlowR G B as (Own s.fr σ) H D) (XS G B Wd as (Own s.fr σ) H)) (XS G B Wd as (Own s.fr σ) H),
      ⟨LOOPS, as1, s1, q1, .refl, h⟩, ?_⟩
    rintro i m σ' H' ⟨as', s', q', x', h⟩
    have x0 := x1.trans x'
    cases m with
    | zero => exact h.elim
    | succ m =>
      have ep' : as'[n]? = some p := by
        obtain ⟨t, rfl⟩ := x'.pre
        rw [List.getElem?_append_left (List.getElem?_eq_some_iff.mp ep).1]
        exact ep
      have h := Ans.bind h
      have h : Ans (match s'.hp[n]? with | some (.lst l) => .ok (Fw.D.lst l) s' | some (.dct l) => .ok (.dct l) s' | some (.ins _ _) => .ok (.ref n) s' | none => .stk : Fw.R Fw.D) _ _ := h
      cases eo : s'.hp[n]? with
      | none => rw [eo] at h; exact h.elim
      | some ob =>
        rw [eo] at h
        cases ob with
        | dct l => exact h.elim
        | ins c fs => exact h.elim
        | lst l =>
          have h : Ans (Fw.R.ok (Fw.D.lst l) s') _ _ := h
          simp only [Ans] at h
          have oc := q'.obj n p _ ep' eo
          cases oc with
          | lst c =>
            cases c with
            | @lst xs _ e rl =>
              cases hd : l[i]? with
              | none =>
                rw [hd] at h
                exact .inl ⟨⟨xs, SqL.of e, by rw [rl.length]; exact List.getElem?_eq_none_iff.mp hd⟩, h σ' as' H' q' x0⟩
              | some d =>
                rw [hd] at h
                obtain ⟨v, hv, rv⟩ := rl.get hd
                refine .inr ⟨⟨xs, v, SqL.of e, hv⟩, fun σ3 H3 => ∃ (as3 : List Addr) (s3 : Sta), Rel G B as3 σ3 H3 s3 ∧ Ext as1 (Own s1.fr σ) H1 as3 (Own s3.fr σ3) H3 ∧
                  Ans (walkD n (fun x => do asgT ct (false, x); let f ← mb; turn f) m (i + 1) s3) (fun r s'' => Ans ((Pure.pure (r.getD .nx) : M Flow) s'') (FlowR G B as (Own s.fr σ) H D) (XS G B Wd as (Own s.fr σ) H)) (XS G B Wd as (Own s.fr σ) H),
                  fun σ3 H3 w => ⟨m, by omega, w⟩, fun x H'' ⟨eH, hx⟩ => ?_⟩
                subst eH
                have := hx xs (.of e)
                rw [hv] at this
                cases this
                exact one d as' σ' H'' H'' s' v _ _ q' x' (fun _ _ e => e) rv (Ans.bind h) (fun s3 h σ3 as3 H3 r3 x3 => ⟨as3, s3, r3, x'.trans x3, h⟩) fun f s3 h => h
end
end Fw
set_option linter.all false
set_option Elab.async false
set_option maxRecDepth 100000
/-! Comprehensions. -/
namespace Fw
open PySem PySem.Spec L2
open PyProof.Rows hiding St
/-- nothing leaves a block -/
abbrev WF : WX := fun _ _ _ _ => False
section
variable {G : G0} {B B' : Addr → Prop} {as as' as1 : List Addr} {σ σ' : St} {H H' H1 : Hp} {s s' s0 : Sta} {O O' O1 : Addr → Prop} {is : List Nat} {a : Addr}
theorem clr_len (fr : List Slot) : ∀ is : List Nat, (clrFr fr is).length = fr.length
  | [] => rfl
  | i :: is => by unfold clrFr; rw [List.length_set, clr_len fr is]
theorem clr_at (fr : List Slot) (j : Nat) : ∀ is : List Nat, (clrFr fr is)[j]? = if j ∈ is then (fr[j]?).map fun _ => Slot.none else fr[j]?
  | [] => by simp [clrFr]
  | i :: is => by
    unfold clrFr
    by_cases h : j = i
    · subst h
      rw [if_pos List.mem_cons_self]
      by_cases hj : j < fr.length
      · rw [List.getElem?_set_self (by rw [clr_len]; exact hj), List.getElem?_eq_getElem hj]; rfl
      · rw [List.getElem?_eq_none (by rw [List.length_set, clr_len]; omega), List.getElem?_eq_none (by omega)]; rfl
    · rw [List.getElem?_set_ne (Ne.symm h), clr_at fr j is]
      by_cases hm : j ∈ is
      · rw [if_pos hm, if_pos (List.mem_cons_of_mem _ hm)]
      · rw [if_neg hm, if_neg (by simp [h, hm])]
theorem wipe_at (σ : St) (j : Nat) : ∀ is : List Nat, (wipe σ is)[j]? = if j ∈ is then (σ[j]?).map fun _ => none else σ[j]?
  | [] => by simp [wipe]
  | i :: is => by
    unfold wipe
    by_cases h : j = i
    · subst h
      rw [if_pos List.mem_cons_self]
      by_cases hj : j < σ.length
      · rw [List.getElem?_set_self (by rw [wipe_length]; exact hj), List.getElem?_eq_getElem hj]; rfl
      · rw [List.getElem?_eq_none (by rw [List.length_set, wipe_length]; omega), List.getElem?_eq_none (by omega)]; rfl
    · rw [List.getElem?_set_ne (Ne.symm h), wipe_at σ j is]
      by_cases hm : j ∈ is
      · rw [if_pos hm, if_pos (List.mem_cons_of_mem _ hm)]
      · rw [if_neg hm, if_neg (by simp [h, hm])]
theorem put_at (old fr : List Slot) (j : Nat) (hl : fr.length = old.length) : ∀ is : List Nat, (putFr old fr is).length = fr.length ∧ (putFr old fr is)[j]? = if j ∈ is then old[j]? else fr[j]?
  | [] => by simp [putFr]
  | i :: is => by
    obtain ⟨h1, h2⟩ := put_at old fr j hl is
    unfold putFr
    refine ⟨by rw [List.length_set, h1], ?_⟩
    by_cases h : j = i
    · subst h
      rw [if_pos List.mem_cons_self]
      by_cases hj : j < old.length
      · rw [List.getElem?_set_self (by rw [h1, hl]; exact hj), List.getElem?_eq_getElem hj]; rfl
      · rw [List.getElem?_eq_none (by rw [List.length_set, h1]; omega), List.getElem?_eq_none (by omega)]
    · rw [List.getElem?_set_ne (Ne.symm h), h2]
      by_cases hm : j ∈ is
      · rw [if_pos hm, if_pos (List.mem_cons_of_mem _ hm)]
      · rw [if_neg hm, if_neg (by simp [h, hm])]
theorem wipe_same (h : Same is σ σ') : wipe σ' is = wipe σ is := by
  apply List.ext_getElem?
  intro j
  rw [wipe_at, wipe_at]
  by_cases hm : j ∈ is
  · rw [if_pos hm, if_pos hm]
    by_cases hj : j < σ.length
    · rw [List.getElem?_eq_getElem hj, List.getElem?_eq_getElem (by rw [h.1]; exact hj)]; rfl
    · rw [List.getElem?_eq_none (l := σ') (by rw [h.1]; omega), List.getElem?_eq_none (l := σ) (by omega)]
  · rw [if_neg hm, if_neg hm, h.2 j hm]
theorem wipe_wipe : wipe (wipe σ is) is = wipe σ is := by
  apply List.ext_getElem?
  intro j
  rw [wipe_at, wipe_at]
  by_cases hm : j ∈ is
  · rw [if_pos hm, if_pos hm, Option.map_map]; rfl
  · rw [if_neg hm, if_neg hm]
theorem Same.sub {is js : List Nat} (h : Same is σ σ') (hs : ∀ i ∈ is, i ∈ js) : Same js σ σ' := ⟨h.1, fun j hj => h.2 j fun z => hj (hs j z)⟩
abbrev Cl (fr : List Slot) (is : List Nat) : Bool := is.all fun i => (fr[i]?.getD .none).notOwn
theorem clr_ok {ok : Unit → Sta → Prop} {ex : Exc → Sta → Prop} (h : Ans (clr is s) ok ex) : Cl s.fr is = true ∧ ok () { s with fr := clrFr s.fr is } := by
  have h' : Ans (if Cl s.fr is = true then .ok () { s with fr := clrFr s.fr is } else .stk : R Unit) ok ex := h
  by_cases hi : Cl s.fr is = true
  · rw [if_pos hi] at h'; exact ⟨hi, h'⟩
  · rw [if_neg hi] at h'; exact h'.elim
theorem inner_ok {α : Type} {m : M α} {ok : α → Sta → Prop} {ex : Exc → Sta → Prop} (h : Ans (inner is m s) ok ex) : Cl s.fr is = true ∧ Ans (m { s with fr := clrFr s.fr is }) (fun a s1 => Cl s1.fr is = true ∧ ok a { s1 with fr := putFr s.fr (clrFr s1.fr is) is }) (fun _ _ => False) := by
  have h' : Ans (match clr is s with
    | .ok _ s0 => match m s0 with
      | .ok a s1 => match clr is s1 with
        | .ok _ s2 => .ok a { s2 with fr := putFr s.fr s2.fr is }
        | _ => .stk
      | _ => .stk
    | _ => .stk : R α) ok ex := h
  have e : clr is s = if Cl s.fr is = true then .ok () { s with fr := clrFr s.fr is } else .stk := rfl
  rw [e] at h'
  by_cases hi : Cl s.fr is = true
  · rw [if_pos hi] at h'
    refine ⟨hi, ?_⟩
    simp only at h'
    cases q : m { s with fr := clrFr s.fr is } with
    | stk => rw [q] at h'; exact h'
    | exc x t => rw [q] at h'; exact h'.elim
    | ok a s1 =>
      rw [q] at h'
      simp only at h'
      have e1 : clr is s1 = if Cl s1.fr is = true then .ok () { s1 with fr := clrFr s1.fr is } else .stk := rfl
      rw [e1] at h'
      by_cases h1 : Cl s1.fr is = true
      · rw [if_pos h1] at h'
        exact ⟨h1, h'⟩
      · rw [if_neg h1] at h'
        exact h'.elim
  · rw [if_neg hi] at h'
    exact h'.elim
theorem cl_not (h : Cl s.fr is = true) {i : Nat} {d : D} (hi : i ∈ is) : s.fr[i]? ≠ some (.own d) := fun z => by
  have := List.all_eq_true.mp h i hi
  rw [z] at this
  cases this
theorem own_clr (h : Cl s.fr is = true) (b : Addr) : Own (clrFr s.fr is) (wipe σ is) b ↔ Own s.fr σ b := by
  constructor
  · rintro ⟨j, d, h1, h2⟩
    rw [clr_at] at h1
    rw [wipe_at] at h2
    by_cases hm : j ∈ is
    · rw [if_pos hm] at h1
      cases q : s.fr[j]? with
      | none => rw [q] at h1; cases h1
      | some z => rw [q] at h1; cases h1
    · rw [if_neg hm] at h1 h2; exact ⟨j, d, h1, h2⟩
  · rintro ⟨j, d, h1, h2⟩
    have hm : j ∉ is := fun hm => cl_not h hm h1
    exact ⟨j, d, by rw [clr_at, if_neg hm]; exact h1, by rw [wipe_at, if_neg hm]; exact h2⟩
theorem wof_clr (h : Cl s.fr is = true) (b : Addr) : Wof B as (clrFr s.fr is) (wipe σ is) b ↔ Wof B as s.fr σ b := or_congr_right (or_congr_right (own_clr h b))
theorem Rel.clear (r : Rel G B as σ H s) (h : Cl s.fr is = true) : Rel G B as (wipe σ is) H { s with fr := clrFr s.fr is } := by
  have k : Keeps (Wof B as s.fr σ) as H (Wof B as (clrFr s.fr is) (wipe σ is)) as H := Keeps.sub fun b z => (wof_clr h b).mp z
  have out : ∀ {j : Nat} {z : Slot}, z ≠ .none → (clrFr s.fr is)[j]? = some z → j ∉ is ∧ s.fr[j]? = some z := fun {j z} hz e => by
    rw [clr_at] at e
    by_cases hm : j ∈ is
    · rw [if_pos hm] at e
      cases q : s.fr[j]? with
      | none => rw [q] at e; cases e
      | some y => rw [q] at e; cases e; exact absurd rfl hz
    · rw [if_neg hm] at e; exact ⟨hm, e⟩
  refine ⟨by show (clrFr s.fr is).length = _; rw [clr_len, wipe_length]; exact r.len, fun j d e => ?_, fun j d e => ?_, r.hlen, fun n b o e1 e2 => (r.obj n b o e1 e2).mono k fun _ e _ => e, r.nd, fun b hb z => r.ao b hb ((own_clr h b).mp z), fun i j d d' b e1 e2 e3 e4 => ?_, fun b hb => ⟨(r.ba b hb).1, fun z => (r.ba b hb).2 ((own_clr h b).mp z)⟩, r.bd, r.tabs⟩
  · obtain ⟨hm, e⟩ := out (by simp) e
    obtain ⟨v, e1, q⟩ := r.val j d e
    exact ⟨v, by rw [wipe_at, if_neg hm]; exact e1, q.mono k⟩
  · obtain ⟨hm, e⟩ := out (by simp) e
    obtain ⟨v, e1, q⟩ := r.own j d e
    exact ⟨v, by rw [wipe_at, if_neg hm]; exact e1, q.mono k fun _ e _ => e⟩
  · obtain ⟨hm1, e1⟩ := out (by simp) e1
    obtain ⟨hm2, e2⟩ := out (by simp) e2
    rw [wipe_at, if_neg hm1] at e3
    rw [wipe_at, if_neg hm2] at e4
    exact r.oo i j d d' b e1 e2 e3 e4
/-- the slots as they were -/
theorem Rel.unclear (r : Rel G B as σ H s) (h : Cl s.fr is = true) (r' : Rel G B' as' (wipe σ is) H' { s' with fr := clrFr s'.fr is }) (hB : ∀ b, B' b → B b ∨ ¬ Th H b) (x : Ext as (Own s.fr σ) H as' (Own (clrFr s'.fr is) (wipe σ is)) H') :
    Rel G B' as' σ H' { s' with fr := putFr s.fr (clrFr s'.fr is) is } ∧ ∀ b, Own (putFr s.fr (clrFr s'.fr is) is) σ b ↔ Own (clrFr s'.fr is) (wipe σ is) b := by
  have hl : (clrFr s'.fr is).length = s.fr.length := by
    have h1 : (clrFr s'.fr is).length = (wipe σ is).length := r'.len
    rw [h1, wipe_length, r.len]
  have pl : (putFr s.fr (clrFr s'.fr is) is).length = s.fr.length := by rw [(put_at s.fr _ 0 hl is).1, hl]
  have at_ : ∀ j, (putFr s.fr (clrFr s'.fr is) is)[j]? = if j ∈ is then s.fr[j]? else (clrFr s'.fr is)[j]? := fun j => (put_at s.fr _ j hl is).2
  have oo : ∀ b, Own (putFr s.fr (clrFr s'.fr is) is) σ b ↔ Own (clrFr s'.fr is) (wipe σ is) b := fun b => by
    constructor
    · rintro ⟨j, d, h1, h2⟩
      rw [at_] at h1
      by_cases hm : j ∈ is
      · rw [if_pos hm] at h1; exact absurd h1 (cl_not h hm)
      · rw [if_neg hm] at h1; exact ⟨j, d, h1, by rw [wipe_at, if_neg hm]; exact h2⟩
    · rintro ⟨j, d, h1, h2⟩
      have hm : j ∉ is := fun hm => by
        rw [wipe_at, if_pos hm] at h2
        cases q : σ[j]? with
        | none => rw [q] at h2; cases h2
        | some z => rw [q] at h2; cases h2
      rw [wipe_at, if_neg hm] at h2
      exact ⟨j, d, by rw [at_, if_neg hm]; exact h1, h2⟩
  have ww : ∀ b, Wof B' as' (putFr s.fr (clrFr s'.fr is) is) σ b ↔ Wof B' as' (clrFr s'.fr is) (wipe σ is) b := fun b => or_congr_right (or_congr_right (oo b))
  have k' : Keeps (Wof B' as' (clrFr s'.fr is) (wipe σ is)) as' H' (Wof B' as' (putFr s.fr (clrFr s'.fr is) is) σ) as' H' := Keeps.sub fun b z => (ww b).mp z
  have k : Keeps (Wof B as s.fr σ) as H (Wof B' as' (putFr s.fr (clrFr s'.fr is) is) σ) as' H' := ⟨x.pre, fun b o e nt n => x.keep b o e nt (fun z => n (.inr (.inl z))) (fun z => n (.inr (.inr z))), fun b z => by
    rcases (ww b).mp z with z | z | z
    · rcases hB b z with z | z
      · exact .inl (.inl z)
      · exact .inr z
    · rcases x.new b z with z | z
      · exact .inl (.inr (.inl z))
      · exact .inr z
    · rcases x.own b z with z | z
      · exact .inl (.inr (.inr z))
      · exact .inr z⟩
  refine ⟨⟨by rw [pl]; exact r.len, fun j d e => ?_, fun j d e => ?_, r'.hlen, fun n b o e1 e2 => (r'.obj n b o e1 e2).mono k' fun _ e _ => e, r'.nd, fun b hb z => r'.ao b hb ((oo b).mp z), fun i j d d' b e1 e2 e3 e4 => ?_, fun b hb => ⟨(r'.ba b hb).1, fun z => (r'.ba b hb).2 ((oo b).mp z)⟩, r'.bd, r'.tabs⟩, oo⟩
  · have e : (putFr s.fr (clrFr s'.fr is) is)[j]? = some (.val d) := e
    rw [at_] at e
    by_cases hm : j ∈ is
    · rw [if_pos hm] at e
      obtain ⟨v, e1, q⟩ := r.val j d e
      exact ⟨v, e1, q.mono k⟩
    · rw [if_neg hm] at e
      obtain ⟨v, e1, q⟩ := r'.val j d e
      rw [wipe_at, if_neg hm] at e1
      exact ⟨v, e1, q.mono k'⟩
  · have e : (putFr s.fr (clrFr s'.fr is) is)[j]? = some (.own d) := e
    rw [at_] at e
    by_cases hm : j ∈ is
    · rw [if_pos hm] at e; exact absurd e (cl_not h hm)
    · rw [if_neg hm] at e
      obtain ⟨v, e1, q⟩ := r'.own j d e
      rw [wipe_at, if_neg hm] at e1
      exact ⟨v, e1, q.mono k' fun _ e _ => e⟩
  · have e1 : (putFr s.fr (clrFr s'.fr is) is)[i]? = some (.own d) := e1
    have e2 : (putFr s.fr (clrFr s'.fr is) is)[j]? = some (.own d') := e2
    rw [at_] at e1 e2
    by_cases hm1 : i ∈ is
    · rw [if_pos hm1] at e1; exact absurd e1 (cl_not h hm1)
    · by_cases hm2 : j ∈ is
      · rw [if_pos hm2] at e2; exact absurd e2 (cl_not h hm2)
      · rw [if_neg hm1] at e1
        rw [if_neg hm2] at e2
        exact r'.oo i j d d' b e1 e2 (by rw [wipe_at, if_neg hm1]; exact e3) (by rw [wipe_at, if_neg hm2]; exact e4)
theorem Ext.keepsB (x : Ext as O H as' O' H') (hB : ∀ b, B' b → B b ∨ ¬ Th H b) : Keeps (fun b => B b ∨ b ∈ as ∨ O b) as H (fun b => B' b ∨ b ∈ as' ∨ O' b) as' H' := ⟨x.pre, fun b o e nt n => x.keep b o e nt (fun z => n (.inr (.inl z))) (fun z => n (.inr (.inr z))), fun b z => by
  rcases z with z | z | z
  · rcases hB b z with z | z
    · exact .inl (.inl z)
    · exact .inr z
  · rcases x.new b z with z | z
    · exact .inl (.inr (.inl z))
    · exact .inr z
  · rcases x.own b z with z | z
    · exact .inl (.inr (.inr z))
    · exact .inr z⟩
theorem Keeps.trans' {W W' W'' : Addr → Prop} {as2 : List Addr} {H2 : Hp} (k : Keeps W as H W' as' H') (k2 : Keeps W' as' H' W'' as2 H2) (hd : ∀ b, Th H b → Th H' b) : Keeps W as H W'' as2 H2 := ⟨k.pre.trans k2.pre, fun b o e nt n => k2.keep b o (k.keep b o e nt n) nt (k.not e nt n), fun b z => by
  rcases k2.less b z with z | z
  · exact k.less b z
  · exact .inr fun q => z (hd b q)⟩
end
section
variable {G : G0} {B : Addr → Prop} {as as' as1 : List Addr} {σ σ' : St} {H H' H1 : Hp} {s s' : Sta} {O O' : Addr → Prop} {p : Addr} {o u : HO}
theorem Ext.write_new (x : Ext as O H as' O' H') (n : ¬ Th H p) : Ext as O H as' O' (upd H' p o) := ⟨x.pre, x.new, x.own, fun b u e nt n1 n2 => by rw [upd_ne (fun (z : b = p) => n (by rw [← z]; exact ⟨u, e, nt⟩))]; exact x.keep b u e nt n1 n2, fun b z => (x.dom b z).keep fun u e _ => by rw [upd_ne (fun (q : b = p) => n (by rw [← q]; exact z))]; exact e⟩
/-- a guarded address may be written -/
theorem Rel.write_guard (r : Rel G B as σ H s) (hb : B p) (hu : ∃ u, H p = some u ∧ (∀ ps, u ≠ .tbl ps) ∧ ∀ c q, u ≠ LamX.CodeO c q) (ho : ∀ ps, o ≠ .tbl ps) : Rel G B as σ (upd H p o) s := by
  have wp : Wof B as s.fr σ p := .inl hb
  have k : Keeps (Wof B as s.fr σ) as H (Wof B as s.fr σ) as (upd H p o) := keeps_upd wp
  obtain ⟨na, no⟩ := r.ba p hb
  refine ⟨r.len, fun j d e => ?_, fun j d e => ?_, r.hlen, fun n b x e1 e2 => ?_, r.nd, r.ao, r.oo, r.ba, fun b hb => ?_, tabs_upd r.tabs hu⟩
  · obtain ⟨v, e1, q⟩ := r.val j d e; exact ⟨v, e1, q.mono k⟩
  · obtain ⟨v, e1, q⟩ := r.own j d e
    refine ⟨v, e1, q.mono k fun u e2 _ => ?_⟩
    rw [upd_ne fun z => no ⟨j, d, e, by rw [e1, z]⟩]; exact e2
  · refine (r.obj n b x e1 e2).mono k fun u e3 _ => ?_
    rw [upd_ne fun z => na (by rw [← z]; exact List.mem_of_getElem? e1)]; exact e3
  · by_cases q : b = p
    · rw [q]; exact ⟨_, upd_same, ho⟩
    · exact (r.bd b hb).keep fun u e _ => by rw [upd_ne q]; exact e
end
section
variable {G : G0} {X : Cx} {Wd : WX} {cl : Call} {cs ce ck cv ct : C} {is js : List Nat} {mi : M (List D ⊕ Nat)}
/-- the turns of a comprehension's block; Cn: what stands at the new container p; Run: what is still to be run -/
theorem blk_turns {B : Addr → Prop} {as1 : List Addr} {σ : St} {H1 : Hp} {O1 : Addr → Prop} {s1 : Sta} {J : It} {p : Addr} {H0 : Hp} {mg : M (List (D × D))} {Cn : Hp → (Addr → Prop) → List Addr → List (D × D) → Prop} {Kend : List (D × D) → Sta → Prop} {el : St → Hp → (Hp → Prop) → Prop} {Q : Hp → Prop} {Run : Nat → Nat → Sta → List (D × D) → Prop}
    (hp : ¬ Th H1 p) (hjs : ∀ i ∈ js, i ∈ is) (ht : ∀ v, asg1 cl ct v = asgT ct v)
    (hst : ∀ (W W' : Addr → Prop) (as as' : List Addr) (H H' : Hp) (acc : List (D × D)), Keeps W as H W' as' H' → (∀ o, H p = some o → NT o → H' p = some o) → Cn H W as acc → Cn H' W' as' acc)
    (hstep : ∀ m i (as' : List Addr) (σ' : St) (H' : Hp) (s' : Sta) acc, Run m i s' acc → Rel G (fun b => B b ∨ b = p) as' σ' H' s' → Ext as1 O1 H1 as' (Own s'.fr σ') H' → (J.stop i H' ∧ Cl s'.fr is = true ∧ Kend acc s') ∨
      (∃ d m', m' < m ∧ J.go i H' ∧ (∀ x H'', J.yld i H' x H'' → (∀ a o, H' a = some o → H'' a = some o) ∧ Rep G (Wof (fun b => B b ∨ b = p) as' s'.fr σ') as' H'' x d) ∧
        Ans ((do clr is; asgT ct (false, d); let c ← evC cl cs; if c then mg else pure [] : M (List (D × D))) s') (fun a s'' => Run m' (i + 1) s'' (acc ++ a)) (fun _ _ => False)))
    (hend : ∀ acc (as' : List Addr) (σ' : St) (H' : Hp) (s2 : Sta), Cl s2.fr is = true → Kend acc s2 → wipe σ' is = wipe σ is → Rel G (fun b => B b ∨ b = p) as' σ' H' s2 → Ext as1 O1 H1 as' (Own s2.fr σ') H' → Cn H' (Wof (fun b => B b ∨ b = p) as' s2.fr σ') as' acc → Q H')
    (hel : ∀ (acc : List (D × D)) (as2 : List Addr) (σ2 : St) (H2 : Hp) (s2 : Sta) (N : Hp → Prop) (m i : Nat), Rel G (fun b => B b ∨ b = p) as2 σ2 H2 s2 → Ext as1 O1 H1 as2 (Own s2.fr σ2) H2 → Cn H2 (Wof (fun b => B b ∨ b = p) as2 s2.fr σ2) as2 acc →
      Ans (mg s2) (fun a s3 => Run m i s3 (acc ++ a)) (fun _ _ => False) →
      (∀ a (s3 : Sta) (as3 : List Addr) (H3 : Hp), Run m i s3 (acc ++ a) → Rel G (fun b => B b ∨ b = p) as3 σ2 H3 s3 → Ext as1 O1 H1 as3 (Own s3.fr σ2) H3 → Cn H3 (Wof (fun b => B b ∨ b = p) as3 s3.fr σ2) as3 (acc ++ a) → N H3) → el σ2 H2 N)
    {m0 : Nat} (r0 : Run m0 0 s1 []) {as0 : List Addr} {σ0 : St} (w0 : wipe σ0 is = wipe σ is) (q0 : Rel G (fun b => B b ∨ b = p) as0 σ0 H0 s1) (x0 : Ext as1 O1 H1 as0 (Own s1.fr σ0) H0) (c0 : Cn H0 (Wof (fun b => B b ∨ b = p) as0 s1.fr σ0) as0 []) :
    ∃ W : Nat → Nat → Hp → Prop, (∃ m, W 0 m H0) ∧ ∀ i m H, W i m H → (J.stop i H ∧ Q H) ∨ (J.go i H ∧ ∃ Nx : Hp → Prop, (∀ H', Nx H' → ∃ m', m' < m ∧ W (i + 1) m' H') ∧ ∀ x H', J.yld i H x H' →
      TGe G WF js (asg1 cl ct) x (wipe σ is) H' fun σ2 H2 => wipe σ2 is = wipe σ is ∧ TB G WF (evC cl cs) σ2 H2 fun b H3 => if b = true then el σ2 H3 Nx else Nx H3) := by
  refine ⟨fun i m H => ∃ (as' : List Addr) (σ' : St) (s' : Sta) (acc : List (D × D)), wipe σ' is = wipe σ is ∧ Run m i s' acc ∧ Rel G (fun b => B b ∨ b = p) as' σ' H s' ∧ Ext as1 O1 H1 as' (Own s'.fr σ') H ∧ Cn H (Wof (fun b => B b ∨ b = p) as' s'.fr σ') as' acc,
    ⟨m0, as0, σ0, s1, [], w0, r0, q0, x0, c0⟩, ?_⟩
  rintro i m H ⟨as', σ', s', acc, hw, run, q, x, c⟩
  rcases hstep m i as' σ' H s' acc run q x with ⟨st, hc, hk⟩ | ⟨d, m', hm, go, yld, h⟩
  · exact .inl ⟨st, hend acc as' σ' H s' hc hk hw q x c⟩
  · refine .inr ⟨go, fun H' => ∃ (as' : List Addr) (σ' : St) (s' : Sta) (acc : List (D × D)), wipe σ' is = wipe σ is ∧ Run m' (i + 1) s' acc ∧ Rel G (fun b => B b ∨ b = p) as' σ' H' s' ∧ Ext as1 O1 H1 as' (Own s'.fr σ') H' ∧ Cn H' (Wof (fun b => B b ∨ b = p) as' s'.fr σ') as' acc,
      fun H' w => ⟨m', hm, w⟩, fun y H' hy => ?_⟩
    obtain ⟨keep, rep⟩ := yld y H' hy
    obtain ⟨hc, h⟩ := clr_ok (Ans.bind h)
    have qc := q.clear hc
    rw [hw] at qc
    have ow : ∀ b, Own (clrFr s'.fr is) (wipe σ is) b ↔ Own s'.fr σ' b := fun b => by rw [← hw]; exact own_clr hc b
    have e0 : Ext as' (Own s'.fr σ') H as' (Own (clrFr s'.fr is) (wipe σ is)) H' := ⟨List.prefix_refl _, fun _ z => .inl z, fun b z => .inl ((ow b).mp z), fun a o e _ _ _ => keep a o e, fun a z => z.keep fun o e _ => keep a o e⟩
    have xc : Ext as1 O1 H1 as' (Own (clrFr s'.fr is) (wipe σ is)) H' := x.trans e0
    have rep' : Rep G (Wof (fun b => B b ∨ b = p) as' (clrFr s'.fr is) (wipe σ is)) as' H' y d := rep.mono (Keeps.sub fun b z => by
      rcases z with z | z | z
      · exact .inl z
      · exact .inr (.inl z)
      · exact .inr (.inr ((ow b).mp z)))
    refine ⟨fun b => B b ∨ b = p, as', Own s'.fr σ', H, (false, d), { s' with fr := clrFr s'.fr is }, as', q.bd, ⟨e0, by rw [if_neg (by simp)]; exact ⟨qc.heap keep, rep'⟩⟩, ?_⟩
    rw [ht]
    refine (Ans.bind h).imp (fun _ s2 h σ2 as2 H2 r2 x2 sm => ?_) fun _ _ h => h.elim
    have hw2 : wipe σ2 is = wipe σ is := by rw [wipe_same (sm.sub hjs), wipe_wipe]
    refine ⟨hw2, fun b => B b ∨ b = p, as2, s2, r2, (Ans.bind h).imp (fun k s3 h as3 H3 r3 x3 => ?_) fun _ _ h => h.elim⟩
    have x4 : Ext as' (Own s'.fr σ') H as3 (Own s3.fr σ2) H3 := x2.trans x3
    have c3 : Cn H3 (Wof (fun b => B b ∨ b = p) as3 s3.fr σ2) as3 acc := hst _ _ _ _ _ _ _ x4.keeps (fun o e nt => x4.keep p o e nt (q.ba p (.inr rfl)).1 (q.ba p (.inr rfl)).2) c
    show if k = true then el σ2 H3 _ else _
    cases k with
    | true =>
      rw [if_pos rfl] at h ⊢
      exact hel acc as3 σ2 H3 s3 _ m' (i + 1) r3 (x.trans x4) c3 h fun a s4 as4 H4 run4 r4 x5 c4 => ⟨as4, σ2, s4, acc ++ a, hw2, run4, r4, x5, c4⟩
    | false =>
      rw [if_neg (by simp)] at h ⊢
      have h := Ans.pure h
      rw [List.append_nil] at h
      exact ⟨as3, σ2, s3, acc, hw2, h, r3, x.trans x4, c3⟩
/-- the turns of what is walked -/
theorem run_src {B : Addr → Prop} {as1 : List Addr} {σ : St} {H1 : Hp} {s1 s : Sta} {J : It} {p : Addr} {src : List D ⊕ Nat} {F : D → M (List (D × D))} {K : List (D × D) → Sta → Prop} (hp : ¬ Th H1 p)
    (sr : SrcR G (Wof B as1 s1.fr σ) as1 H1 src J) (h : Ans (collS src F s) K (fun _ _ => False)) :
    ∃ (Run : Nat → Nat → Sta → List (D × D) → Prop) (m0 : Nat), Run m0 0 s [] ∧ (∀ m i s acc, Run m i s acc → ∃ l s4, K (acc ++ l) s4) ∧
    ∀ m i (as' : List Addr) (σ' : St) (H' : Hp) (s' : Sta) acc, Run m i s' acc → Rel G (fun b => B b ∨ b = p) as' σ' H' s' → Ext as1 (Own s1.fr σ) H1 as' (Own s'.fr σ') H' → (J.stop i H' ∧ K acc s') ∨
      (∃ d m', m' < m ∧ J.go i H' ∧ (∀ x H'', J.yld i H' x H'' → (∀ a o, H' a = some o → H'' a = some o) ∧ Rep G (Wof (fun b => B b ∨ b = p) as' s'.fr σ') as' H'' x d) ∧
        Ans (F d s') (fun a s'' => Run m' (i + 1) s'' (acc ++ a)) (fun _ _ => False)) := by
  have fin : ∀ {m : M (List (D × D))} {s : Sta} {acc : List (D × D)}, Ans (m s) (fun r s'' => K (acc ++ r) s'') (fun _ _ => False) → ∃ l s4, K (acc ++ l) s4 := fun {m s acc} h => by
    cases e : m s with
    | stk => rw [e] at h; exact h.elim
    | exc x t => rw [e] at h; exact h.elim
    | ok r t => rw [e] at h; exact ⟨r, t, h⟩
  have hB : ∀ b, (B b ∨ b = p) → B b ∨ ¬ Th H1 b := fun b hb => hb.imp id fun e => by rw [e]; exact hp
  cases src with
  | inl l =>
    have sr : Walks G J (Wof B as1 s1.fr σ) as1 H1 l := sr
    have h : Ans (coll F l s) K (fun _ _ => False) := h
    refine ⟨fun m i s acc => m = l.length - i ∧ i ≤ l.length ∧ Ans (coll F (l.drop i) s) (fun r s'' => K (acc ++ r) s'') (fun _ _ => False), l.length, ⟨rfl, Nat.zero_le _, h⟩, fun m i s acc h => fin h.2.2, ?_⟩
    rintro m i as' σ' H' s' acc ⟨rfl, hi, h⟩ q x
    have k : Keeps (Wof B as1 s1.fr σ) as1 H1 (Wof (fun b => B b ∨ b = p) as' s'.fr σ') as' H' := x.keepsB hB
    by_cases hlt : i < l.length
    · have hd : l[i]? = some l[i] := List.getElem?_eq_getElem hlt
      obtain ⟨go, yld⟩ := sr.go _ as' H' k q.dom i l[i] hd
      rw [List.drop_eq_getElem_cons hlt] at h
      refine .inr ⟨l[i], l.length - (i + 1), by omega, go, yld, (Ans.bind h).imp (fun a s2 h => ⟨rfl, hlt, (Ans.bind h).imp (fun b s3 h => ?_) fun _ _ h => h⟩) fun _ _ h => h⟩
      rw [List.append_assoc]
      exact h
    · have hi' : i = l.length := by omega
      subst hi'
      rw [List.drop_length] at h
      have h := Ans.pure h
      rw [List.append_nil] at h
      exact .inl ⟨sr.stop _ _ _ k, h⟩
  | inr n =>
    obtain ⟨a, ea, rfl⟩ := sr
    have h : Ans (collD n F LOOPS 0 s) K (fun _ _ => False) := h
    refine ⟨fun m i s acc => Ans (collD n F m i s) (fun r s'' => K (acc ++ r) s'') (fun _ _ => False), LOOPS, h, fun m i s acc h => fin h, ?_⟩
    intro m i as' σ' H' s' acc h q x
    cases m with
    | zero => exact h.elim
    | succ m =>
      have ea' : as'[n]? = some a := by
        obtain ⟨t, rfl⟩ := x.pre
        rw [List.getElem?_append_left (List.getElem?_eq_some_iff.mp ea).1]
        exact ea
      have h := Ans.bind h
      have h : Ans (match s'.hp[n]? with | some (.lst l) => .ok (D.lst l) s' | some (.dct l) => .ok (.dct l) s' | some (.ins _ _) => .ok (.ref n) s' | none => .stk : Fw.R D) _ _ := h
      cases eo : s'.hp[n]? with
      | none => rw [eo] at h; exact h.elim
      | some ob =>
        rw [eo] at h
        cases ob with
        | dct l => exact h.elim
        | ins c fs => exact h.elim
        | lst l =>
          have h : Ans (Fw.R.ok (D.lst l) s') _ _ := h
          simp only [Ans] at h
          have oc := q.obj n a _ ea' eo
          cases oc with
          | lst c =>
            cases c with
            | @lst xs _ e rl =>
              cases hd : l[i]? with
              | none =>
                rw [hd] at h
                have h : K (acc ++ []) s' := h
                rw [List.append_nil] at h
                exact .inl ⟨⟨xs, .of e, by rw [rl.length]; exact List.getElem?_eq_none_iff.mp hd⟩, h⟩
              | some d =>
                rw [hd] at h
                obtain ⟨v, hv, rv⟩ := rl.get hd
                refine .inr ⟨d, m, by omega, ⟨xs, v, .of e, hv⟩, fun x H'' ⟨eH, hx⟩ => ?_, (Ans.bind h).imp (fun a s2 h => (Ans.bind h).imp (fun b s3 h => ?_) fun _ _ h => h) fun _ _ h => h⟩
                · subst eH
                  have := hx xs (.of e)
                  rw [hv] at this
                  cases this
                  exact ⟨fun _ _ e => e, rv⟩
                · rw [List.append_assoc]
                  exact h
end
end Fw
set_option linter.all false
set_option Elab.async false
set_option maxRecDepth 100000
/-! List and dict comprehensions of one clause. -/
namespace Fw
open PySem PySem.Spec L2
open PyProof.Rows hiding St
section
variable {G : G0} {X : Cx} {Wd : WX} {cl : Call} {cs ce ck cv ct ci : C} {is js : List Nat} {σ : St} {H : Hp} {Q : VK}
theorem lc_in (hjs : ∀ i ∈ js, i ∈ is) (ht : ∀ v, asg1 cl ct v = asgT ct v) (h : TF G Wd (evF cl (.comp is ce ct ci cs .nil)) σ H Q) :
    tLc (TIr G Wd (evI cl ci)) (TGe G WF js (asg1 cl ct)) (TB G WF (evC cl cs)) (TM G WF (RZ G) (evF cl ce)) is σ H Q := by
  rw [evF_comp] at h
  obtain ⟨B, as, s, r, h⟩ := h
  refine ⟨B, as, s, r, (Ans.bind h).imp (fun src s1 h J as1 H1 q1 x1 sr p hp => ?_) fun _ _ h => h⟩
  obtain ⟨hc, h⟩ := inner_ok (Ans.bind h)
  have hp1 : ¬ Th H1 p := th_none hp
  have hp0 : ¬ Th H p := fun z => hp1 (x1.dom p z)
  obtain ⟨Run, m0, r0, hrun, hstep⟩ := run_src (p := p) hp1 sr h
  have wc := wof_clr (B := B) (as := as1) (σ := σ) hc
  have nb : ¬ B p := fun z => hp1 (q1.bd p z)
  have ow := own_clr (σ := σ) hc
  refine blk_turns (G := G) (cl := cl) (cs := cs) (ct := ct) (B := B) (as1 := as1) (σ := σ) (H1 := H1) (O1 := Own s1.fr σ) (s1 := { s1 with fr := clrFr s1.fr is }) (J := J) (p := p) (H0 := upd H1 p (.lst [])) (mg := evG cl (do let x ← evF cl ce; pure (x.2, .non)) .nil)
    (Cn := fun (H : Hp) (W : Addr → Prop) (as : List Addr) (acc : List (D × D)) => ∃ xs : List V, H p = some (.lst xs) ∧ RepL G W as H xs (acc.map fun z => z.1))
    (Kend := fun acc s2 => Ans (lift (if acc.length ≤ sizeLine then some (true, D.lst (acc.map (·.1))) else none) { s2 with fr := putFr s1.fr (clrFr s2.fr is) is }) (fun r s' => ∀ (v : V) (as' : List Addr) (H' : Hp), PV G B σ as (Own s.fr σ) H r s' v as' H' → Q v H') (XW G B Wd σ as (Own s.fr σ) H))
    (el := fun σ H N => TM G WF (RZ G) (evF cl ce) σ H fun y H4 => ∃ acc, H4 p = some (.lst acc) ∧ acc.length < sizeLine ∧ N (upd H4 p (.lst (acc ++ [y]))))
    (Q := Q (.ref p)) (Run := Run) hp1 hjs ht (fun W W' as as' H H' acc k ko ⟨xs, e, rl⟩ => ⟨xs, ko _ e (nt_lst _), rl.mono k⟩) (fun m i as' σ' H' s' acc run q x => ?_) (fun acc as' σ' H' s2 h1 h2 hw q x ⟨xs, e, rl⟩ => ?_) (fun acc as2 σ2 H2 s2 N m i q x ⟨xs, e, rl⟩ h hN => ?_) r0 (σ0 := wipe σ is) (as0 := as1) (by rw [wipe_wipe]) ((q1.clear hc).guard hp (upd_keep hp) ⟨_, upd_same, (fun _ z => by cases z)⟩) ⟨List.prefix_refl _, fun _ z => .inl z, fun b z => .inl ((ow b).mp z), fun b o e _ _ _ => upd_keep hp b o e, fun b z => z.keep fun o e _ => upd_keep hp b o e⟩ ⟨[], upd_same, .nil⟩
  · rcases hstep m i as' σ' H' s' acc run q x with ⟨a, b, c⟩ | z
    · exact .inl ⟨a, b, c⟩
    · exact .inr z
  · obtain ⟨z, ez, hq⟩ := Ans.lift h2
    split at ez
    · cases ez
      have qc := q.clear h1
      rw [hw] at qc
      have xc : Ext as1 (Own s1.fr σ) H1 as' (Own (clrFr s2.fr is) (wipe σ is)) H' := ⟨x.pre, x.new, fun b hb => x.own b (by rw [← hw] at hb; exact (own_clr h1 b).mp hb), x.keep, x.dom⟩
      obtain ⟨q', oo⟩ := q1.unclear (B' := fun b => B b ∨ b = p) hc qc (fun b hb => hb.imp id fun e => by rw [e]; exact hp1) xc
      refine hq (.ref p) as' H' ⟨x1.trans ⟨xc.pre, xc.new, fun b hb => xc.own b ((oo b).mp hb), xc.keep, xc.dom⟩, ?_⟩
      rw [if_pos rfl]
      refine ⟨p, rfl, hp0, q', .lst e (rl.mono (Keeps.sub fun b hb => ?_))⟩
      rcases hb with hb | hb | hb
      · exact .inl hb
      · exact .inr (.inl hb)
      · have := (oo b).mp hb
        rw [← hw] at this
        exact .inr (.inr ((own_clr h1 b).mp this))
    · cases ez
  · have h : Ans ((do let x ← (do let x ← evF cl ce; pure (x.2, D.non)); pure [x] : M (List (D × D))) s2) _ _ := h
    refine ⟨fun b => B b ∨ b = p, as2, s2, q, (Ans.bind (Ans.bind h)).imp (fun z s3 h v as3 H3 q3 x3 rz => ?_) fun _ _ h => h.elim⟩
    have run : Run m i s3 (acc ++ [(z.2, D.non)]) := h
    have e3 : H3 p = some (.lst xs) := x3.keep p _ e (nt_lst _) (q.ba p (.inr rfl)).1 (q.ba p (.inr rfl)).2
    have rl3 : RepL G (Wof (fun b => B b ∨ b = p) as3 s3.fr σ2) as3 H3 xs (acc.map fun z => z.1) := rl.mono x3.keeps
    refine ⟨xs, e3, ?_, hN [(z.2, .non)] s3 as3 _ run (q3.write_guard (.inr rfl) ⟨_, e3, (fun _ z => by cases z), (fun _ _ z => by cases z)⟩ (fun _ z => by cases z)) ((x.trans x3).write_new hp1) ⟨xs ++ [v], upd_same, ?_⟩⟩
    · obtain ⟨l, s4, _, hk⟩ := hrun m i s3 _ run
      obtain ⟨z, ez, _⟩ := Ans.lift hk
      split at ez
      · rename_i hl
        rw [rl3.length, List.length_map]
        simp only [List.length_append, List.length_singleton] at hl
        omega
      · cases ez
    · rw [List.map_append]
      exact (rl3.append (.cons rz .nil)).mono (keeps_upd (.inl (.inr rfl)))
theorem merge_snoc (z : D × D) : ∀ (m l : List (D × D)), merge l (m ++ [z]) = put z.1 z.2 (merge l m)
  | [], l => rfl
  | (k, v) :: m, l => merge_snoc z m (put k v l)
theorem dc_in (hjs : ∀ i ∈ js, i ∈ is) (ht : ∀ v, asg1 cl ct v = asgT ct v) (h : TF G Wd (evF cl (.dcomp is ck cv ct ci cs .nil)) σ H Q) :
    tDc (TIr G Wd (evI cl ci)) (TGe G WF js (asg1 cl ct)) (TB G WF (evC cl cs)) (TM G WF (RZ G) (evF cl ck)) (TM G WF (RZ G) (evF cl cv)) is σ H Q := by
  rw [evF_dcomp] at h
  obtain ⟨B, as, s, r, h⟩ := h
  refine ⟨B, as, s, r, (Ans.bind h).imp (fun src s1 h J as1 H1 q1 x1 sr p hp => ?_) fun _ _ h => h⟩
  obtain ⟨hc, h⟩ := inner_ok (Ans.bind h)
  have hp1 : ¬ Th H1 p := th_none hp
  have hp0 : ¬ Th H p := fun z => hp1 (x1.dom p z)
  obtain ⟨Run, m0, r0, hrun, hstep⟩ := run_src (p := p) hp1 sr h
  have wc := wof_clr (B := B) (as := as1) (σ := σ) hc
  have nb : ¬ B p := fun z => hp1 (q1.bd p z)
  have ow := own_clr (σ := σ) hc
  refine blk_turns (G := G) (cl := cl) (cs := cs) (ct := ct) (B := B) (as1 := as1) (σ := σ) (H1 := H1) (O1 := Own s1.fr σ) (s1 := { s1 with fr := clrFr s1.fr is }) (J := J) (p := p) (H0 := upd H1 p (.dK [])) (mg := evG cl (do let x ← evF cl ck; let y ← evF cl cv; lift (if x.2.isKey1 then some (x.2, y.2) else none)) .nil)
    (Cn := fun (H : Hp) (W : Addr → Prop) (as : List Addr) (acc : List (D × D)) => ∃ ks : List (Key × V), H p = some (.dK ks) ∧ (ks.map fun z : Key × V => z.1).Nodup ∧ ks.length ≤ acc.length ∧ RepK G W as H ks (merge [] acc))
    (Kend := fun acc s2 => Ans (lift (if acc.length ≤ sizeLine then some (true, D.dct (merge [] acc)) else none) { s2 with fr := putFr s1.fr (clrFr s2.fr is) is }) (fun r s' => ∀ (v : V) (as' : List Addr) (H' : Hp), PV G B σ as (Own s.fr σ) H r s' v as' H' → Q v H') (XW G B Wd σ as (Own s.fr σ) H))
    (el := fun σ H N => TM G WF (RZ G) (evF cl ck) σ H fun y H4 => TM G WF (RZ G) (evF cl cv) σ H4 fun z H5 => ∃ kvs k, y = kV k ∧ H5 p = some (.dK kvs) ∧ kvs.length < sizeLine ∧ N (upd H5 p (.dK (putK kvs k z))))
    (Q := Q (.ref p)) (Run := Run) hp1 hjs ht (fun W W' as as' H H' acc k ko ⟨xs, e, nd, ln, rl⟩ => ⟨xs, ko _ e (nt_dK _), nd, ln, rl.mono k⟩) (fun m i as' σ' H' s' acc run q x => ?_) (fun acc as' σ' H' s2 h1 h2 hw q x ⟨xs, e, nd, ln, rl⟩ => ?_) (fun acc as2 σ2 H2 s2 N m i q x ⟨xs, e, nd, ln, rl⟩ h hN => ?_) r0 (σ0 := wipe σ is) (as0 := as1) (by rw [wipe_wipe]) ((q1.clear hc).guard hp (upd_keep hp) ⟨_, upd_same, (fun _ z => by cases z)⟩) ⟨List.prefix_refl _, fun _ z => .inl z, fun b z => .inl ((ow b).mp z), fun b o e _ _ _ => upd_keep hp b o e, fun b z => z.keep fun o e _ => upd_keep hp b o e⟩ ⟨[], upd_same, List.nodup_nil, Nat.zero_le _, .nil⟩
  · rcases hstep m i as' σ' H' s' acc run q x with ⟨a, b, c⟩ | z
    · exact .inl ⟨a, b, c⟩
    · exact .inr z
  · obtain ⟨z, ez, hq⟩ := Ans.lift h2
    split at ez
    · cases ez
      have qc := q.clear h1
      rw [hw] at qc
      have xc : Ext as1 (Own s1.fr σ) H1 as' (Own (clrFr s2.fr is) (wipe σ is)) H' := ⟨x.pre, x.new, fun b hb => x.own b (by rw [← hw] at hb; exact (own_clr h1 b).mp hb), x.keep, x.dom⟩
      obtain ⟨q', oo⟩ := q1.unclear (B' := fun b => B b ∨ b = p) hc qc (fun b hb => hb.imp id fun e => by rw [e]; exact hp1) xc
      refine hq (.ref p) as' H' ⟨x1.trans ⟨xc.pre, xc.new, fun b hb => xc.own b ((oo b).mp hb), xc.keep, xc.dom⟩, ?_⟩
      rw [if_pos rfl]
      refine ⟨p, rfl, hp0, q', .dctK e (rl.mono (Keeps.sub fun b hb => ?_))⟩
      rcases hb with hb | hb | hb
      · exact .inl hb
      · exact .inr (.inl hb)
      · have := (oo b).mp hb
        rw [← hw] at this
        exact .inr (.inr ((own_clr h1 b).mp this))
    · cases ez
  · have h : Ans ((do let x ← (do let x ← evF cl ck; let y ← evF cl cv; lift (if x.2.isKey1 then some (x.2, y.2) else none)); pure [x] : M (List (D × D))) s2) _ _ := h
    refine ⟨fun b => B b ∨ b = p, as2, s2, q, (Ans.bind (Ans.bind h)).imp (fun y s3 h v as3 H3 q3 x3 rz => ?_) fun _ _ h => h.elim⟩
    refine ⟨fun b => B b ∨ b = p, as3, s3, q3, (Ans.bind h).imp (fun z s4 h w as4 H4 q4 x4 rw' => ?_) fun _ _ h => h.elim⟩
    obtain ⟨kz, ek, h⟩ := Ans.lift h
    split at ek
    · rename_i hk1
      cases ek
      obtain ⟨k, hk⟩ := key1_inv hk1
      have rz : Rep G (Wof (fun b => B b ∨ b = p) as3 s3.fr σ2) as3 H3 v y.2 := rz
      rw [hk] at rz
      obtain rfl := Rep.key rz
      have run : Run m i s4 (acc ++ [(y.2, z.2)]) := h
      have x34 := x3.trans x4
      have e3 : H4 p = some (.dK xs) := x34.keep p _ e (nt_dK _) (q.ba p (.inr rfl)).1 (q.ba p (.inr rfl)).2
      have rl3 : RepK G (Wof (fun b => B b ∨ b = p) as4 s4.fr σ2) as4 H4 xs (merge [] acc) := rl.mono x34.keeps
      refine ⟨xs, k, rfl, e3, ?_, hN [(y.2, z.2)] s4 as4 _ run (q4.write_guard (.inr rfl) ⟨_, e3, (fun _ z => by cases z), (fun _ _ z => by cases z)⟩ (fun _ z => by cases z)) ((x.trans x34).write_new hp1) ⟨putK xs k w, upd_same, putK_keys nd, ?_, ?_⟩⟩
      · obtain ⟨l, s5, _, hkk⟩ := hrun m i s4 _ run
        obtain ⟨z, ez, _⟩ := Ans.lift hkk
        split at ez
        · rename_i hl
          simp only [List.length_append, List.length_singleton] at hl
          omega
        · cases ez
      · have := length_putK xs k w
        simp only [List.length_append, List.length_singleton]
        omega
      · rw [merge_snoc, hk]
        exact (rl3.put rw' nd).mono (keeps_upd (.inl (.inr rfl)))
    · cases ek
/-- [e for t in it if c] -/
theorem s_comp {own : List (Str × Nat)} {elt tg iter : Expr} {ifs : List Expr} {scope : Scope} {pos : Pos} (hc : X.calm = true) (hN : X.N.Nodup) (hi : PI X tg iter (TIr G Wd (evI cl ci))) (ok : BlkOk X.N X.env.scope scope own) (hjs : ∀ i ∈ js, i ∈ own.map (·.2)) (ht : ∀ v, asg1 cl ct v = asgT ct v)
    (hg : ∀ (s : Shared) (H : Hp) (C : Addr) (cl' : List (Str × Addr)) (fp : List Addr), PG (X.blk s H scope (compEnvC scope cl' C X.env) fp) tg (TGe G WF js (asg1 cl ct))) (hts : ∀ (s : Shared) (H : Hp) (C : Addr) (cl' : List (Str × Addr)) (fp : List Addr), PTs (X.blk s H scope (compEnvC scope cl' C X.env) fp) ifs (TB G WF (evC cl cs)))
    (he : ∀ (s : Shared) (H : Hp) (C : Addr) (cl' : List (Str × Addr)) (fp : List Addr), PE (X.blk s H scope (compEnvC scope cl' C X.env) fp) elt (TF G WF (evF cl ce))) (hs : ∀ x, foldedSetIterable iter X.env x = pure x) :
    PE X (.ListComp elt [⟨tg, iter, ifs, 0⟩] scope pos) (TF G Wd (evF cl (.comp (own.map (·.2)) ce ct ci cs .nil))) :=
  PE.imp (pe_lc hc hN hi ok hg hts (fun s H C cl' fp => PE.datum (he s H C cl' fp)) hs) fun σ H Q h => lc_in hjs ht h
theorem s_dcomp {own : List (Str × Nat)} {kx vx tg iter : Expr} {ifs : List Expr} {scope : Scope} {pos : Pos} (hc : X.calm = true) (hN : X.N.Nodup) (hi : PI X tg iter (TIr G Wd (evI cl ci))) (ok : BlkOk X.N X.env.scope scope own) (hjs : ∀ i ∈ js, i ∈ own.map (·.2)) (ht : ∀ v, asg1 cl ct v = asgT ct v)
    (hg : ∀ (s : Shared) (H : Hp) (C : Addr) (cl' : List (Str × Addr)) (fp : List Addr), PG (X.blk s H scope (compEnvC scope cl' C X.env) fp) tg (TGe G WF js (asg1 cl ct))) (hts : ∀ (s : Shared) (H : Hp) (C : Addr) (cl' : List (Str × Addr)) (fp : List Addr), PTs (X.blk s H scope (compEnvC scope cl' C X.env) fp) ifs (TB G WF (evC cl cs)))
    (hk : ∀ (s : Shared) (H : Hp) (C : Addr) (cl' : List (Str × Addr)) (fp : List Addr), PE (X.blk s H scope (compEnvC scope cl' C X.env) fp) kx (TF G WF (evF cl ck)))
    (he : ∀ (s : Shared) (H : Hp) (C : Addr) (cl' : List (Str × Addr)) (fp : List Addr), PE (X.blk s H scope (compEnvC scope cl' C X.env) fp) vx (TF G WF (evF cl cv))) (hs : ∀ x, foldedSetIterable iter X.env x = pure x) :
    PE X (.DictComp kx vx [⟨tg, iter, ifs, 0⟩] scope pos) (TF G Wd (evF cl (.dcomp (own.map (·.2)) ck cv ct ci cs .nil))) :=
  PE.imp (pe_dc hc hN hi ok hg hts (fun s H C cl' fp => PE.datum (hk s H C cl' fp)) (fun s H C cl' fp => PE.datum (he s H C cl' fp)) hs) fun σ H Q h => dc_in hjs ht h
/-- name = [e for t in it if c] on one line -/
theorem s_setLc {i : Nat} {y : Str} {py spos : Pos} {own : List (Str × Nat)} {elt tg iter : Expr} {ifs : List Expr} {scope : Scope} {pos : Pos} (hc : X.calm = true) (hN : X.N.Nodup) (hy : X.N[i]? = some y) (hyl : X.env.scope.names.lookup y = some .local)
    (hsw : swapsWith (.ListComp elt [⟨tg, iter, ifs, 0⟩] scope pos) (some (.Name y py)) spos.line X.env = pure true) (hi : PI X tg iter (TIr G Wd (evI cl ci))) (ok : BlkOk X.N X.env.scope scope own) (hjs : ∀ i ∈ js, i ∈ own.map (·.2)) (ht : ∀ v, asg1 cl ct v = asgT ct v)
    (hg : ∀ (s : Shared) (H : Hp) (C : Addr) (cl' : List (Str × Addr)) (fp : List Addr), PG (X.blk s H scope (compEnvC scope cl' C X.env) fp) tg (TGe G WF js (asg1 cl ct))) (hts : ∀ (s : Shared) (H : Hp) (C : Addr) (cl' : List (Str × Addr)) (fp : List Addr), PTs (X.blk s H scope (compEnvC scope cl' C X.env) fp) ifs (TB G WF (evC cl cs)))
    (he : ∀ (s : Shared) (H : Hp) (C : Addr) (cl' : List (Str × Addr)) (fp : List Addr), PE (X.blk s H scope (compEnvC scope cl' C X.env) fp) elt (TF G WF (evF cl ce))) (hs : ∀ x, foldedSetIterable iter X.env x = pure x) :
    PS X (.Assign [.Name y py] (.ListComp elt [⟨tg, iter, ifs, 0⟩] scope pos) spos) (TSs G Wd (evS cl (.asg (.var i) (.comp (own.map (·.2)) ce ct ci cs .nil)))) := by
  rw [evS_asg]
  refine PS.imp (ps_setLc hc hN hy hyl hsw hi ok hg hts (fun s H C cl' fp => PE.datum (he s H C cl' fp)) hs) fun D σ H ⟨B, as, s, r, h⟩ => ?_
  exact lc_in hjs ht ⟨B, as, s, r, (Ans.bind h).imp (fun v s' h w as' H' pv => g_name_in (cl := cl) ⟨B, as, _, H, v, s', as', r.bd, pv, (Ans.bind h).imp (fun _ s2 h σ' as' H' r' x' _ => h σ' as' H' r' x') fun _ _ h => h⟩) fun _ _ h => h.xw⟩
end
end Fw
set_option linter.all false
set_option Elab.async false
set_option maxRecDepth 100000
/-! Dict displays. -/
namespace Fw
open PySem PySem.Spec L2
open PyProof.Rows hiding St
section
variable {G : G0} {X : Cx} {Wd : WX} {cl : Call} {ck cv ca cb : C} {k v : Expr} {ks : List (Option Expr)} {vs : List Expr} {pos : Pos}
/-- the readings of a display's pairs -/
def trK (G : G0) (Wd : WX) (cl : Call) : C → List (TE × TE)
  | .consK k v b => (TM G Wd (RZ G) (evF cl k), TM G Wd (RZ G) (evF cl v)) :: trK G Wd cl b
  | _ => []
inductive OnlyK : C → Prop
  | nil : OnlyK .nil
  | cons {k v b : C} : OnlyK b → OnlyK (.consK k v b)
theorem pairs_in {B : Addr → Prop} {σ : St} {c : C} (o : OnlyK c) : ∀ {as : List Addr} {s : Sta} {H : Hp} {Q : List (V × V) → Hp → Prop}, Rel G B as σ H s →
    Ans (evK cl c s) (fun ps s' => ∀ (kvs : List (Key × V)) (as' : List Addr) (H' : Hp), Rel G B as' σ H' s' → Ext as (Own s.fr σ) H as' (Own s'.fr σ) H' → RepK G (Wof B as' s'.fr σ) as' H' kvs ps → Q (kvs.map fun kv => (kV kv.1, kv.2)) H') (XW G B Wd σ as (Own s.fr σ) H) →
    tPairs (trK G Wd cl c) σ H Q := by
  induction o with
  | nil => intro as s H Q r h; exact Ans.pure h [] as H r .refl .nil
  | cons _ ih =>
    intro as s H Q r h
    rw [evK_cons] at h
    refine ⟨B, as, s, r, (Ans.bind h).imp (fun x s1 h w1 as1 H1 r1 x1 rz1 => ?_) fun _ _ h => h⟩
    refine ⟨B, as1, s1, r1, (Ans.bind h).imp (fun y s2 h w2 as2 H2 r2 x2 rz2 => ?_) fun _ _ h => h.later x1⟩
    obtain ⟨p, ep, h⟩ := Ans.lift (Ans.bind h)
    split at ep
    · rename_i hk
      cases ep
      obtain ⟨z, hz⟩ := key1_inv hk
      have rz1 : Rep G (Wof B as1 s1.fr σ) as1 H1 w1 x.2 := rz1
      have rz2 : Rep G (Wof B as2 s2.fr σ) as2 H2 w2 y.2 := rz2
      rw [hz] at rz1
      obtain rfl := Rep.key rz1
      refine ih r2 ((Ans.bind h).imp (fun ps s3 h kvs as3 H3 r3 x3 rk => ?_) fun _ _ h => (h.later x1).later x2)
      have h : ∀ (kvs : List (Key × V)) (as' : List Addr) (H' : Hp), Rel G B as' σ H' s3 → Ext as (Own s.fr σ) H as' (Own s3.fr σ) H' → RepK G (Wof B as' s3.fr σ) as' H' kvs ((x.2, y.2) :: ps) → Q (kvs.map fun kv => (kV kv.1, kv.2)) H' := h
      refine h ((z, w2) :: kvs) as3 H3 r3 (x1.trans (x2.trans x3)) ?_
      rw [hz]
      exact .cons (rz2.ext x3) rk
    · cases ep
theorem s_dct (hp : PPs X pos ks vs (trK G Wd cl ck)) (o : OnlyK ck) (hall : ks.all (·.isSome) = true) (hl : ks.length = vs.length) (h0 : ks ≠ []) (h15 : ks.length ≤ 15) : PE X (.Dict ks vs pos) (TF G Wd (evF cl (.dct ck))) := by
  rw [evF_dct]
  refine PE.imp (pe_disp hp hall hl h0 h15) fun σ H Q ⟨B, as, s, r, h⟩ p hn => ?_
  have e0 : Ext as (Own s.fr σ) H as (Own s.fr σ) (upd H p (.dK [])) := ⟨List.prefix_refl _, fun _ z => .inl z, fun _ z => .inl z, fun a o e _ _ _ => upd_keep hn a o e, fun a z => z.keep fun o e _ => upd_keep hn a o e⟩
  have q := r.guard hn (upd_keep hn) (H' := upd H p (.dK [])) ⟨_, upd_same, (fun _ z => by cases z)⟩
  obtain ⟨np, no⟩ := q.ba p (.inr rfl)
  refine pairs_in (B := fun b => B b ∨ b = p) o q ((Ans.bind h).imp (fun ps s' h kvs as' H' r' x' rk => ?_) fun e s' h cls dd as' H' r' x' z => ?_)
  · obtain ⟨z, ez, h⟩ := Ans.lift h
    split at ez
    · rename_i h15'
      cases ez
      have e1 : H' p = some (.dK []) := x'.keep p _ upd_same (nt_dK _) np no
      refine ⟨e1, kvs, rfl, by rw [rk.length]; exact h15', ?_⟩
      have q3 : Rel G (fun b => B b ∨ b = p) as' σ (upd H' p (.dK (mergeK [] kvs))) s' := r'.write_guard (.inr rfl) ⟨_, e1, (fun _ z => by cases z), (fun _ _ z => by cases z)⟩ (fun _ z => by cases z)
      exact h (.ref p) as' _ ⟨(e0.trans x').write_new (th_none hn), by rw [if_pos rfl]; exact ⟨p, rfl, th_none hn, q3, .dctK upd_same ((rk.merge .nil List.nodup_nil).mono (keeps_upd (.inl (.inr rfl))))⟩⟩
    · cases ez
  · exact h cls dd as' H' (r'.weaken fun b hb => .inl hb) (e0.trans x') (z.mono (Keeps.sub fun b hb => by
      rcases hb with hb | hb | hb
      · exact .inl (.inl hb)
      · exact .inr (.inl hb)
      · exact .inr (.inr hb)))
theorem s_dnew : PE X (.Dict [] [] pos) (TF G Wd (evF cl (.dct .nil))) := by
  rw [evF_dct]
  refine PE.imp pe_dnewK fun σ H Q ⟨B, as, s, r, h⟩ p hn => ?_
  have h : Ans ((do let ds ← (pure [] : M (List (D × D))); lift (if ds.length ≤ 15 then some (true, .dct (merge [] ds)) else none) : M (Bool × D)) s) _ _ := h
  obtain ⟨z, ez, h⟩ := Ans.lift (Ans.pure (Ans.bind h))
  cases ez
  exact h (.ref p) as _ (PV.of_new r (.dct hn .nil))
end
end Fw
set_option linter.all false
set_option Elab.async false
set_option maxRecDepth 100000
/-! Errors: raise; a call that tells what was heard. -/
namespace Fw
open PySem PySem.Spec L2
open PyProof.Rows hiding St
section
variable {G : G0} {X : Cx} {Wd : WX} {cl : Call} {cb : C} {pos p : Pos} {x : Str}
/-- E() -/
theorem pmk_own0 {C : Addr} {bmB : List Value} {Bs newId initId : String} (F : ExcBaseFacts Bs newId initId bmB) (q : PySem.W.excIn X.K C bmB newId = true) (gC : X.mg x = some (.ref C)) (kC : PySem.W.keepIn X.K (.ref C) = true) (r : Raises X (.ref C)) (hg : Gl X x)
    (hdb : (x == ("__debug__" : Str)) = false) : PMk X (.Call (.Name x p) [] [] pos) (fun _ H Q => Q (.ref C) none H) := fun pins s σ H Q I h =>
  wpAny_Call_Name_kw (ld_glob I hg gC (PySem.W.callWith_K0 I.kIn kC (by
    obtain ⟨z1, z2, z3, z4, z5, z6, z7, z8, z9, y1, y2, y3, y4, y5, y6, y7, y8, e1, e2, e3, e4⟩ := exc_obj I.kIn q
    exact wpAny_call_exc_subT F e4 e1 e2 e3 (fun h' e hm => mk_of I hm r h (I.hok.gone hm.new)) (Nat.zero_le _))) hdb)
theorem s_raise0 {c : Nat} {bmB : List Value} {Bs newId initId : String} {pos' : Pos} (hc : X.calm = true) (tk : Takes X Wd) (F : ExcBaseFacts Bs newId initId bmB) (q : PySem.W.excIn X.K (G.ca c) bmB newId = true) (gC : X.mg x = some (.ref (G.ca c))) (kC : PySem.W.keepIn X.K (.ref (G.ca c)) = true) (r : Raises X (.ref (G.ca c))) (hg : Gl X x)
    (hdb : (x == ("__debug__" : Str)) = false) (hn : c < G.nx) : PS X (.Raise (some (.Call (.Name x p) [] [] pos)) none pos') (TSs G Wd (evS cl (.raise c .nil))) := by
  refine PS.imp (ps_raise hc tk (pmk_own0 F q gC kC r hg hdb)) fun D σ H ⟨B, as, s, r, h⟩ => ?_
  have h : XS G B Wd as (Own s.fr σ) H ⟨c, []⟩ s := h
  exact h _ none σ as H r .refl (.plain c hn)
/-- the heap with more code objects and longer tables -/
theorem Rel.heapN {B : Addr → Prop} {as : List Addr} {σ : St} {H H1 : Hp} {s : Sta} (r : Rel G B as σ H s) (e : LamX.ExtN H H1) (t : LamX.Tabs G.T H1) : Rel G B as σ H1 s ∧ Ext as (Own s.fr σ) H as (Own s.fr σ) H1 := by
  have k : Keeps (Wof B as s.fr σ) as H (Wof B as s.fr σ) as H1 := ⟨List.prefix_refl _, fun a o h nt _ => e a o h nt, fun a z => .inl z⟩
  refine ⟨⟨r.len, fun i d h => ?_, fun i d h => ?_, r.hlen, fun n a o e1 e2 => (r.obj n a o e1 e2).mono k fun o h nt => e _ o h nt, r.nd, r.ao, r.oo, r.ba, fun a z => (r.bd a z).keep fun o h nt => e a o h nt, t⟩, ⟨List.prefix_refl _, fun _ z => .inl z, fun _ z => .inl z, fun a o h nt _ _ => e a o h nt, fun a z => z.keep fun o h nt => e a o h nt⟩⟩
  · obtain ⟨v, e1, q⟩ := r.val i d h; exact ⟨v, e1, q.mono k⟩
  · obtain ⟨a, e1, q⟩ := r.own i d h; exact ⟨a, e1, q.mono k fun o h nt => e a o h nt⟩
/-- try: return (tag, a()) / except E: return (ret,) -/
def TToldT (K : PySem.W.Frag) (CS : Addr) (tag ret : Str) : (XK → Hp → VK → Prop) → Hp → VK → Prop := fun tl H Q =>
  tl (fun cls _ H' => ∃ b, PySem.W.exmOne K cls (.ref CS) = some b ∧ (b = true → ∀ q, H' q = none → Q (.ref q) (upd H' q (.tup [.str ret]))) ∧ (b = false → False)) H (fun v H' => ([V.str tag, v] : List V).length ≤ sizeLine ∧ ∀ q, H' q = none → Q (.ref q) (upd H' q (.tup [.str tag, v])))
theorem toldT_gives {Ng : List Str} {a e q tag ret : Str} {sg : Scope} {g CS : Addr} {cdg : Value} {j j2 k1 k2 : _} {p1 p2 p3 p4 p5 p6 p7 p8 p9 p10 p11 : Pos} (hge : sg.names.lookup e = some .globalImplicit) (hme : X.mg e = some (.ref CS)) (hde : (e == ("__debug__" : Str)) = false) (h0 : ∀ f : Addr, (L2.start Ng [V.ref f])[0]? = some (some (V.ref f))) :
    LamX.GivesTo X Ng x sg g cdg [.Try [.Return (some (.Tuple [.Constant (.str tag) j p9, .Call (.Name a p1) [] [] p2] k1 p10)) p3] [.ExceptHandler (some (.Name e p4)) none [.Return (some (.Tuple [.Constant (.str ret) j2 p5] k2 p11)) p6] p7] [] [] p8] a q (TToldT X.K CS tag ret) := by
  intro f c' s H Q tl act hc h
  have hgl : Gl (cxOf C8.CX0 X.prog X.w X.K X.mg X.base Ng x sg g cdg X.A X.stack s H C8.E0).nox e := hge
  have main := ps_try_only (X := (cxOf C8.CX0 X.prog X.w X.K X.mg X.base Ng x sg g cdg X.A X.stack s H C8.E0).nox) (c := .ref CS) (np := p4) (pos' := p7) (pos := p8) (b₀ := .Return (some (.Tuple [.Constant (.str ret) j2 p5] k2 p11)) p6) (suite := []) (body := [.Return (some (.Tuple [.Constant (.str tag) j p9, .Call (.Name a p1) [] [] p2] k1 p10)) p3])
    (tb := fun W D σ H => ∃ Ech : XK, (∀ cls d σ' H', Ech cls d H' → W cls d σ' H') ∧ σ[0]? = some (some (.ref f)) ∧ H c' = some (LamX.CodeO c' q) ∧ tl Ech H (fun v H' => ([V.str tag, v] : List V).length ≤ sizeLine ∧ ∀ z, H' z = none → D.rt (.ref z) (upd H' z (.tup [.str tag, v]))))
    (ts := fun _ _ _ => tRet (tTup (tCons (tC (.str ret)) tNil))) rfl rfl ⟨hgl, hde, .inl hme⟩ LamX.takes0 (fun W pn xe tk _ => ⟨fun pins s' σ H' D I h' => ?_⟩) (fun a oe cls d pn _ _ => pss_one (ps_ret (pe_tup (pa_cons pe_str pa_nil))))
  · refine ⟨_, pss_one main, ?_⟩
    refine ⟨_, fun cls d σ' H' hb => ?_, h0 f, hc, h⟩
    obtain ⟨b, e1, e2, e3⟩ := hb
    exact ⟨b, e1, fun hb a _ => ⟨by show 1 ≤ sizeLine; decide, e2 hb⟩, fun hb => (e3 hb).elim⟩
  · obtain ⟨Ech, hW, h1, h2, h3⟩ := h'
    have hp := act W pn xe Ech p1 p2 tk hW
    exact (pss_one (ps_ret (pe_tup (pa_cons pe_str (pa_cons hp pa_nil))))).run pins s' σ H' D I ⟨h1, h2, h3⟩
/-- x(lambda: body), x the def that tells what was heard -/
theorem s_heard {c : Nat} {a e tag ret : Str} {g cc P : Addr} {k : Nat} {pg : Arguments} {sg : Scope} {dV kV doc pm cdv ct oc : Value} {an od : Option Addr} {osl : Array (Option Value)} {Ng : List Str} {params : Arguments} {body : Expr} {scope : Scope} {lpos : Pos} {j j2 k1 k2 : _} {p1 p2 p3 p4 p5 p6 p7 p8 p9 p10 p11 : Pos}
    (hK : X.K = G.K) (hg : Gl X x) (hm : X.mg x = some (.ref g)) (hk : PySem.W.keepIn X.K (.ref g) = true)
    (lk : X.K.lookup g = some ⟨oc, od, .func (PySem.W.fnOf x x pg [.Try [.Return (some (.Tuple [.Constant (.str tag) j p9, .Call (.Name a p1) [] [] p2] k1 p10)) p3] [.ExceptHandler (some (.Name e p4)) none [.Return (some (.Tuple [.Constant (.str ret) j2 p5] k2 p11)) p6] p7] [] [] p8] sg dV kV doc pm an cdv ct), osl⟩)
    (hcg : PySem.W.codeIn X.K cdv x = true) (hb : L2.Binds X.K (PySem.W.fnOf x x pg [.Try [.Return (some (.Tuple [.Constant (.str tag) j p9, .Call (.Name a p1) [] [] p2] k1 p10)) p3] [.ExceptHandler (some (.Name e p4)) none [.Return (some (.Tuple [.Constant (.str ret) j2 p5] k2 p11)) p6] p7] [] [] p8] sg dV kV doc pm an cdv ct) [a] [])
    (Sg : FnScope Ng [a] sg) (hNg : Ng[0]? = some a) (hva : Vis sg a) (hge : sg.names.lookup e = some .globalImplicit) (hme : X.mg e = some (.ref (G.ca c))) (hde : (e == ("__debug__" : Str)) = false) (hN1 : 1 ≤ Ng.length)
    (TB : LamX.TabB X.base X.mg cc P) (hcode : X.env.code = .ref cc) (hmT : (P, X.env.qual ++ "<lambda>") ∈ G.T) (hu : ∀ p ∈ G.T, p.1 = P → p.2 = X.env.qual ++ "<lambda>") (hr : Room (k + 2) X.A) (L : LamX.LamS X.env.scope scope) (hdef : defaultsOf params X.env = ([], []))
    (hbind : ∀ (q : Str) (cl : List (Str × Addr)) (pm cv ctv : Value), bindArgs (PySem.W.kla_fn "<lambda>" q params body scope cl pm cv ctv) ⟨[], []⟩ = pure [])
    (hbody : ∀ (A : Around) (outer : List Env) (s : Shared) (H : Hp) (E : XK) (f c' : Addr), Room k (A.deeper (LamX.lamEnv X scope s.heap.objs.size f c')) → PE (LamX.lamCx X A outer s H E scope f c') body (TF G (fun cls d _ H' => E cls d H') (evF cl cb)))
    (hex : ∀ c', c' < G.nx → PySem.W.exmOne G.K (.ref (G.ca c')) (.ref (G.ca c)) = some (c' == c))
    (hdb : (x == ("__debug__" : Str)) = false) (hd : (a == ("__debug__" : Str)) = false) (hcd : (a == ("__classdict__" : Str)) = false) :
    PE X (.Call (.Name x p) [.Lambda params body scope lpos] [] pos) (TF G Wd (evF cl (.heard tag (.consH c ret .nil) cb))) := by
  have h0 : ∀ f : Addr, (L2.start Ng [V.ref f])[0]? = some (some (V.ref f)) := fun f => rfl
  refine PE.imp (LamX.pe_lamcall (t := fun E => TF G (fun cls d _ H' => E cls d H') (evF cl cb)) hg hm hk lk hcg hb Sg hNg hva (toldT_gives (j := j) (j2 := j2) (k1 := k1) (k2 := k2) (p1 := p1) (p2 := p2) (p3 := p3) (p4 := p4) (p5 := p5) (p6 := p6) (p7 := p7) (p8 := p8) (p9 := p9) (p10 := p10) (p11 := p11) hge hme hde h0) TB hcode hmT hu hr L hdef hbind hbody hdb hd hcd) fun σ H Q ⟨B, as, s, r, h⟩ => ⟨r.tabs, fun H1 eN T1 => ?_⟩
  obtain ⟨r1, x1⟩ := r.heapN eN T1
  have h : Ans (match evF cl cb s with | .ok v s' => .ok (false, .tup [.str tag, v.2]) s' | .exc e s' => evH cl (.consH c ret .nil) e s' | .stk => .stk : Fw.R (Bool × D)) _ _ := h
  refine ⟨B, as, s, r1, ?_⟩
  cases ev : evF cl cb s with
  | stk => rw [ev] at h; exact h
  | ok v s' =>
    rw [ev] at h
    intro w as' H' pv
    obtain ⟨q, x2, rep⟩ := PV.datum r1 pv
    refine ⟨by show 2 ≤ sizeLine; decide, fun z hz => ?_⟩
    exact h (.ref z) as' _ ((PV.of_new q (.tup q.dom hz (.cons (.str tag) (.cons rep .nil)))).earlier (x1.trans x2))
  | exc ex s' =>
    rw [ev] at h
    intro cls dd as' H' q x2 er
    cases er with
    | plain c' hc' =>
      rw [hK]
      refine ⟨c' == c, hex c' hc', fun hb z hz => ?_, fun hb => ?_⟩
      · have h : Ans ((if (c' == c) = true then pure (false, .tup [.str ret]) else evH cl .nil ⟨c', []⟩ : M (Bool × D)) s') _ _ := h
        rw [if_pos hb] at h
        exact Ans.pure h (.ref z) as' _ ((PV.of_new q (.tup q.dom hz (.cons (.str ret) .nil))).earlier (x1.trans x2))
      · have h : Ans ((if (c' == c) = true then pure (false, .tup [.str ret]) else evH cl .nil ⟨c', []⟩ : M (Bool × D)) s') _ _ := h
        rw [if_neg (by rw [hb]; simp)] at h
        exact h.elim
end
end Fw
set_option linter.all false
set_option Elab.async false
set_option maxRecDepth 100000
/-! The world's facts; the contexts that the translation speaks of. -/
namespace Fw
open PySem PySem.Spec L2
open PyProof.Rows hiding St
/-- where an expression stands, in the model -/
structure Cok (G : G0) (n : Nat) (X : Cx) (L : Lc) (Wd : WX) : Prop where
  P : CxP G X
  N : X.N = L.N
  nd : X.N.Nodup
  sc : X.env.scope = L.sc
  calm : X.calm = true
  kind : X.env.scope.kind = .function
  room : Room n X.A
  gd : L.gd = true → X.A.guards = some []
  fn : ∀ x, fnB L x = true → X.fn x = true
  tk : Takes X Wd
  lam : L.lam = true → ∃ cc P, LamX.TabB X.base X.mg cc P ∧ X.env.code = .ref cc ∧ (P, X.env.qual ++ "<lambda>") ∈ G.T ∧ (∀ p ∈ G.T, p.1 = P → p.2 = X.env.qual ++ "<lambda>") ∧ Room (n + 2) X.A
/-- the def that tells what was heard -/
structure Heard (G : G0) (x : Str) (tag : Str) (c : Nat) (ret : Str) (g : Addr) : Prop where
  ex : ∃ (a e : Str) (pg : Arguments) (sg : Scope) (dV kV doc pm cdv ct oc : Value) (an od : Option Addr) (osl : Array (Option Value)) (Ng : List Str) (j j2 : Nat) (k1 k2 : Nat) (p1 p2 p3 p4 p5 p6 p7 p8 p9 p10 p11 : Pos),
    G.K.lookup g = some ⟨oc, od, .func (PySem.W.fnOf x x pg [.Try [.Return (some (.Tuple [.Constant (.str tag) j p9, .Call (.Name a p1) [] [] p2] k1 p10)) p3] [.ExceptHandler (some (.Name e p4)) none [.Return (some (.Tuple [.Constant (.str ret) j2 p5] k2 p11)) p6] p7] [] [] p8] sg dV kV doc pm an cdv ct), osl⟩ ∧
    PySem.W.codeIn G.K cdv x = true ∧ L2.Binds G.K (PySem.W.fnOf x x pg [.Try [.Return (some (.Tuple [.Constant (.str tag) j p9, .Call (.Name a p1) [] [] p2] k1 p10)) p3] [.ExceptHandler (some (.Name e p4)) none [.Return (some (.Tuple [.Constant (.str ret) j2 p5] k2 p11)) p6] p7] [] [] p8] sg dV kV doc pm an cdv ct) [a] [] ∧
    FnScope Ng [a] sg ∧ Ng[0]? = some a ∧ Vis sg a ∧ sg.names.lookup e = some .globalImplicit ∧ G.mg e = some (.ref (G.ca c)) ∧ (e == ("__debug__" : Str)) = false ∧ (a == ("__debug__" : Str)) = false ∧ (a == ("__classdict__" : Str)) = false
def biS : Bi → Option (Sum String String)
  | .len => some (.inl "len") | .all => some (.inl "all") | .any => some (.inl "any") | .sum => some (.inl "sum") | .repr => some (.inl "repr") | .abs => some (.inl "abs")
  | .tuple => some (.inr "tuple") | .list => some (.inr "list") | .dict => some (.inr "dict") | .int => some (.inr "int")
  | _ => none
def bltNames : List Str := [S "len", S "all", S "any", S "sum", S "repr", S "abs", S "tuple", S "list", S "dict", S "int", S "isinstance", S "range", S "bool", S "str"]
/-- the world's facts -/
structure Wok (G : G0) (cfg : Cfg) (cl : Call) (n : Nat) : Prop where
  fnv : ∀ x i, ixIn x cfg.fns = some i → G.mg x = some (.ref (G.fa i)) ∧ PySem.W.keepIn G.K (.ref (G.fa i)) = true
  fn : ∀ x i, ixIn x cfg.fns = some i → cfg.heards.lookup x = none → ∃ fd ps, Binds G.K fd ps [] ∧ FnG G cl n i fd ps (cfg.gds[i]?.getD true)
  con : ∀ x d, cfg.cons.lookup x = some d → ∃ v u, G.mg x = some u ∧ RelV v u ∧ ∀ W as H, Rep G W as H v d
  blt : ∀ x ∈ bltNames, G.mg x = none
  exc : ∀ x c, ixIn x cfg.excs = some c → G.mg x = some (.ref (G.ca c)) ∧ PySem.W.keepIn G.K (.ref (G.ca c)) = true ∧ (∃ bmB Bs nw ini, ExcBaseFacts Bs nw ini bmB ∧ PySem.W.excIn G.K (G.ca c) bmB nw = true) ∧ PySem.W.subIn G.K (.ref (G.ca c)) (.type "BaseException") = some true ∧ PySem.W.typeIn G.K (.ref (G.ca c)) = some (.type "type") ∧ c < G.nx
  exm : ∀ c c', c < G.nx → c' < G.nx → PySem.W.exmOne G.K (.ref (G.ca c')) (.ref (G.ca c)) = some (c' == c)
  heard : ∀ x i tag hs, ixIn x cfg.fns = some i → cfg.heards.lookup x = some (tag, hs) → ∃ c ret, hs = [(c, ret)] ∧ c < G.nx ∧ Heard G x tag c ret (G.fa i)
section
variable {G : G0} {cfg : Cfg} {X : Cx} {L : Lc} {Wd : WX} {n m : Nat} {cl : Call} {e : Expr} {c : C} {x : Str}
theorem nameOk_inv (h : nameOk x = true) : (x == ("__debug__" : Str)) = false ∧ (x == ("__classdict__" : Str)) = false ∧ x ≠ "__name__" := by
  unfold nameOk at h
  simp only [Bool.and_eq_true, Bool.not_eq_true'] at h
  refine ⟨h.1.1, h.1.2, fun z => ?_⟩
  rw [z] at h
  have := h.2
  simp at this
theorem vis_of (h : visB L.sc x = true) (C : X.env.scope = L.sc) : Vis X.env.scope x ∧ nameOk x = true := by
  unfold visB at h
  rw [Bool.and_eq_true] at h
  rw [C]
  refine ⟨?_, h.1⟩
  have h2 := h.2
  unfold Vis
  cases q : L.sc.names.lookup x with
  | none => rw [q] at h2; cases h2
  | some k => rw [q] at h2; cases k <;> simp_all
theorem loc_of (h : locB L.sc x = true) (C : X.env.scope = L.sc) : Loc X.env.scope x ∧ nameOk x = true := by
  unfold locB at h
  rw [Bool.and_eq_true] at h
  rw [C]
  refine ⟨?_, h.1⟩
  have h2 := h.2
  unfold L2.Loc
  cases q : L.sc.names.lookup x with
  | none => rw [q] at h2; cases h2
  | some k => rw [q] at h2; cases k <;> simp_all
theorem glo_of (h : gloB L.sc x = true) (C : X.env.scope = L.sc) : Gl X x ∧ nameOk x = true := by
  unfold gloB at h
  rw [Bool.and_eq_true] at h
  refine ⟨?_, h.1⟩
  have h2 := h.2
  show X.env.scope.names.lookup x = _
  rw [C]
  cases q : L.sc.names.lookup x with
  | none => rw [q] at h2; cases h2
  | some k => rw [q] at h2; cases k <;> simp_all
theorem ixIn_get : ∀ {N : List Str} {i : Nat}, ixIn x N = some i → N[i]? = some x
  | y :: r, i, h => by
    unfold ixIn at h
    by_cases q : (x == y) = true
    · rw [if_pos q] at h; cases h
      simp at q; simp [q]
    · rw [if_neg q] at h
      obtain ⟨j, hj, e⟩ := Option.map_eq_some_iff.mp h
      subst e
      simpa using ixIn_get hj
theorem gen_true (h : ∀ a p, e ≠ .UnaryOp .Not a p) (h2 : ∀ o l p, e ≠ .BoolOp o l p) (h3 : ∀ a b c p, e ≠ .IfExp a b c p) (h4 : ∀ a o b p, e ≠ .Compare a o b p) : ∀ whole, isTrue e X.env whole = (do let v ← whole; standAt e.pos; holding [v] (PySem.truthy v)) := by
  intro whole
  cases e <;> first
    | rfl
    | exact absurd rfl (h2 _ _ _)
    | exact absurd rfl (h3 _ _ _ _)
    | exact absurd rfl (h4 _ _ _ _)
    | (rename_i op a p; cases op <;> first | rfl | exact absurd rfl (h _ _))
end
end Fw
set_option linter.all false
set_option Elab.async false
set_option maxRecDepth 100000
set_option maxHeartbeats 4000000
/-! The translation of expressions is sound. -/
namespace Fw
open PySem PySem.Spec L2
open PyProof.Rows hiding St
/-- what the translation within m steps promises -/
structure Gd (G : G0) (cfg : Cfg) (cl : Call) (n m : Nat) : Prop where
  e : ∀ (X : Cx) (L : Lc) (Wd : WX) (e : Expr) (c : C), Cok G n X L Wd → cE cfg m L e = some c → PE X e (TF G Wd (evF cl c)) ∧ PT X e (TB G Wd (tstF cl c))
  bo : ∀ (X : Cx) (L : Lc) (Wd : WX) (o : BoolOp) (l : List Expr) (c : C) (pos : Pos), Cok G n X L Wd → cBo cfg m L o l = some c → PE X (.BoolOp o l pos) (TF G Wd (evF cl c)) ∧ PW X (.BoolOp o l pos) (TB G Wd (tstF cl c))
  l : ∀ (X : Cx) (L : Lc) (Wd : WX) (es : List Expr) (c : C), Cok G n X L Wd → cL cfg m L es = some c → noStar es = true → PA X es (TL G Wd (RZs G) (evL cl c)) ∧ PA X es (TL G Wd (ROs G) (evO cl c))
  t : ∀ (X : Cx) (L : Lc) (Wd : WX) (es : List Expr) (c : C), Cok G n X L Wd → cL cfg m L es = some c → noStar es = true → es.length ≤ 1 → PTs X es (TB G Wd (evC cl c))
  k : ∀ (X : Cx) (L : Lc) (Wd : WX) (pos : Pos) (ks : List (Option Expr)) (vs : List Expr) (c : C), Cok G n X L Wd → cK cfg m L ks vs = some c → PPs X pos ks vs (trK G Wd cl c) ∧ OnlyK c ∧ ks.all (·.isSome) = true ∧ ks.length = vs.length ∧ (ks = [] → c = .nil)
  o : ∀ (X : Cx) (L : Lc) (Wd : WX) (e : Option Expr) (c : C), Cok G n X L Wd → cO cfg m L e = some c → PO X e (TO' G Wd (partM c (evF cl c)))
  i : ∀ (X : Cx) (L : Lc) (Wd : WX) (tg e : Expr) (c : C), Cok G n X L Wd → cI cfg m L e = some c → PI X tg e (TIr G Wd (evI cl c))
section
variable {G : G0} {cfg : Cfg} {X : Cx} {L : Lc} {Wd : WX} {n m : Nat} {cl : Call} {e : Expr} {c : C} {x : Str}
theorem Cok.u65 (C : Cok G n X L Wd) : X.A.units + 65 < cLine := by have := C.room.un; omega
theorem Cok.u1 (C : Cok G n X L Wd) : X.A.units + 1 < cLine := by have := C.room.un; omega
theorem cE_var {i : Nat} (h : cE cfg m L e = some (.var i)) : ∃ x p, e = .Name x p ∧ visB L.sc x = true ∧ ixIn x L.N = some i := by
  cases m with
  | zero => unfold cE at h; cases h
  | succ m =>
    unfold cE at h
    split at h
    case h_1 x p =>
      split at h
      · rename_i hv
        obtain ⟨j, hj, e⟩ := Option.map_eq_some_iff.mp h
        cases e
        exact ⟨_, _, rfl, hv, hj⟩
      · split at h
        · split at h
          · cases h
          · obtain ⟨j, hj, e⟩ := Option.map_eq_some_iff.mp h
            cases e
        · cases h
    all_goals repeat' (split at h)
    all_goals first
      | (cases h; done)
      | (obtain ⟨_, _, e⟩ := Option.map_eq_some_iff.mp h; first | (cases e; done) | (split at e <;> cases e))
theorem pe_o (C : Cok G n X L Wd) (h : cE cfg m L e = some c) (p : PE X e (TF G Wd (evF cl c))) : PE X e (TM G Wd (RO G) (opd c (evF cl c))) :=
  pe_opd p fun i z => by
    subst z
    obtain ⟨x, q, rfl, hv, hi⟩ := cE_var h
    obtain ⟨v, k⟩ := vis_of hv C.sc
    obtain ⟨k1, k2, _⟩ := nameOk_inv k
    exact o_var (by rw [C.N]; exact ixIn_get hi) v k1 k2
theorem tru_of (C : Cok G n X L Wd) (h : cE cfg m L e = some c) (p : PE X e (TF G Wd (evF cl c))) : PE X e (TM G Wd (RTru G) (tst c (evF cl c))) :=
  tru_o p fun i z => by
    subst z
    obtain ⟨x, q, rfl, hv, hi⟩ := cE_var h
    obtain ⟨v, k⟩ := vis_of hv C.sc
    obtain ⟨k1, k2, _⟩ := nameOk_inv k
    exact o_var (by rw [C.N]; exact ixIn_get hi) v k1 k2
theorem pt_o (C : Cok G n X L Wd) (h : cE cfg m L e = some c) (p : PE X e (TF G Wd (evF cl c)) ∧ PT X e (TB G Wd (tstF cl c))) : PT X e (TB G Wd (tst c (evF cl c))) := by
  by_cases hh : ∃ i, c = .var i
  · obtain ⟨i, rfl⟩ := hh
    obtain ⟨x, q, rfl, hv, hi⟩ := cE_var h
    exact pt_tru C.P.K (tru_of C h p.1) (gen_true (by simp) (by simp) (by simp) (by simp))
  · rw [tst_eq fun i z => hh ⟨i, z⟩]
    exact p.2
theorem pt_g (C : Cok G n X L Wd) (p : PE X e (TF G Wd (evF cl c))) (h : ∀ a p, e ≠ .UnaryOp .Not a p) (h2 : ∀ o l p, e ≠ .BoolOp o l p) (h3 : ∀ a b c p, e ≠ .IfExp a b c p) (h4 : ∀ a o b p, e ≠ .Compare a o b p) : PE X e (TF G Wd (evF cl c)) ∧ PT X e (TB G Wd (tstF cl c)) :=
  ⟨p, pt_tru C.P.K (tru_f p) (gen_true h h2 h3 h4)⟩
theorem noSet (h : cE cfg m L e = some c) (op : CmpOp) : behindInMarks op e = false := by
  cases m with
  | zero => unfold cE at h; cases h
  | succ m => cases e <;> first | rfl | (unfold cE at h; cases h)
theorem noSlice (h : cE cfg m L e = some c) : (∀ lo hi st p, e ≠ .Slice lo hi st p) ∧ PlainIx e := by
  cases m with
  | zero => unfold cE at h; cases h
  | succ m => cases e <;> first | exact ⟨by simp, fun _ _ => rfl⟩ | (unfold cE at h; cases h)
theorem noStarred (h : cE cfg m L e = some c) : noStar [e] = true := by
  cases m with
  | zero => unfold cE at h; cases h
  | succ m => cases e <;> first | rfl | (unfold cE at h; cases h)
theorem noNil (h : cE cfg m L e = some c) : c ≠ .nil := by
  cases m with
  | zero => unfold cE at h; cases h
  | succ m =>
    intro z; subst z
    unfold cE at h
    split at h
    all_goals repeat' (split at h)
    all_goals first
      | (cases h; done)
      | (obtain ⟨_, _, e⟩ := Option.map_eq_some_iff.mp h; first | (cases e; done) | (split at e <;> cases e))
end
end Fw
set_option linter.all false
set_option Elab.async false
set_option maxRecDepth 100000
set_option maxHeartbeats 4000000
namespace Fw
open PySem PySem.Spec L2
open PyProof.Rows hiding St
section
variable {G : G0} {cfg : Cfg} {n m : Nat} {cl : Call}
theorem biOf_inv {x : Str} {b : Bi} (h : biOf x = some b) (hb : biB b = true) :
    (x = S "len" ∧ b = .len) ∨ (x = S "all" ∧ b = .all) ∨ (x = S "any" ∧ b = .any) ∨ (x = S "sum" ∧ b = .sum) ∨ (x = S "tuple" ∧ b = .tuple) ∨ (x = S "list" ∧ b = .list) ∨ (x = S "dict" ∧ b = .dict) ∨ (x = S "repr" ∧ b = .repr) ∨ (x = S "int" ∧ b = .int) ∨ (x = S "abs" ∧ b = .abs) := by
  unfold biOf at h
  by_cases h1 : (x == S "len") = true
  · rw [if_pos h1] at h; cases h; exact .inl ⟨beq_iff_eq.mp h1, rfl⟩
  rw [if_neg h1] at h
  by_cases h2 : (x == S "all") = true
  · rw [if_pos h2] at h; cases h; exact .inr (.inl ⟨beq_iff_eq.mp h2, rfl⟩)
  rw [if_neg h2] at h
  by_cases h3 : (x == S "any") = true
  · rw [if_pos h3] at h; cases h; exact .inr (.inr (.inl ⟨beq_iff_eq.mp h3, rfl⟩))
  rw [if_neg h3] at h
  by_cases h4 : (x == S "sum") = true
  · rw [if_pos h4] at h; cases h; exact .inr (.inr (.inr (.inl ⟨beq_iff_eq.mp h4, rfl⟩)))
  rw [if_neg h4] at h
  by_cases h5 : (x == S "tuple") = true
  · rw [if_pos h5] at h; cases h; exact .inr (.inr (.inr (.inr (.inl ⟨beq_iff_eq.mp h5, rfl⟩))))
  rw [if_neg h5] at h
  by_cases h6 : (x == S "list") = true
  · rw [if_pos h6] at h; cases h; exact .inr (.inr (.inr (.inr (.inr (.inl ⟨beq_iff_eq.mp h6, rfl⟩)))))
  rw [if_neg h6] at h
  by_cases h7 : (x == S "dict") = true
  · rw [if_pos h7] at h; cases h; exact .inr (.inr (.inr (.inr (.inr (.inr (.inl ⟨beq_iff_eq.mp h7, rfl⟩))))))
  rw [if_neg h7] at h
  by_cases h8 : (x == S "repr") = true
  · rw [if_pos h8] at h; cases h; exact .inr (.inr (.inr (.inr (.inr (.inr (.inr (.inl ⟨beq_iff_eq.mp h8, rfl⟩)))))))
  rw [if_neg h8] at h
  by_cases h9 : (x == S "str") = true
  · rw [if_pos h9] at h; cases h; cases hb
  rw [if_neg h9] at h
  by_cases g1 : (x == S "int") = true
  · rw [if_pos g1] at h; cases h; exact .inr (.inr (.inr (.inr (.inr (.inr (.inr (.inr (.inl ⟨beq_iff_eq.mp g1, rfl⟩))))))))
  rw [if_neg g1] at h
  by_cases g2 : (x == S "abs") = true
  · rw [if_pos g2] at h; cases h; exact .inr (.inr (.inr (.inr (.inr (.inr (.inr (.inr (.inr ⟨beq_iff_eq.mp g2, rfl⟩))))))))
  rw [if_neg g2] at h
  repeat' (split at h)
  all_goals (cases h; try cases hb)
theorem cL_nil {L : Lc} {c : C} (h : cL cfg m L [] = some c) : c = .nil := by
  cases m with
  | zero => unfold cL at h; cases h
  | succ m => unfold cL at h; cases h; rfl
theorem attr_plain {o : Expr} {mm : Str} {env : Env} {w : Sem Value} (h : plainO o = true) : attributeBase o mm env w = w := by
  unfold attributeBase
  split
  · cases h
  · rfl
theorem cN_ok {X : Cx} {L : Lc} {Wd : WX} {t : Expr} {c : C} (C : Cok G n X L Wd) (h : cN L t = some c) : ∃ i x p, c = .var i ∧ t = .Name x p ∧ X.N[i]? = some x ∧ L2.Loc X.env.scope x ∧ (X.fn x = true ∨ X.env.scope.names.lookup x = some .local) := by
  cases t <;> try cases h
  rename_i x p
  have h : (if tgB L x then (ixIn x L.N).map Fw.C.var else none) = some c := h
  split at h
  · rename_i ht
    obtain ⟨i, hi, rfl⟩ := Option.map_eq_some_iff.mp h
    unfold tgB at ht
    rw [Bool.and_eq_true, Bool.or_eq_true] at ht
    refine ⟨i, x, p, rfl, rfl, by rw [C.N]; exact ixIn_get hi, (loc_of ht.1 C.sc).1, ht.2.imp (C.fn x) fun h => ?_⟩
    rw [C.sc]
    simpa using h
  · cases h
theorem cNs_ok {X : Cx} {L : Lc} {Wd : WX} (C : Cok G n X L Wd) : ∀ {ts : List Expr} {c : Fw.C}, cNs L ts = some c → ∃ is, tnames c = some is ∧ Nms X ts is
  | [], c, h => by cases h; exact ⟨[], rfl, .nil⟩
  | t :: ts, c, h => by
    have h : (match cN L t, cNs L ts with | some a, some b => some (Fw.C.cons a b) | _, _ => none) = some c := h
    split at h
    · rename_i a b h1 h2
      cases h
      obtain ⟨i, x, p, rfl, rfl, e1, e2, e3⟩ := cN_ok C h1
      obtain ⟨is, e4, e5⟩ := cNs_ok C h2
      exact ⟨i :: is, by show (tnames b).map (i :: ·) = _; rw [e4]; rfl, .cons e1 e2 e3 e5⟩
    · cases h
theorem cT_ok {X : Cx} {L : Lc} {Wd : WX} {t : Expr} {c : C} (C : Cok G n X L Wd) (h : cT L t = some c) : ∃ js, tvars c = some js ∧ (∀ v, asg1 cl c v = asgT c v) ∧ PG X t (TGe G Wd js (asg1 cl c)) := by
  by_cases ht : ∃ es k p, t = .Tuple es k p
  · obtain ⟨es, k, p, rfl⟩ := ht
    obtain ⟨a, h1, rfl⟩ := Option.map_eq_some_iff.mp (show (cNs L es).map Fw.C.tup = some c from h)
    obtain ⟨is, e1, e2⟩ := cNs_ok C h1
    exact ⟨is, e1, fun _ => rfl, g_tup C.calm C.P.K C.nd e2 e1⟩
  · have h : cN L t = some c := by cases t <;> first | exact h | exact absurd ⟨_, _, _, rfl⟩ ht
    obtain ⟨i, x, p, rfl, rfl, e1, e2, e3⟩ := cN_ok C h
    exact ⟨[i], rfl, fun _ => rfl, g_name C.nd e1 e2 e3⟩
/-- a block's context -/
theorem Cok.blk {X : Cx} {L : Lc} {Wd : WX} (C : Cok G n X L Wd) (s : Shared) (H : Hp) (sc : Scope) (a : Addr) (cl' : List (Str × Addr)) (fp : List Addr) (hk : sc.kind = .function) : Cok G n (X.blk s H sc (compEnvC sc cl' a X.env) fp) ⟨L.N, relS sc L.sc, some sc, false, L.gd⟩ WF :=
  ⟨⟨C.P.P, C.P.w, C.P.K, C.P.mg, C.P.base⟩, C.N, C.nd, by show relS sc X.env.scope = _; rw [C.sc], C.calm, hk, C.room, C.gd, fun x h => h, LamX.takes0, fun h => by cases h⟩
/-- a lambda's context -/
theorem Cok.lamb {X : Cx} {L : Lc} {Wd : WX} (C : Cok G n X L Wd) {sc : Scope} (Ls : LamX.LamS X.env.scope sc) (A : Around) (outer : List Env) (s : Shared) (H : Hp) (E : XK) (f c' : Addr) (hr : Room n (A.deeper (LamX.lamEnv X sc s.heap.objs.size f c'))) :
    Cok G n (LamX.lamCx X A outer s H E sc f c') ⟨L.N, sc, some sc, false, false⟩ (fun cls d _ H' => E cls d H') :=
  ⟨⟨C.P.P, C.P.w, C.P.K, C.P.mg, C.P.base⟩, C.N, C.nd, rfl, rfl, Ls.kind, hr, (fun h => by cases h), fun x h => by
    have h : (sc.names.lookup x == some .cell) = true := h
    have h : sc.names.lookup x = some .cell := by simpa using h
    exact absurd rfl (Ls.own _ (PySem.mem_of_lookup h)).2, takes_of rfl rfl rfl rfl, fun h => by cases h⟩
theorem fold_ok {it : Expr} {L : Lc} {c : C} {env : Env} (h : cI cfg m L it = some c) : ∀ x, foldedSetIterable it env x = pure x := by
  cases m with
  | zero => unfold cI at h; cases h
  | succ m =>
    intro x
    cases it <;> first
      | rfl
      | (exfalso
         have h : (cE cfg m L (.Set _ _ _)).map Fw.C.itv = some c := h
         obtain ⟨a, h1, _⟩ := Option.map_eq_some_iff.mp h
         cases m with
         | zero => unfold cE at h1; cases h1
         | succ m => unfold cE at h1; cases h1)
theorem e_step (Wk : Wok G cfg cl n) (ih : Gd G cfg cl n m) : ∀ (X : Cx) (L : Lc) (Wd : WX) (e : Expr) (c : C), Cok G n X L Wd → cE cfg (m + 1) L e = some c → PE X e (TF G Wd (evF cl c)) ∧ PT X e (TB G Wd (tstF cl c)) := by
  intro X L Wd e c C h
  unfold cE at h
  split at h
  case h_1 x p =>
    split at h
    · rename_i hv
      obtain ⟨i, hi, rfl⟩ := Option.map_eq_some_iff.mp h
      obtain ⟨v, k⟩ := vis_of hv C.sc
      obtain ⟨k1, k2, _⟩ := nameOk_inv k
      exact pt_g C (s_var (by rw [C.N]; exact ixIn_get hi) v k1 k2) (by simp) (by simp) (by simp) (by simp)
    · split at h
      · rename_i hg
        obtain ⟨g, k⟩ := glo_of hg C.sc
        obtain ⟨k1, k2, _⟩ := nameOk_inv k
        split at h
        · rename_i d hd
          cases h
          obtain ⟨v, u, e1, e2, e3⟩ := Wk.con _ _ hd
          exact pt_g C (PE.const (pe_glob g (by rw [C.P.mg]; exact e1) e2 k1) e3) (by simp) (by simp) (by simp) (by simp)
        · obtain ⟨i, hi, rfl⟩ := Option.map_eq_some_iff.mp h
          exact pt_g C (PE.const (pe_glob (v := .ref (G.fa i)) g (by rw [C.P.mg]; exact (Wk.fnv _ _ hi).1) rfl k1) fun _ _ _ => .fn i) (by simp) (by simp) (by simp) (by simp)
      · cases h
  case h_2 k j p =>
    obtain ⟨d, hd, rfl⟩ := Option.map_eq_some_iff.mp h
    exact pt_g C (s_const hd) (by simp) (by simp) (by simp) (by simp)
  case h_3 a o b p =>
    split at h
    · rename_i o' a' b' h1 h2 h3
      cases h
      exact pt_g C (s_bin C.P.K h1 (pe_o C h2 (ih.e X L Wd _ _ C h2).1) (pe_o C h3 (ih.e X L Wd _ _ C h3).1)) (by simp) (by simp) (by simp) (by simp)
    · cases h
  case h_4 a p =>
    obtain ⟨a', h1, rfl⟩ := Option.map_eq_some_iff.mp h
    exact pt_g C (s_neg (ih.e X L Wd _ _ C h1).1) (by simp) (by simp) (by simp) (by simp)
  case h_5 a p =>
    obtain ⟨a', h1, rfl⟩ := Option.map_eq_some_iff.mp h
    exact ⟨s_not C.P.K (tru_of C h1 (ih.e X L Wd _ _ C h1).1), t_not (pt_o C h1 (ih.e X L Wd _ _ C h1))⟩
  case h_6 o a b r p =>
    split at h
    · rename_i a' b' h1 h2
      obtain ⟨p1, t1⟩ := ih.e X L Wd _ _ C h1
      obtain ⟨p2, t2⟩ := ih.bo X L Wd _ _ _ p C h2
      cases o with
      | And => cases h; exact ⟨s_and C.P.K p1 p2, (t_and t1 t2).pt⟩
      | Or => cases h; exact ⟨s_or C.P.K p1 p2, (t_or t1 t2).pt⟩
    · cases h
  case h_7 t a b p =>
    split at h
    · rename_i t' a' b' h1 h2 h3
      cases h
      obtain ⟨p2, t2⟩ := ih.e X L Wd _ _ C h2
      obtain ⟨p3, t3⟩ := ih.e X L Wd _ _ C h3
      have t1 := pt_o C h1 (ih.e X L Wd _ _ C h1)
      exact ⟨s_ite t1 p2 p3, t_ite t1 t2 t3⟩
    · cases h
  case h_8 a o b p =>
    split at h
    · rename_i a' b' h1 h2
      cases h
      have p1 := pe_o C h1 (ih.e X L Wd _ _ C h1).1
      have p2 := pe_o C h2 (ih.e X L Wd _ _ C h2).1
      exact ⟨s_cmp C.P.K C.u65 p1 p2 (noSet h2 o), t_cmp C.P.K C.u65 p1 p2 (noSet h2 o)⟩
    · cases h
  case h_9 a o p b c q =>
    split at h
    · rename_i a' b' c' h1 h2 h3
      cases h
      have p1 := (ih.e X L Wd _ _ C h1).1
      have p2 := (ih.e X L Wd _ _ C h2).1
      have p3 := (ih.e X L Wd _ _ C h3).1
      have hm : lastMarks [o, p] [b, c] = false := noSet h3 p
      exact ⟨s_cmp2 C.P.K C.u65 p1 p2 p3 hm, t_cmp2 C.P.K C.u65 p1 p2 p3 hm⟩
    · cases h
  case h_10 es k p =>
    split at h
    · rename_i hs
      obtain ⟨a, h1, rfl⟩ := Option.map_eq_some_iff.mp h
      exact pt_g C (s_tup (ih.l X L Wd _ _ C h1 hs).1) (by simp) (by simp) (by simp) (by simp)
    · cases h
  case h_11 es p =>
    split at h
    · cases h
    · rename_i hs
      have hs : noStar es = true := by simpa using hs
      obtain ⟨a, h1, e1⟩ := Option.map_eq_some_iff.mp h
      have p1 := s_lst (pos := p) (ih.l X L Wd _ _ C h1 hs).1
      split at e1
      · cases e1
        exact pt_g C (by rw [evF_box]; exact s_box p1) (by simp) (by simp) (by simp) (by simp)
      · cases e1
        exact pt_g C p1 (by simp) (by simp) (by simp) (by simp)
  case h_12 ks vs p =>
    split at h
    · cases h
    · rename_i hl
      obtain ⟨a, h1, e1⟩ := Option.map_eq_some_iff.mp h
      obtain ⟨q1, q2, q3, q4, q5⟩ := ih.k X L Wd p _ _ _ C h1
      have p1 : PE X (.Dict ks vs p) (TF G Wd (evF cl (.dct a))) := by
        cases ks with
        | nil =>
          obtain rfl := q5 rfl
          cases vs with
          | nil => exact s_dnew
          | cons v vs => cases q4
        | cons k ks => exact s_dct q1 q2 q3 q4 (by simp) (by simpa using hl)
      split at e1
      · cases e1
        exact pt_g C (by rw [evF_box]; exact s_box p1) (by simp) (by simp) (by simp) (by simp)
      · cases e1
        exact pt_g C p1 (by simp) (by simp) (by simp) (by simp)
  case h_13 a lo hi p2 p =>
    split at h
    · rename_i a' lo' hi' h1 h2 h3
      cases h
      exact pt_g C (by rw [evF_slc]; exact s_slc C.P.K (pe_o C h1 (ih.e X L Wd _ _ C h1).1) (ih.o X L Wd _ _ C h2) (ih.o X L Wd _ _ C h3)) (by simp) (by simp) (by simp) (by simp)
    · cases h
  case h_14 a i p hne =>
    split at h
    · rename_i a' i' h1 h2
      cases h
      exact pt_g C (s_sub C.P.K C.u1 (pe_o C h1 (ih.e X L Wd _ _ C h1).1) (ih.e X L Wd _ _ C h2).1 (noSlice h2).2) (by simp) (by simp) (by simp) (by simp)
    · cases h
  case h_15 x p as q =>
    split at h
    · cases h
    rename_i hs
    have hs : noStar as = true := by simpa using hs
    split at h
    · cases h
    split at h
    · rename_i hg
      obtain ⟨g, k⟩ := glo_of hg C.sc
      obtain ⟨k1, k2, k3⟩ := nameOk_inv k
      split at h
      · rename_i f hf
        obtain ⟨hm, hk⟩ := Wk.fnv _ _ hf
        split at h
        · rename_i tag hs' pr b sc lp hh _
          split at h
          · rename_i hc
            simp only [Bool.and_eq_true] at hc
            obtain ⟨⟨hlam, hsc⟩, hpr⟩ := hc
            obtain ⟨b', h1, rfl⟩ := Option.map_eq_some_iff.mp h
            obtain ⟨c, ret, rfl, hcn, hd⟩ := Wk.heard _ _ _ _ hf hh
            obtain ⟨a, e, pg, sg, dV, kV, doc, pm, cdv, ct, oc, an, od, osl, Ng, j, j2, z1, z2, p1, p2, p3, p4, p5, p6, p7, p8, p9, p10, p11, lk, hcg, hb, Sg, hNg, hva, hge, hme, hde, had, hac⟩ := hd.ex
            obtain ⟨cc, P, TB, hcode, hmT, hu, hr⟩ := C.lam hlam
            have Ls : LamX.LamS X.env.scope sc := LamX.lamS_by (by rw [C.sc]; exact hsc)
            have hpe : pr = ⟨[], [], none, [], [], none, []⟩ := by
              unfold noArgs at hpr
              split at hpr
              · rfl
              · cases hpr
            subst hpe
            have K := C.P.K
            refine pt_g C (s_heard (c := c) (ret := ret) K g (by rw [C.P.mg]; exact hm) (by rw [K]; exact hk) (by rw [K]; exact lk) (by rw [K]; exact hcg) (by rw [K]; exact hb) Sg hNg hva hge (by rw [C.P.mg]; exact hme) hde ?_ TB hcode hmT hu hr Ls rfl (fun q cl pm cv ctv => ?_) (fun A outer s H E f c' hr => (ih.e _ _ _ _ _ (C.lamb Ls A outer s H E f c' hr) h1).1) (fun c' hc' => Wk.exm c c' hcn hc') k1 had hac) (by simp) (by simp) (by simp) (by simp)
            · exact (List.getElem?_eq_some_iff.mp hNg).1
            · rfl
          · cases h
        · cases h
        · rename_i hh _
          split at h
          · cases h
          · rename_i hgd
            obtain ⟨a, h1, rfl⟩ := Option.map_eq_some_iff.mp h
            obtain ⟨fd, ps, hb, F⟩ := Wk.fn _ _ hf hh
            refine pt_g C (s_call C.P F C.room (fun hq => C.gd ?_) hb C.tk g hm hk (ih.l X L Wd _ _ C h1 hs).1 (fun z => by subst z; exact cL_nil h1) hs k1) (by simp) (by simp) (by simp) (by simp)
            rw [hq] at hgd
            simpa using hgd
      · rename_i hf
        have mg0 : ∀ y ∈ bltNames, X.mg y = none := fun y hy => by rw [C.P.mg]; exact Wk.blt y hy
        split at h
        · rename_i hx
          have hx : x = S "isinstance" := by simpa using hx
          subst hx
          split at h
          · rename_i a t tp _
            split at h
            · rename_i a' ty h1 h2
              split at h
              · rename_i hgt
                cases h
                obtain ⟨gt, kt⟩ := glo_of hgt C.sc
                obtain ⟨t1, t2, t3⟩ := nameOk_inv kt
                have hty : t ∈ bltNames ∧ bootBuiltins t = some (.type (tyS ty)) := by
                  unfold tyOf at h2
                  repeat' (split at h2)
                  all_goals first
                    | (cases h2; done)
                    | (cases h2; rename_i hq; have hq := (beq_iff_eq.mp hq); subst hq; exact ⟨by decide, by first | rfl | decide +kernel⟩)
                exact pt_g C (s_isi C.P.K (pe_o C h1 (ih.e X L Wd _ _ C h1).1) (noStarred h1) g (mg0 _ (by decide)) (by first | rfl | decide +kernel) k3 k1 gt (mg0 _ hty.1) hty.2 t3 t1) (by simp) (by simp) (by simp) (by simp)
              · cases h
            · cases h
          · cases h
        · split at h
          · cases h
          · split at h
            · rename_i b as' h1 h2
              split at h
              · rename_i hc
                cases h
                simp only [Bool.and_eq_true, Bool.or_eq_true, bne_iff_ne, ne_eq, Bool.not_eq_true'] at hc
                obtain ⟨⟨hb, hr⟩, hne⟩ := hc
                cases as with
                | nil => cases hne
                | cons a as =>
                  have pa := (ih.l X L Wd _ _ C h2 hs).2
                  rcases biOf_inv h1 hb with ⟨rfl, rfl⟩ | ⟨rfl, rfl⟩ | ⟨rfl, rfl⟩ | ⟨rfl, rfl⟩ | ⟨rfl, rfl⟩ | ⟨rfl, rfl⟩ | ⟨rfl, rfl⟩ | ⟨rfl, rfl⟩ | ⟨rfl, rfl⟩ | ⟨rfl, rfl⟩
                  · exact pt_g C (s_biB (c_len C.P.K) g (mg0 _ (by decide)) (by first | rfl | decide +kernel) pa hs k3 k1) (by simp) (by simp) (by simp) (by simp)
                  · exact pt_g C (s_biB (c_all C.calm) g (mg0 _ (by decide)) (by first | rfl | decide +kernel) pa hs k3 k1) (by simp) (by simp) (by simp) (by simp)
                  · exact pt_g C (s_biB (c_any C.calm) g (mg0 _ (by decide)) (by first | rfl | decide +kernel) pa hs k3 k1) (by simp) (by simp) (by simp) (by simp)
                  · exact pt_g C (s_biB (c_sum C.calm) g (mg0 _ (by decide)) (by first | rfl | decide +kernel) pa hs k3 k1) (by simp) (by simp) (by simp) (by simp)
                  · exact pt_g C (s_biT c_tuple g (mg0 _ (by decide)) (by first | rfl | decide +kernel) pa hs k3 k1) (by simp) (by simp) (by simp) (by simp)
                  · exact pt_g C (s_biT (c_list C.P.K) g (mg0 _ (by decide)) (by first | rfl | decide +kernel) pa hs k3 k1) (by simp) (by simp) (by simp) (by simp)
                  · exact pt_g C (s_biT (c_dict C.calm) g (mg0 _ (by decide)) (by first | rfl | decide +kernel) pa hs k3 k1) (by simp) (by simp) (by simp) (by simp)
                  · exact pt_g C (s_biB (c_repr C.P.K (C.gd (hr.resolve_left (fun z => z rfl))) C.u65) g (mg0 _ (by decide)) (by first | rfl | decide +kernel) pa hs k3 k1) (by simp) (by simp) (by simp) (by simp)
                  · exact pt_g C (s_biT c_int g (mg0 _ (by decide)) (by first | rfl | decide +kernel) pa hs k3 k1) (by simp) (by simp) (by simp) (by simp)
                  · exact pt_g C (s_biB c_abs g (mg0 _ (by decide)) (by first | rfl | decide +kernel) pa hs k3 k1) (by simp) (by simp) (by simp) (by simp)
              · cases h
            · cases h
    · cases h
  case h_16 o mm ap as cp =>
    split at h
    · cases h
    · rename_i hc
      have hc : (noStar as && plainO o && ap.endLine == cp.line && decide (as.length < 30)) = true := by simpa using hc
      simp only [Bool.and_eq_true, decide_eq_true_eq] at hc
      obtain ⟨⟨⟨hs, hp⟩, hl⟩, hn⟩ := hc
      split at h
      · rename_i hm
        have hm : mm = S "append" := by simpa using hm
        subst hm
        split at h
        · rename_i o' as' h1 h2
          cases h
          exact pt_g C (s_append C.P.K (pe_o C h1 (ih.e X L Wd _ _ C h1).1) (ih.l X L Wd _ _ C h2 hs).1 (attr_plain hp) hs hn hl) (by simp) (by simp) (by simp) (by simp)
        · cases h
      · cases h
  case h_17 e t it cs sc p =>
    split at h
    · rename_i hc
      simp only [Bool.and_eq_true, decide_eq_true_eq] at hc
      obtain ⟨⟨hb, hns⟩, hl⟩ := hc
      split at h
      · rename_i it' t' cs' e' h1 h2 h3 h4
        split at h
        · rename_i hbt
          cases h
          have ok : BlkOk X.N X.env.scope sc (ownOf L.N sc) := by rw [C.N, C.sc]; exact blkOk_by hb
          unfold blkT at hbt
          split at hbt
          · rename_i js hjs
            have hsub : ∀ i ∈ js, i ∈ (ownOf L.N sc).map (·.2) := fun i hi => by simpa using List.all_eq_true.mp hbt i hi
            have ht : ∀ v, asg1 cl t' v = asgT t' v := by
              cases t' <;> first | exact fun _ => rfl | cases hjs
            exact pt_g C (s_comp C.calm C.nd (ih.i X L Wd t it _ C h1) ok hsub ht (fun s H a cl' fp => by
              obtain ⟨js', e1, _, e3⟩ := cT_ok (cl := cl) (C.blk s H sc a cl' fp ok.kind) h2
              rw [hjs] at e1; cases e1; exact e3) (fun s H a cl' fp => ih.t _ _ _ _ _ (C.blk s H sc a cl' fp ok.kind) h3 hns hl) (fun s H a cl' fp => (ih.e _ _ _ _ _ (C.blk s H sc a cl' fp ok.kind) h4).1) (fold_ok h1)) (by simp) (by simp) (by simp) (by simp)
          · cases hbt
        · cases h
      · cases h
    · cases h
  case h_18 k v t it cs sc p =>
    split at h
    · rename_i hc
      simp only [Bool.and_eq_true, decide_eq_true_eq] at hc
      obtain ⟨⟨hb, hns⟩, hl⟩ := hc
      split at h
      · rename_i it' t' cs' k' v' h1 h2 h3 h4 h5
        split at h
        · rename_i hbt
          cases h
          have ok : BlkOk X.N X.env.scope sc (ownOf L.N sc) := by rw [C.N, C.sc]; exact blkOk_by hb
          unfold blkT at hbt
          split at hbt
          · rename_i js hjs
            have hsub : ∀ i ∈ js, i ∈ (ownOf L.N sc).map (·.2) := fun i hi => by simpa using List.all_eq_true.mp hbt i hi
            have ht : ∀ v, asg1 cl t' v = asgT t' v := by
              cases t' <;> first | exact fun _ => rfl | cases hjs
            exact pt_g C (s_dcomp C.calm C.nd (ih.i X L Wd t it _ C h1) ok hsub ht (fun s H a cl' fp => by
              obtain ⟨js', e1, _, e3⟩ := cT_ok (cl := cl) (C.blk s H sc a cl' fp ok.kind) h2
              rw [hjs] at e1; cases e1; exact e3) (fun s H a cl' fp => ih.t _ _ _ _ _ (C.blk s H sc a cl' fp ok.kind) h3 hns hl) (fun s H a cl' fp => (ih.e _ _ _ _ _ (C.blk s H sc a cl' fp ok.kind) h4).1) (fun s H a cl' fp => (ih.e _ _ _ _ _ (C.blk s H sc a cl' fp ok.kind) h5).1) (fold_ok h1)) (by simp) (by simp) (by simp) (by simp)
          · cases hbt
        · cases h
      · cases h
    · cases h
  case h_19 => cases h
end
end Fw
set_option linter.all false
set_option Elab.async false
set_option maxRecDepth 100000
set_option maxHeartbeats 4000000
namespace Fw
open PySem PySem.Spec L2
open PyProof.Rows hiding St
section
variable {G : G0} {cfg : Cfg} {n m : Nat} {cl : Call}
theorem pw_one {X : Cx} {o : BoolOp} {a : Expr} {pos : Pos} {t : TT} (h : PT X a t) : PW X (.BoolOp o [a] pos) t := by
  cases o with
  | And => exact pw_and1 h
  | Or => exact pw_or1 h
theorem bo_step (ih : Gd G cfg cl n m) : ∀ (X : Cx) (L : Lc) (Wd : WX) (o : BoolOp) (l : List Expr) (c : C) (pos : Pos), Cok G n X L Wd → cBo cfg (m + 1) L o l = some c → PE X (.BoolOp o l pos) (TF G Wd (evF cl c)) ∧ PW X (.BoolOp o l pos) (TB G Wd (tstF cl c)) := by
  intro X L Wd o l c pos C h
  unfold cBo at h
  split at h
  · rename_i a
    obtain ⟨p, t⟩ := ih.e X L Wd _ _ C h
    exact ⟨pe_one p, pw_one t⟩
  · rename_i a b r
    split at h
    · rename_i a' b' h1 h2
      obtain ⟨p1, t1⟩ := ih.e X L Wd _ _ C h1
      obtain ⟨p2, t2⟩ := ih.bo X L Wd _ _ _ pos C h2
      cases o with
      | And => cases h; exact ⟨s_and C.P.K p1 p2, t_and t1 t2⟩
      | Or => cases h; exact ⟨s_or C.P.K p1 p2, t_or t1 t2⟩
    · cases h
  · cases h
theorem l_step (ih : Gd G cfg cl n m) : ∀ (X : Cx) (L : Lc) (Wd : WX) (es : List Expr) (c : C), Cok G n X L Wd → cL cfg (m + 1) L es = some c → noStar es = true → PA X es (TL G Wd (RZs G) (evL cl c)) ∧ PA X es (TL G Wd (ROs G) (evO cl c)) := by
  intro X L Wd es c C h hs
  unfold cL at h
  split at h
  · cases h; exact ⟨l_nil, o_nil⟩
  · rename_i a r
    split at h
    · rename_i a' r' h1 h2
      cases h
      obtain ⟨s1, s2⟩ := star_cons (env := X.env) hs
      obtain ⟨q1, q2⟩ := ih.l X L Wd _ _ C h2 s2
      have p := (ih.e X L Wd _ _ C h1).1
      exact ⟨l_cons p q1 s1, o_cons (pe_o C h1 p) q2 s1⟩
    · cases h
theorem pts_imp {X : Cx} {es : List Expr} {t t' : TT} (h : PTs X es t) (i : ∀ σ H Q, t' σ H Q → t σ H Q) : PTs X es t' := ⟨fun pins s σ H Q I q => h.run pins s σ H Q I (i σ H Q q)⟩
theorem t_step (ih : Gd G cfg cl n m) : ∀ (X : Cx) (L : Lc) (Wd : WX) (es : List Expr) (c : C), Cok G n X L Wd → cL cfg (m + 1) L es = some c → noStar es = true → es.length ≤ 1 → PTs X es (TB G Wd (evC cl c)) := by
  intro X L Wd es c C h hs hl
  unfold cL at h
  split at h
  · cases h
    exact pts_imp pts_nil fun σ H Q ⟨B, as, s, r, h⟩ => Ans.pure h as H r .refl
  · rename_i a r
    split at h
    · rename_i a' r' h1 h2
      cases h
      cases r with
      | cons b r => simp at hl
      | nil =>
        obtain rfl := cL_nil h2
        rw [evC_cons]
        refine pts_imp (pts_one (pt_o C h1 (ih.e X L Wd _ _ C h1))) fun σ H Q ⟨B, as, s, r, h⟩ => ⟨B, as, s, r, (Ans.bind h).imp (fun k s' h as' H' r' x' => ?_) fun _ _ h => h⟩
        cases k with
        | true => rw [if_pos rfl] at h; exact Ans.pure h as' H' r' x'
        | false => rw [if_neg (by simp)] at h; exact Ans.pure h as' H' r' x'
    · cases h
theorem k_step (ih : Gd G cfg cl n m) : ∀ (X : Cx) (L : Lc) (Wd : WX) (pos : Pos) (ks : List (Option Expr)) (vs : List Expr) (c : C), Cok G n X L Wd → cK cfg (m + 1) L ks vs = some c → PPs X pos ks vs (trK G Wd cl c) ∧ OnlyK c ∧ ks.all (·.isSome) = true ∧ ks.length = vs.length ∧ (ks = [] → c = .nil) := by
  intro X L Wd pos ks vs c C h
  unfold cK at h
  split at h
  · cases h; exact ⟨pps_nil, .nil, rfl, rfl, fun _ => rfl⟩
  · rename_i k ks v vs
    split at h
    · rename_i k' v' r' h1 h2 h3
      cases h
      obtain ⟨q1, q2, q3, q4, _⟩ := ih.k X L Wd pos _ _ _ C h3
      exact ⟨pps_cons (PE.datum (ih.e X L Wd _ _ C h1).1) (PE.datum (ih.e X L Wd _ _ C h2).1) q1, .cons q2, by simpa using q3, by simp [q4], fun z => by cases z⟩
    · cases h
  · cases h
theorem o_step (ih : Gd G cfg cl n m) : ∀ (X : Cx) (L : Lc) (Wd : WX) (e : Option Expr) (c : C), Cok G n X L Wd → cO cfg (m + 1) L e = some c → PO X e (TO' G Wd (partM c (evF cl c))) := by
  intro X L Wd e c C h
  unfold cO at h
  split at h
  · cases h; exact part_none
  · exact part_some (ih.e X L Wd _ _ C h).1 (noNil h)
theorem i_step (Wk : Wok G cfg cl n) (ih : Gd G cfg cl n m) : ∀ (X : Cx) (L : Lc) (Wd : WX) (tg e : Expr) (c : C), Cok G n X L Wd → cI cfg (m + 1) L e = some c → PI X tg e (TIr G Wd (evI cl c)) := by
  intro X L Wd tg e c C h
  unfold cI at h
  split at h
  · rename_i x p as q
    split at h
    · rename_i hx
      have hx : x = S "range" := by simpa using hx
      subst hx
      split at h
      · cases h
      · rename_i hc
        have hc : (gloB L.sc (S "range") && (ixIn (S "range") cfg.fns).isNone && noStar as) = true := by simpa using hc
        simp only [Bool.and_eq_true] at hc
        obtain ⟨⟨hg, _⟩, hs⟩ := hc
        obtain ⟨g, k⟩ := glo_of hg C.sc
        have hm : X.mg (S "range") = none := by rw [C.P.mg]; exact Wk.blt _ (by decide)
        split at h
        · obtain ⟨a', h1, rfl⟩ := Option.map_eq_some_iff.mp h
          exact i_rng1 (ih.e X L Wd _ _ C h1).1 hs g hm
        · split at h
          · rename_i a' b' h1 h2
            cases h
            exact i_rng2 (ih.e X L Wd _ _ C h1).1 (ih.e X L Wd _ _ C h2).1 hs g hm
          · cases h
        · cases h
    · split at h
      · cases h
      · obtain ⟨a', h1, rfl⟩ := Option.map_eq_some_iff.mp h
        exact i_itv C.P.K (ih.e X L Wd _ _ C h1).1
  · split at h
    · cases h
    · obtain ⟨a', h1, rfl⟩ := Option.map_eq_some_iff.mp h
      exact i_itv C.P.K (ih.e X L Wd _ _ C h1).1
  · obtain ⟨a', h1, rfl⟩ := Option.map_eq_some_iff.mp h
    exact i_itv C.P.K (ih.e X L Wd _ _ C h1).1
theorem gd_all (Wk : Wok G cfg cl n) : ∀ m, Gd G cfg cl n m
  | 0 => ⟨fun _ _ _ _ _ _ h => (by unfold cE at h; cases h), fun _ _ _ _ _ _ _ _ h => (by unfold cBo at h; cases h), fun _ _ _ _ _ _ h => (by unfold cL at h; cases h), fun _ _ _ _ _ _ h => (by unfold cL at h; cases h), fun _ _ _ _ _ _ _ _ h => (by unfold cK at h; cases h), fun _ _ _ _ _ _ h => (by unfold cO at h; cases h), fun _ _ _ _ _ _ _ h => (by unfold cI at h; cases h)⟩
  | m + 1 => have ih := gd_all Wk m
    ⟨e_step Wk ih, bo_step ih, l_step ih, t_step ih, k_step ih, o_step ih, i_step Wk ih⟩
end
end Fw
set_option linter.all false
set_option Elab.async false
set_option maxRecDepth 100000
set_option maxHeartbeats 4000000
/-! The translation of statements is sound. -/
namespace Fw
open PySem PySem.Spec L2
open PyProof.Rows hiding St
section
variable {G : G0} {cfg : Cfg} {n m : Nat} {cl : Call} {X : Cx} {L : Lc} {Wd : WX} {pos : Pos}
structure Gs (G : G0) (cfg : Cfg) (cl : Call) (n m : Nat) : Prop where
  s : ∀ (X : Cx) (L : Lc) (Wd : WX) (st : Stmt) (c : C), Cok G n X L Wd → PassesOwn (model X.prog X.w) X.A X.env X.xe → cS cfg m L st = some c → PS X st (TSs G Wd (evS cl c))
  b : ∀ (X : Cx) (L : Lc) (Wd : WX) (st : List Stmt) (c : C), Cok G n X L Wd → PassesOwn (model X.prog X.w) X.A X.env X.xe → cB cfg m L st = some c → PSs X st (TSs G Wd (evS cl c))
theorem tg_ok (Wk : Wok G cfg cl n) (C : Cok G n X L Wd) {t : Expr} {c : Fw.C} (h : cTg cfg m L t = some c) : ∃ js, PG X t (TGe G Wd js (asg1 cl c)) := by
  have gd := gd_all Wk m
  by_cases ht : ∃ o i p, t = .Subscript o i p
  · obtain ⟨o, i, p, rfl⟩ := ht
    have h : (match cE cfg m L o, cE cfg m L i with | some o, some i => some (Fw.C.sub o i) | _, _ => none) = some c := h
    split at h
    · rename_i o' i' h1 h2
      cases h
      exact ⟨[], g_sub C.u1 (pe_o C h1 (gd.e X L Wd _ _ C h1).1) (gd.e X L Wd _ _ C h2).1 (noSlice h2).1⟩
    · cases h
  · have h : cT L t = some c := by cases t <;> first | exact h | exact absurd ⟨_, _, _, rfl⟩ ht
    obtain ⟨js, _, _, h⟩ := cT_ok C h
    exact ⟨js, h⟩
theorem tg_form {t : Expr} {c : Fw.C} (h : cTg cfg m L t = some c) : (∃ x p, t = .Name x p) ∨ (∃ o i p, t = .Subscript o i p) ∨ ∃ es k p, t = .Tuple es k p := by
  cases t <;> first
    | exact .inl ⟨_, _, rfl⟩
    | exact .inr (.inl ⟨_, _, _, rfl⟩)
    | exact .inr (.inr ⟨_, _, _, rfl⟩)
    | cases h
theorem lc_parts (Wk : Wok G cfg cl n) (C : Cok G n X L Wd) {e t it : Expr} {cs : List Expr} {sc : Scope} {p : Pos} {c : Fw.C} (h : cE cfg m L (.ListComp e [⟨t, it, cs, 0⟩] sc p) = some c) {i : Nat} {y : Str} {py spos : Pos} (hy : X.N[i]? = some y) (hyl : X.env.scope.names.lookup y = some .local)
    (hsw : swapsWith (.ListComp e [⟨t, it, cs, 0⟩] sc p) (some (.Name y py)) spos.line X.env = pure true) : PS X (.Assign [.Name y py] (.ListComp e [⟨t, it, cs, 0⟩] sc p) spos) (TSs G Wd (evS cl (.asg (.var i) c))) := by
  cases m with
  | zero => unfold cE at h; cases h
  | succ m =>
    have ih := gd_all Wk m
    unfold cE at h
    simp only at h
    split at h
    · rename_i hc
      simp only [Bool.and_eq_true, decide_eq_true_eq] at hc
      obtain ⟨⟨hb, hns⟩, hl⟩ := hc
      split at h
      · rename_i it' t' cs' e' h1 h2 h3 h4
        split at h
        · rename_i hbt
          cases h
          have ok : BlkOk X.N X.env.scope sc (ownOf L.N sc) := by rw [C.N, C.sc]; exact blkOk_by hb
          unfold blkT at hbt
          split at hbt
          · rename_i js hjs
            have hsub : ∀ i ∈ js, i ∈ (ownOf L.N sc).map (·.2) := fun i hi => by simpa using List.all_eq_true.mp hbt i hi
            have ht : ∀ v, asg1 cl t' v = asgT t' v := by
              cases t' <;> first | exact fun _ => rfl | cases hjs
            exact s_setLc C.calm C.nd hy hyl hsw (ih.i X L Wd t it _ C h1) ok hsub ht (fun s H a cl' fp => by
              obtain ⟨js', e1, _, e3⟩ := cT_ok (cl := cl) (C.blk s H sc a cl' fp ok.kind) h2
              rw [hjs] at e1; cases e1; exact e3) (fun s H a cl' fp => ih.t _ _ _ _ _ (C.blk s H sc a cl' fp ok.kind) h3 hns hl) (fun s H a cl' fp => (ih.e _ _ _ _ _ (C.blk s H sc a cl' fp ok.kind) h4).1) (fold_ok h1)
          · cases hbt
        · cases h
      · cases h
    · cases h
theorem sw_no {t e : Expr} (h : swB L t e = false) (hs : X.env.scope = L.sc) (l : Nat) (hn : ∀ a b s p, e ≠ .SetComp a b s p) : swapsWith e (some t) l X.env = pure false := by
  cases e <;> first
    | rfl
    | exact absurd rfl (hn _ _ _ _)
    | (cases t <;> first
        | rfl
        | (rename_i sc p y py
           have e1 : X.env.kindOf y = L.sc.names.lookup y := by show X.env.scope.names.lookup y = _; rw [hs]
           unfold swB at h
           unfold swapsWith
           simp only [e1, Expr.pos]
           rw [show ∀ b : Bool, (b && (L.sc.names.lookup y == some .local) && (py.line == p.line) && !(sc.names.any fun (n, k) => n == y && (k == .local || k == .cell))) = false from fun b => by
             cases b with
             | false => rfl
             | true => simpa using h]))
theorem lcB_inv {e : Expr} (h : lcB e = true) : ∃ elt t it cs sc p, e = .ListComp elt [⟨t, it, cs, 0⟩] sc p := by
  unfold lcB at h
  split at h
  · rename_i elt t it cs k sc p
    have : k = 0 := by simpa using h
    subst this
    exact ⟨_, _, _, _, _, _, rfl⟩
  · cases h
theorem s_step (Wk : Wok G cfg cl n) (ih : Gs G cfg cl n m) : ∀ (X : Cx) (L : Lc) (Wd : WX) (st : Stmt) (c : C), Cok G n X L Wd → PassesOwn (model X.prog X.w) X.A X.env X.xe → cS cfg (m + 1) L st = some c → PS X st (TSs G Wd (evS cl c)) := by
  intro X L Wd st c C po h
  have gd := gd_all Wk m
  unfold cS at h
  split at h
  case h_1 => cases h; exact s_pass
  case h_2 => cases h; exact s_brk
  case h_3 => cases h; exact s_cont
  case h_4 e p =>
    split at h
    · cases h
    · rename_i hc
      obtain ⟨a, h1, rfl⟩ := Option.map_eq_some_iff.mp h
      refine s_expr (gd.e X L Wd _ _ C h1).1 ?_
      cases e <;> first | rfl | exact absurd rfl hc
  case h_5 => cases h; exact s_retN
  case h_6 x p q =>
    split at h
    · rename_i hv
      obtain ⟨i, hi, rfl⟩ := Option.map_eq_some_iff.mp h
      obtain ⟨v, k⟩ := vis_of hv C.sc
      obtain ⟨k1, k2, _⟩ := nameOk_inv k
      exact s_retV (by rw [C.N]; exact ixIn_get hi) v k1 k2
    · obtain ⟨a, h1, rfl⟩ := Option.map_eq_some_iff.mp h
      exact s_ret (gd.e X L Wd _ _ C h1).1
  case h_7 e p hne =>
    obtain ⟨a, h1, rfl⟩ := Option.map_eq_some_iff.mp h
    exact s_ret (gd.e X L Wd _ _ C h1).1
  case h_8 t e p =>
    split at h
    · cases h
    · rename_i htt
      split at h
      · rename_i t' e' h1 h2
        split at h
        · cases h
        · rename_i hsw
          cases h
          obtain ⟨js, g⟩ := tg_ok (Wd := Wd) Wk C h1
          by_cases hs : swB L t e = true
          · have hl : lcB e = true := by simpa [hs] using hsw
            obtain ⟨elt, tt, it, cs, sc, q, rfl⟩ := lcB_inv hl
            cases t <;> try (cases hs; done)
            rename_i y py
            obtain ⟨i, x, p', rfl, ex, e1, e2, e3⟩ := cN_ok C (show cN L (.Name y py) = some t' from h1)
            cases ex
            have hs : ((L.sc.names.lookup y == some .local) && (py.line == q.line) && !(sc.names.any fun (n, k) => n == y && (k == .local || k == .cell))) = true := hs
            simp only [Bool.and_eq_true, Bool.not_eq_true'] at hs
            have hloc : X.env.scope.names.lookup y = some .local := by rw [C.sc]; simpa using hs.1.1
            exact lc_parts Wk C h2 e1 hloc (sw_true C.kind hloc hs.1.2 hs.2)
          · have hs : swB L t e = false := by simpa using hs
            have hn : ∀ a b s p, e ≠ .SetComp a b s p := by
              intro a b s p z
              subst z
              cases m with
              | zero => unfold cE at h2; cases h2
              | succ m => unfold cE at h2; cases h2
            refine s_asg (gd.e X L Wd _ _ C h2).1 g (sw_no hs C.sc _ hn) ?_ ?_
            · rcases tg_form h1 with ⟨x, q, rfl⟩ | ⟨o, i, q, rfl⟩ | ⟨es, k, q, rfl⟩
              · cases e <;> rfl
              · cases e <;> rfl
              · cases e <;> first | rfl | exact absurd rfl htt
            · rcases tg_form h1 with ⟨x, q, rfl⟩ | ⟨o, i, q, rfl⟩ | ⟨es, k, q, rfl⟩ <;> rfl
      · cases h
  case h_9 a i o e tp p =>
    split at h
    · rename_i a' i' o' e' h1 h2 h3 h4
      cases h
      exact s_augS C.P.K C.u1 h3 (pe_o C h1 (gd.e X L Wd _ _ C h1).1) (gd.e X L Wd _ _ C h2).1 (gd.e X L Wd _ _ C h4).1 (noSlice h2).1
    · cases h
  case h_10 t b c p =>
    split at h
    · rename_i t' b' c' h1 h2 h3
      cases h
      exact s_if (pt_o C h1 (gd.e X L Wd _ _ C h1)) (ih.b X L Wd _ _ C po h2) (ih.b X L Wd _ _ C po h3)
    · cases h
  case h_11 t it b p =>
    split at h
    · rename_i t' it' b' h1 h2 h3
      cases h
      obtain ⟨js, e1, e2, e3⟩ := cT_ok (cl := cl) C h1
      exact s_for po C.calm C.P.K (gd.i X L Wd t it _ C h2) e3 e2 (ih.b X L Wd _ _ C po h3) (fold_ok h2)
    · cases h
  case h_12 x p q r =>
    split at h
    · rename_i hg
      obtain ⟨g, k⟩ := glo_of hg C.sc
      obtain ⟨k1, k2, _⟩ := nameOk_inv k
      obtain ⟨i, hi, rfl⟩ := Option.map_eq_some_iff.mp h
      obtain ⟨e1, e2, ⟨bmB, Bs, nw, ini, F, e3⟩, e4, e5, e6⟩ := Wk.exc _ _ hi
      have K := C.P.K
      exact s_raise0 C.calm C.tk F (by rw [K]; exact e3) (by rw [C.P.mg]; exact e1) (by rw [K]; exact e2) (raises_own (by rw [K]; exact e4) (by rw [K]; exact e5)) g k1 e6
    · cases h
  case h_13 => cases h
theorem b_step (ih : Gs G cfg cl n m) : ∀ (X : Cx) (L : Lc) (Wd : WX) (st : List Stmt) (c : C), Cok G n X L Wd → PassesOwn (model X.prog X.w) X.A X.env X.xe → cB cfg (m + 1) L st = some c → PSs X st (TSs G Wd (evS cl c)) := by
  intro X L Wd st c C po h
  unfold cB at h
  split at h
  · cases h; exact ss_nil
  · exact ss_one (ih.s X L Wd _ _ C po h)
  · split at h
    · rename_i a b h1 h2
      cases h
      exact ss_cons (ih.s X L Wd _ _ C po h1) (ih.b X L Wd _ _ C po h2)
    · cases h
theorem gs_all (Wk : Wok G cfg cl n) : ∀ m, Gs G cfg cl n m
  | 0 => ⟨fun _ _ _ _ _ _ _ h => (by unfold cS at h; cases h), fun _ _ _ _ _ _ _ h => (by unfold cB at h; cases h)⟩
  | m + 1 => ⟨s_step Wk (gs_all Wk m), b_step (gs_all Wk m)⟩
end
end Fw
set_option linter.all false
set_option Elab.async false
set_option maxRecDepth 100000
set_option maxHeartbeats 400000
/-! The table of defs keeps its promises. -/
namespace Fw
open PySem PySem.Spec L2
open PyProof.Rows hiding St
section
variable {G : G0} {B : Addr → Prop} {as : List Addr} {H : Hp} {hp : List HObj} {vs : List V} {ds : List D}
theorem start_at {N : List Str} {i : Nat} : (L2.start N vs)[i]? = if i < vs.length then (vs[i]?).map some else if i < N.length then some none else none := by
  unfold L2.start
  by_cases h : i < vs.length
  · rw [if_pos h, List.getElem?_append_left (by simpa using h), List.getElem?_map]
  · rw [if_neg h, List.getElem?_append_right (by simpa using h), List.getElem?_replicate]
    simp only [List.length_map]
    by_cases h2 : i < N.length
    · rw [if_pos h2, if_pos (by omega)]
    · rw [if_neg h2, if_neg (by omega)]
/-- the state at a def's entry -/
theorem Rel.enter {N : List Str} (r : Rel G B as [] H ⟨[], hp⟩) (rl : RepL G (Wof B as [] []) as H vs ds) (hl : vs.length ≤ N.length) :
    Rel G B as (L2.start N vs) H ⟨ds.map Fw.Slot.val ++ List.replicate (N.length - ds.length) Fw.Slot.none, hp⟩ ∧ ∀ b, ¬ Own (ds.map Fw.Slot.val ++ List.replicate (N.length - ds.length) Fw.Slot.none) (L2.start N vs) b := by
  have el := rl.length
  have fr_at : ∀ i, (ds.map Fw.Slot.val ++ List.replicate (N.length - ds.length) Fw.Slot.none)[i]? = if i < ds.length then (ds[i]?).map Fw.Slot.val else if i < N.length then some Fw.Slot.none else none := fun i => by
    by_cases h : i < ds.length
    · rw [if_pos h, List.getElem?_append_left (by simpa using h), List.getElem?_map]
    · rw [if_neg h, List.getElem?_append_right (by simpa using h), List.getElem?_replicate]
      simp only [List.length_map]
      by_cases h2 : i < N.length
      · rw [if_pos h2, if_pos (by omega)]
      · rw [if_neg h2, if_neg (by omega)]
  have no : ∀ b, ¬ Own (ds.map Fw.Slot.val ++ List.replicate (N.length - ds.length) Fw.Slot.none) (L2.start N vs) b := by
    rintro b ⟨i, d, h1, _⟩
    rw [fr_at] at h1
    split at h1
    · obtain ⟨z, _, e⟩ := Option.map_eq_some_iff.mp h1; cases e
    · split at h1 <;> cases h1
  have ww : ∀ b, Wof B as (ds.map Fw.Slot.val ++ List.replicate (N.length - ds.length) Fw.Slot.none) (L2.start N vs) b → Wof B as [] [] b := fun b z => by
    rcases z with z | z | z
    · exact .inl z
    · exact .inr (.inl z)
    · exact absurd z (no b)
  have k : Keeps (Wof B as [] []) as H (Wof B as (ds.map Fw.Slot.val ++ List.replicate (N.length - ds.length) Fw.Slot.none) (L2.start N vs)) as H := Keeps.sub ww
  refine ⟨⟨?_, fun i d e => ?_, fun i d e => ?_, r.hlen, fun n b o h1 h2 => (r.obj n b o h1 h2).mono k fun _ e _ => e, r.nd, fun b _ => no b, fun i j d d' a h1 => ?_, fun b hb => ⟨(r.ba b hb).1, no b⟩, r.bd, r.tabs⟩, no⟩
  · unfold L2.start
    show (ds.map Fw.Slot.val ++ List.replicate (N.length - ds.length) Fw.Slot.none).length = _
    simp; omega
  · have e : (ds.map Fw.Slot.val ++ List.replicate (N.length - ds.length) Fw.Slot.none)[i]? = some (.val d) := e
    rw [fr_at] at e
    split at e
    · rename_i hi
      obtain ⟨z, hz, e'⟩ := Option.map_eq_some_iff.mp e
      cases e'
      obtain ⟨v, hv, rv⟩ := rl.get hz
      exact ⟨v, by rw [start_at, if_pos (by omega), hv]; rfl, rv.mono k⟩
    · split at e <;> cases e
  · exact absurd (show Own _ _ _ from ⟨i, d, e, by
      exfalso
      have e : (ds.map Fw.Slot.val ++ List.replicate (N.length - ds.length) Fw.Slot.none)[i]? = some (.own d) := e
      rw [fr_at] at e
      split at e
      · obtain ⟨z, _, e⟩ := Option.map_eq_some_iff.mp e; cases e
      · split at e <;> cases e⟩) (no 0)
  · exfalso
    have e : (ds.map Fw.Slot.val ++ List.replicate (N.length - ds.length) Fw.Slot.none)[i]? = some (.own d) := h1
    rw [fr_at] at e
    split at e
    · obtain ⟨z, _, e⟩ := Option.map_eq_some_iff.mp e; cases e
    · split at e <;> cases e
end
/-- a def of the text, as the model has it and as the table has it -/
structure DefOk (G : G0) (cfg : Cfg) (T : Nat → Option Fn) (f : Nat) (fd : FuncData) (ps : List Str) : Prop where
  ex : ∃ (name qual : Str) (params : Arguments) (body : List Stmt) (scope : Scope) (dV kV doc pm cdv ct oc : Value) (an od : Option Addr) (osl : Array (Option Value)) (N : List Str) (fn : Fn) (M : Nat) (lam : Bool),
    fd = PySem.W.fnOf name qual params body scope dV kV doc pm an cdv ct ∧ G.K.lookup (G.fa f) = some ⟨oc, od, .func fd, osl⟩ ∧ PySem.W.codeIn G.K cdv qual = true ∧ FnScope N ps scope ∧ T f = some fn ∧ fn.np = ps.length ∧ fn.ns = N.length ∧
    cB cfg M ⟨N, scope, none, lam, cfg.gds[f]?.getD true⟩ body = some fn.body ∧
    (lam = true → ∃ cc P, cdv = .ref cc ∧ LamX.TabB G.base G.mg cc P ∧ (P, (qual ++ ".<locals>.") ++ "<lambda>") ∈ G.T ∧ ∀ p ∈ G.T, p.1 = P → p.2 = (qual ++ ".<locals>.") ++ "<lambda>")
theorem cok_fn {G : G0} {N ps : List Str} {qual : Str} {scope : Scope} {f : Addr} {cdv : Value} {A : Around} {outer : List Env} {s : Shared} {H : Hp} {E : XK} {n : Nat} {lam gd : Bool} (S : FnScope N ps scope) (hr : Room (n + 2) (A.deeper (envOfC qual scope s.heap.objs.size f cdv))) (hgd : gd = true → A.guards = some [])
    (hlam : lam = true → ∃ cc P, cdv = .ref cc ∧ LamX.TabB G.base G.mg cc P ∧ (P, (qual ++ ".<locals>.") ++ "<lambda>") ∈ G.T ∧ ∀ p ∈ G.T, p.1 = P → p.2 = (qual ++ ".<locals>.") ++ "<lambda>") :
    Cok G n (cxOf (L2.CX G.P G.w) G.P G.w G.K G.mg G.base N qual scope f cdv A outer s H E) ⟨N, scope, none, lam, gd⟩ (fun cls d _ H' => E cls d H') where
  P := ⟨rfl, rfl, rfl, rfl, rfl⟩
  N := rfl
  nd := S.nd
  sc := rfl
  calm := rfl
  kind := S.kind
  room := hr.mono (by omega)
  gd := fun hq => hgd hq
  fn := fun _ _ => rfl
  tk := takes_of (X := cxOf (L2.CX G.P G.w) G.P G.w G.K G.mg G.base N qual scope f cdv A outer s H E) (E := E) (E₁ := fun e' s'' => L2.CX G.P G.w outer H s E e' s'') rfl rfl rfl rfl
  lam := fun hq => by
    obtain ⟨cc, P, h1, h2, h3, h4⟩ := hlam hq
    have eq : (cxOf (L2.CX G.P G.w) G.P G.w G.K G.mg G.base N qual scope f cdv A outer s H E).env.qual = qual ++ ".<locals>." := rfl
    refine ⟨cc, P, h2, h1, ?_, fun p hp e => ?_, hr⟩
    · rw [eq]; exact h3
    · rw [eq]; exact h4 p hp e
theorem po_fn {G : G0} {N : List Str} {qual : Str} {scope : Scope} {f : Addr} {cdv : Value} {A : Around} {outer : List Env} {s : Shared} {H : Hp} {E : XK} (X : Cx) (hX : X = cxOf (L2.CX G.P G.w) G.P G.w G.K G.mg G.base N qual scope f cdv A outer s H E) :
    PassesOwn (model X.prog X.w) X.A X.env X.xe := by
  subst hX
  exact passes_of (X := cxOf (L2.CX G.P G.w) G.P G.w G.K G.mg G.base N qual scope f cdv A outer s H E) (K := fun e s'' => L2.CX G.P G.w outer H s E e s'') (E₁ := fun e' s'' => L2.CX G.P G.w outer H s E e' s'') rfl
theorem fn_step {G : G0} {cfg : Cfg} {T : Nat → Option Fn} {k n f : Nat} {fd : FuncData} {ps : List Str} (Wk : Wok G cfg (callN T k) n) (d : DefOk G cfg T f fd ps) : FnG G (callN T (k + 1)) (n + 3) f fd ps (cfg.gds[f]?.getD true) := by
  obtain ⟨name, qual, params, body, scope, dV, kV, doc, pm, cdv, ct, oc, an, od, osl, N, fn, M, lam, rfl, lk, hcd, S, hT, hnp, hns, hc, hlam⟩ := d.ex
  have e0 : ∀ ds hp, callN T (k + 1) f ds hp = runFn (callN T k) fn ds hp := fun ds hp => by
    show (match T f with | some fn => runFn (callN T k) fn ds hp | none => .stk) = _
    rw [hT]
  have hpl : ps.length ≤ N.length := by have := congrArg List.length S.pre; rw [List.length_take] at this; omega
  refine ⟨fun ds hp h => ?_, fun A outer s H args us vs Q E hr hgd e1 hb rv hl hsp => ?_⟩
  · rw [e0] at h
    unfold runFn at h
    split at h
    · rename_i hq; rw [hq, hnp]
    · exact absurd rfl h
  refine LamX.run_ofS (CX := L2.CX G.P G.w) (N := N) (ps := ps) lk hcd S hr e1 hb rv hl fun hr' => ?_
  have C : Cok G n (cxOf (L2.CX G.P G.w) G.P G.w G.K G.mg G.base N qual scope (G.fa f) cdv A outer s H E) ⟨N, scope, none, lam, cfg.gds[f]?.getD true⟩ (fun cls d _ H' => E cls d H') :=
    cok_fn S hr' hgd hlam
  refine ⟨_, (gs_all Wk M).b _ _ _ _ _ C (po_fn _ rfl) hc, ?_⟩
  obtain ⟨B, as, hp, ds, r, rl, h⟩ := hsp
  rw [e0] at h
  unfold runFn at h
  have hds : ds.length = fn.np := by rw [← rl.length, hl, hnp]
  rw [if_pos hds] at h
  obtain ⟨q, no⟩ := r.enter (N := N) rl (by omega)
  have efr : (⟨ds.map Fw.Slot.val ++ List.replicate (fn.ns - fn.np) Fw.Slot.none, hp⟩ : Sta) = ⟨ds.map Fw.Slot.val ++ List.replicate (N.length - ds.length) Fw.Slot.none, hp⟩ := by rw [hns, hds]
  rw [efr] at h
  refine ⟨B, as, _, q, ?_⟩
  cases ev : evS (callN T k) fn.body ⟨ds.map Fw.Slot.val ++ List.replicate (N.length - ds.length) Fw.Slot.none, hp⟩ with
  | stk => rw [ev] at h; exact h
  | exc e s' =>
    rw [ev] at h
    intro cls dd σ' as' H' r' x z
    exact h cls dd as' H' r'.drop.1 ⟨x.pre, x.new, fun b hb => absurd hb (no_own b), fun b o e nt n1 _ => x.keep b o e nt n1 (no b), x.dom⟩ (z.mono r'.drop.2)
  | ok fl s' =>
    rw [ev] at h
    cases fl with
    | brk => exact h.elim
    | cont => exact h.elim
    | nx =>
      intro σ' as' H' r' x
      exact h .non as' H' ⟨⟨x.pre, x.new, fun b hb => absurd hb (no_own b), fun b o e nt n1 _ => x.keep b o e nt n1 (no b), x.dom⟩, by rw [if_neg (by simp)]; exact ⟨r'.drop.1, .non⟩⟩
    | ret b d =>
      intro v as' H' z
      obtain ⟨x, z⟩ := z
      refine h v as' H' ⟨⟨x.pre, x.new, fun b hb => absurd hb (no_own b), fun b o e nt n1 _ => x.keep b o e nt n1 (no b), x.dom⟩, ?_⟩
      cases b with
      | true =>
        rw [if_pos rfl] at z ⊢
        obtain ⟨a, ev, na, _, rr, c⟩ := z
        exact ⟨a, ev, na.resolve_left (no a), rr, c⟩
      | false =>
        rw [if_neg (by simp)] at z ⊢
        exact z
/-- the world's facts, the table's defs among them -/
structure W0 (G : G0) (cfg : Cfg) (T : Nat → Option Fn) : Prop where
  fnv : ∀ x i, ixIn x cfg.fns = some i → G.mg x = some (.ref (G.fa i)) ∧ PySem.W.keepIn G.K (.ref (G.fa i)) = true
  fn : ∀ x i, ixIn x cfg.fns = some i → cfg.heards.lookup x = none → ∃ fd ps, Binds G.K fd ps [] ∧ (DefOk G cfg T i fd ps ∨ T i = none)
  con : ∀ x d, cfg.cons.lookup x = some d → ∃ v u, G.mg x = some u ∧ RelV v u ∧ ∀ W as H, Rep G W as H v d
  blt : ∀ x ∈ bltNames, G.mg x = none
  exc : ∀ x c, ixIn x cfg.excs = some c → G.mg x = some (.ref (G.ca c)) ∧ PySem.W.keepIn G.K (.ref (G.ca c)) = true ∧ (∃ bmB Bs nw ini, ExcBaseFacts Bs nw ini bmB ∧ PySem.W.excIn G.K (G.ca c) bmB nw = true) ∧ PySem.W.subIn G.K (.ref (G.ca c)) (.type "BaseException") = some true ∧ PySem.W.typeIn G.K (.ref (G.ca c)) = some (.type "type") ∧ c < G.nx
  exm : ∀ c c', c < G.nx → c' < G.nx → PySem.W.exmOne G.K (.ref (G.ca c')) (.ref (G.ca c)) = some (c' == c)
  heard : ∀ x i tag hs, ixIn x cfg.fns = some i → cfg.heards.lookup x = some (tag, hs) → ∃ c ret, hs = [(c, ret)] ∧ c < G.nx ∧ Heard G x tag c ret (G.fa i)
theorem fn_stk {G : G0} {cl : Call} {n f : Nat} {fd : FuncData} {ps : List Str} {gd : Bool} (h : ∀ ds hp, cl f ds hp = .stk) : FnG G cl n f fd ps gd :=
  ⟨fun ds hp z => absurd (h ds hp) z, fun A outer s H args us vs Q E _ _ _ _ _ _ ⟨B, as, hp, ds, _, _, z⟩ => by rw [h] at z; exact z.elim⟩
theorem wok_all {G : G0} {cfg : Cfg} {T : Nat → Option Fn} (w : W0 G cfg T) : ∀ k, Wok G cfg (callN T k) (3 * k)
  | 0 => ⟨w.fnv, fun x i h1 h2 => let ⟨fd, ps, b, _⟩ := w.fn x i h1 h2; ⟨fd, ps, b, fn_stk fun _ _ => rfl⟩, w.con, w.blt, w.exc, w.exm, w.heard⟩
  | k + 1 => ⟨w.fnv, fun x i h1 h2 => by
      obtain ⟨fd, ps, b, d | d⟩ := w.fn x i h1 h2
      · exact ⟨fd, ps, b, fn_step (wok_all w k) d⟩
      · exact ⟨fd, ps, b, fn_stk fun ds hp => by show (match T i with | some fn => runFn (callN T k) fn ds hp | none => .stk) = _; rw [d]⟩, w.con, w.blt, w.exc, w.exm, w.heard⟩
end Fw
set_option linter.all false
set_option Elab.async false
set_option maxRecDepth 100000
set_option maxHeartbeats 1000000
/-! The end of a law: the core's run tells the model's call. -/
namespace Fw
open PySem PySem.Spec L2
open PyProof.Rows hiding St
def oTab : Obj := { cls := .none, data := .fields #[] }
def oScr (us : List Value) : Obj := { cls := .type "list", data := .seq us.toArray }
/-- nothing is tracked but the tables of code objects and, it may be, the script -/
structure Low (ts : List Addr) (a : Addr) (us : List Value) (xs : List V) (H : Hp) : Prop where
  tab : ∀ b ∈ ts, H b = some (.tbl #[])
  scr : H a = none ∨ H a = some (.frz (oScr us) (.lst xs))
  out : ∀ b, b ≠ a → b ∉ ts → H b = none
/-- the caller's heap -/
structure Floor (K : PySem.W.Frag) (h : Heap) (mg mb : Str → Option Value) (cs : List (Addr × Addr)) (a : Addr) (us : List Value) : Prop where
  frag : K.In h
  glob : h.Ns mainGlobals mg
  blt : h.Ns builtinsNs mb
  boot : ∀ x : Str, x ≠ "__name__" → mb x = bootBuiltins x
  lim : h.NoLimit
  tabs : ∀ p ∈ cs, h.get? p.2 = some oTab
  away : ∀ p ∈ cs, K.lookup p.2 = none
  code : ∀ p ∈ cs, PySem.W.CodeHd h p.1 p.2
  main : ∃ (m : Addr) (u : Obj), mg "__builtins__" = some (.ref m) ∧ m ≠ builtinsNs ∧ h.get? m = some u ∧ u.cls = .type "module" ∧ u.dict = some builtinsNs ∧ u.data = .plain
  scr : h.get? a = some (oScr us)
section
variable {P : Program} {w : World} {K : PySem.W.Frag} {h : Heap} {mg mb : Str → Option Value} {cs : List (Addr × Addr)} {a : Addr} {us : List Value} {ns : List Int} {H : Hp}
theorem Floor.is_tab (fl : Floor K h mg mb cs a us) {b : Addr} (m : b ∈ cs.map Prod.snd) : h.get? b = some oTab := by
  simp only [List.mem_map] at m
  obtain ⟨p, m, rfl⟩ := m
  exact fl.tabs p m
theorem Floor.not_tab (fl : Floor K h mg mb cs a us) : a ∉ cs.map Prod.snd := fun m => by
  have q := (fl.is_tab m).symm.trans fl.scr
  simp [oTab, oScr] at q
/-- what is neither a sequence nor an empty table is not tracked -/
theorem Floor.clear (fl : Floor K h mg mb cs a us) {xs : List V} (lo : Low (cs.map Prod.snd) a us xs H) {b : Addr} {u : Obj} (e : h.get? b = some u) (n1 : u.data ≠ oTab.data) (n2 : u.data ≠ (oScr us).data) : H b = none := by
  refine lo.out b (fun q => n2 ?_) fun q => n1 ?_
  · rw [q, fl.scr] at e; cases e; rfl
  · rw [fl.is_tab q] at e; cases e; rfl
theorem Floor.clearD (fl : Floor K h mg mb cs a us) {xs : List V} (lo : Low (cs.map Prod.snd) a us xs H) {b : Addr} {u : Obj} {es : Array DictEntry} {n : Nat} (e : h.get? b = some u) (d : u.data = .dict es n) : H b = none :=
  fl.clear lo e (by rw [d]; intro z; cases z) (by rw [d]; intro z; cases z)
theorem Floor.names (fl : Floor K h mg mb cs a us) {xs : List V} (lo : Low (cs.map Prod.snd) a us xs H) {b : Addr} {m : Str → Option Value} (q : h.Ns b m) : (hidT h H).Ns b m := by
  obtain ⟨u, es, n, e, d, r⟩ := q
  exact ⟨u, es, n, hidT_get e (fl.clearD lo e d), d, r⟩
theorem Floor.hok (fl : Floor K h mg mb cs a us) (iv : IntsAre us ns) (hl : ns.length ≤ sizeLine) (lo : Low (cs.map Prod.snd) a us (ns.map V.int) H) : HOk P w H h := fun b u e => by
  by_cases m : b ∈ cs.map Prod.snd
  · rw [lo.tab b m] at e; cases e
    exact fl.is_tab m
  · by_cases q : b = a
    · subst q
      rcases lo.scr with z | z
      · rw [z] at e; cases e
      · rw [z] at e; cases e
        refine ⟨fl.scr, ?_⟩
        exact ⟨by rw [List.length_map]; exact hl, us, _, vals_ints iv, fl.scr⟩
    · rw [lo.out b q m] at e; cases e
theorem Floor.fragIn (fl : Floor K h mg mb cs a us) {xs : List V} (lo : Low (cs.map Prod.snd) a us xs H) (hk : H a ≠ none → K.lookup a = none) : K.In (hidT h H) := fun b u e => by
  refine hidT_get (fl.frag b u e) ?_
  by_cases q : b = a
  · subst q
    cases z : H b with
    | none => rfl
    | some y => rw [hk (by rw [z]; simp)] at e; cases e
  · refine lo.out b q fun m => ?_
    simp only [List.mem_map] at m
    obtain ⟨p, m, rfl⟩ := m
    rw [fl.away p m] at e; cases e
theorem Floor.mod (fl : Floor K h mg mb cs a us) {xs : List V} (lo : Low (cs.map Prod.snd) a us xs H) (hk : H a ≠ none → K.lookup a = none) : L2.Mod K mg (hidT h H) :=
  ⟨fl.fragIn lo hk, fl.names lo fl.glob, ⟨mb, fl.names lo fl.blt, fl.boot⟩, let ⟨lc, l1, l2⟩ := fl.lim; ⟨lc, fl.names lo l1, l2⟩⟩
theorem Floor.tabB (fl : Floor K h mg mb cs a us) {xs : List V} (lo : Low (cs.map Prod.snd) a us xs H) {p : Addr × Addr} (hp : p ∈ cs) : LamX.TabB (hidT h H) mg p.1 p.2 := by
  have et := fl.tabs p hp
  refine ⟨?_, ?_, fun q => ?_⟩
  · obtain ⟨u, vs, file, tf, flags, tg, inF, text, tt, e, r1, r2, r3, rest⟩ := fl.code p hp
    refine ⟨u, vs, file, tf, flags, tg, inF, text, tt, hidT_get e (fl.clear lo e ?_ ?_), r1, r2, r3, rest⟩
    · rw [r2]; intro q
      have q : vs = #[] := by injection q
      rw [q] at r3; simp at r3
    · rw [r2]; intro q; cases q
  · obtain ⟨m, u, g1, g2, g3, g4, g5, g6⟩ := fl.main
    refine ⟨m, u, g1, g2, fun q => ?_, fun q => ?_, hidT_get g3 (fl.clear lo g3 ?_ ?_), g4, g5, g6⟩
    · obtain ⟨u', es, n, e, d, _⟩ := fl.glob
      rw [q, e] at g3; cases g3
      rw [d] at g6; cases g6
    · rw [q, et] at g3; cases g3
      cases g6
    · rw [g6]; intro q; cases q
    · rw [g6]; intro q; cases q
  · obtain ⟨u, es, n, e, d, _⟩ := fl.glob
    rw [q, et] at e; cases e
    cases d
/-- the script tracked, if the frame does not hold it -/
def lowH (K : PySem.W.Frag) (ts : List Addr) (a : Addr) (us : List Value) (xs : List V) : Hp := fun b =>
  if b = a then (match K.lookup a with | some _ => none | none => some (.frz (oScr us) (.lst xs))) else if b ∈ ts then some (.tbl #[]) else none
theorem low_of {ts : List Addr} {xs : List V} (n : a ∉ ts) : Low ts a us xs (lowH K ts a us xs) where
  tab := fun b m => by
    unfold lowH
    rw [if_neg (show ¬ b = a from fun q => n (by rw [← q]; exact m)), if_pos m]
  scr := by
    unfold lowH
    rw [if_pos rfl]
    cases K.lookup a with
    | none => exact .inr rfl
    | some u => exact .inl rfl
  out := fun b n1 n2 => by
    unfold lowH
    rw [if_neg n1, if_neg n2]
theorem low_k {ts : List Addr} {xs : List V} (z : lowH K ts a us xs a ≠ none) : K.lookup a = none := by
  unfold lowH at z
  rw [if_pos rfl] at z
  cases q : K.lookup a with
  | none => rfl
  | some u => rw [q] at z; exact absurd rfl z
/-- the script is a datum -/
theorem Floor.rep (fl : Floor K h mg mb cs a us) (iv : IntsAre us ns) (hl : ns.length ≤ sizeLine) (G : G0) (hG : G.K = K) (W : Addr → Prop) (hW : ¬ W a) {as : List Addr} :
    Rep G W as (lowH K (cs.map Prod.snd) a us (ns.map V.int)) (.ref a) (.scr (ns.map D.int)) := by
  have rl : ∀ l : List Int, RepL G W as (lowH K (cs.map Prod.snd) a us (ns.map V.int)) (l.map V.int) (l.map D.int) := fun l => by
    induction l with
    | nil => exact .nil
    | cons i l ih => exact .cons (.int i) ih
  cases q : K.lookup a with
  | none =>
    refine .scr (.inr ⟨oScr us, ?_⟩) hW (rl ns)
    unfold lowH
    rw [if_pos rfl, q]
  | some u =>
    have e := (fl.frag a u q).symm.trans fl.scr
    cases e
    refine .scrK (fun H' => .inr ⟨_, us.toArray, _, by rw [hG]; exact q, rfl, rfl, rfl, ?_, ?_⟩) (rl ns)
    · rw [List.size_toArray, iv.length]; exact hl
    · simpa using vals_ints iv
theorem Rel.first {G : G0} (t : ∀ p ∈ G.T, H p.1 = some (.tbl #[])) : Rel G (fun _ => False) [] [] H ⟨[], []⟩ where
  len := rfl
  val := fun i d e => by simp at e
  own := fun i d e => by simp at e
  hlen := rfl
  obj := fun n b o e => by simp at e
  nd := List.nodup_nil
  ao := fun b e => by simp at e
  oo := fun i j d d' b e => by simp at e
  ba := fun b e => e.elim
  bd := fun b e => e.elim
  tabs := fun p hp => LamX.TabS.nil (t p hp)
/-- the call of the law -/
theorem Floor.call {s : Shared} (fl : Floor K s.heap mg mb cs a us) (iv : IntsAre us ns) (hl : ns.length ≤ sizeLine) (hg : s.gens = #[]) {fas cas : Nat → Addr} {T : List (Addr × Str)} {nx n f : Nat} {cl : Call} {fd : FuncData} {x : Str} {gd b : Bool} {hp' : List HObj}
    (hT : ∀ p ∈ T, p.1 ∈ cs.map Prod.snd) (hr : Room n callerA) (hb : ∀ (z : Shared) (u : Value), BindsTo z fd ⟨[u], []⟩ [(x, u)])
    (F : ∀ base : Heap, K.In base → base.Ns mainGlobals mg → (∀ p ∈ cs, LamX.TabB base mg p.1 p.2) → FnG ⟨P, w, K, mg, base, fas, cas, T, nx⟩ cl n f fd [x] gd)
    (run : cl f [.scr (ns.map D.int)] [] = .ok b (.bl true) hp') :
    codeAny (model P w) callerA (.call (.ref (fas f)) ⟨[.ref a], []⟩) (fun r z => r = .ok (.ret (.bool true)) ∧ OldK s.heap z.heap ∧ z.os = s.os ∧ AllBare z.gens) s := by
  have lo : Low (cs.map Prod.snd) a us (ns.map V.int) (lowH K (cs.map Prod.snd) a us (ns.map V.int)) := low_of fl.not_tab
  generalize hH : lowH K (cs.map Prod.snd) a us (ns.map V.int) = H at lo
  have hk : H a ≠ none → K.lookup a = none := fun z => low_k (by rw [hH]; exact z)
  have md := fl.mod lo hk
  have ho := fl.hok (P := P) (w := w) iv hl lo
  have e0 : Env0 P w K mg (hidT s.heap H) callerA [] s H := ⟨rfl, md, fun b u e => of_hidT e, Nat.le_of_eq (hidT_size _ _), trivial, fun b m => absurd m (by show b ∉ ([] : List Addr); simp), ho, .of_eq hg⟩
  have Fg := F _ md.1 md.2 fun p hp => fl.tabB lo hp
  have rp := fl.rep iv hl ⟨P, w, K, mg, hidT s.heap H, fas, cas, T, nx⟩ rfl (Wof (fun _ => False) [] [] []) (fun z => by
    rcases z with z | z | z
    · exact z
    · simp at z
    · exact no_own a z) (as := [])
  rw [hH] at rp
  refine codeAny_mono (Fg.run callerA [] s H ⟨[.ref a], []⟩ [.ref a] [.ref a] (fun v _ => v = .bl true) (fun _ _ _ => False) hr (fun _ => rfl) e0 (hb s (.ref a)) (.cons rfl .nil) rfl ?_) fun r z q => ?_
  · refine ⟨fun _ => False, [], [], [.scr (ns.map D.int)], .first fun p hp => lo.tab _ (hT p hp), .cons rp .nil, ?_⟩
    rw [run]
    intro v as' H' pv
    obtain ⟨_, pv⟩ := pv
    cases b with
    | true =>
      rw [if_pos rfl] at pv
      obtain ⟨y, _, _, _, c⟩ := pv
      cases c
    | false =>
      rw [if_neg (by simp)] at pv
      obtain ⟨_, c⟩ := pv
      cases c
      rfl
  · cases r with
    | error e =>
      obtain ⟨_, _, _, _, _, _, _, _, _, _, _, _, ff⟩ := q
      exact ff.elim
    | ok fw =>
      cases fw with
      | next => exact q.elim
      | brk => exact q.elim
      | cont => exact q.elim
      | ret u =>
        obtain ⟨v, H', eo, bare, un, ho', rv, rfl⟩ := q
        obtain rfl : u = Value.bool true := rv
        have stays : ∀ b u, b ∉ cs.map Prod.snd → s.heap.get? b = some u → z.heap.get? b = some u := fun b u nm e => by
          by_cases q : H b = none
          · exact un.keep b u e q (by show b ∉ ([] : List Addr); simp) (by simp)
          · by_cases q2 : b = a
            · rw [q2] at q e ⊢
              have es := lo.scr.resolve_left q
              have := (ho' a _ (un.frzs a _ _ es)).1
              rw [fl.scr] at e; cases e
              exact this
            · exact absurd (lo.out b q2 nm) q
        have grows : ∀ p ∈ cs, ∃ us : Array Value, z.heap.get? p.2 = some { cls := .none, data := .fields us } := fun p hp => by
          obtain ⟨more, e⟩ := un.tbls p.2 #[] (lo.tab _ (List.mem_map_of_mem hp))
          exact ⟨_, ho' p.2 _ e⟩
        refine ⟨rfl, ⟨fun b u e => ?_, fun b u e => ?_⟩, eo, bare⟩
        · by_cases m : b ∈ cs.map Prod.snd
          · have et := fl.is_tab m
            simp only [List.mem_map] at m
            obtain ⟨p, hp, rfl⟩ := m
            obtain ⟨vs, e'⟩ := grows p hp
            rw [et] at e; cases e
            exact .inr (.inl ⟨((fl.code p hp).tab et).isCodeTable, rfl, #[], vs, rfl, by rw [Array.empty_append]; exact e'⟩)
          · exact .inl (stays b u m e)
        · by_cases m : b ∈ cs.map Prod.snd
          · simp only [List.mem_map] at m
            obtain ⟨p, hp, rfl⟩ := m
            obtain ⟨vs, e'⟩ := grows p hp
            exact ⟨_, e'⟩
          · exact ⟨u, stays b u m e⟩
end
/-- what is to be shown of the law at the head's heap -/
structure LawG (P : Program) (w : World) (K : PySem.W.Frag) (mg : Str → Option Value) (h : Heap) (fa : Addr) (n : Nat) (x : Str) : Prop where
  ex : ∃ (cs : List (Addr × Addr)) (fas cas : Nat → Addr) (T : List (Addr × Str)) (nx m f : Nat) (cl : Call) (fd : FuncData) (gd : Bool), fas f = fa ∧
    (∀ p ∈ cs, h.get? p.2 = some oTab) ∧ (∀ p ∈ cs, K.lookup p.2 = none) ∧ (∀ p ∈ cs, PySem.W.CodeHd h p.1 p.2) ∧ (∀ p ∈ T, p.1 ∈ cs.map Prod.snd) ∧ Room m callerA ∧ (∀ (z : Shared) (u : Value), BindsTo z fd ⟨[u], []⟩ [(x, u)]) ∧
    (∀ base : Heap, K.In base → base.Ns mainGlobals mg → (∀ p ∈ cs, LamX.TabB base mg p.1 p.2) → FnG ⟨P, w, K, mg, base, fas, cas, T, nx⟩ cl m f fd [x] gd) ∧
    ∀ ns : List Int, ns.length ≤ n → (∀ z ∈ ns, Builtin.Int.intBits z ≤ 1048576) → ∃ b hp', cl f [.scr (ns.map D.int)] [] = .ok b (.bl true) hp'
theorem walk_core {l : PySem.W.OpenLaw} {n : Nat} {q : Program} {loose : List Str} {XP : (Str → Option Value) → Heap → Prop} {YP : World → Heap → Prop} {d : DefRec} {x : Str}
    (most : l.most = some n) (few : n ≤ sizeLine) (bare : d.params.defaults = [])
    (F : ∀ (w : World) (mg : Str → Option Value) (fa : Addr) (h : Heap), YP w h → h.Ns mainGlobals mg → mg d.name = some (.ref fa) → ∃ K : PySem.W.Frag, K.In h ∧ LawG l.prog w K mg h fa n x) :
    PySem.W.WalkO q loose XP YP l.row.toRowW d [] (fun f vs => PySem.call f vs) := by
  refine Att.attach_callB most bare ?_
  intro w s0 s mg mb fa ob pm cd doc a us ns G Y _ _ _ hm hobj hi hl hbits hg
  obtain ⟨K, KX, L⟩ := F w mg fa _ Y G.T.g hm
  obtain ⟨cs, fas, cas, T, nx, m, f, cl, fd, gd, rfl, c1, c2, c3, c4, c5, c6, c7, c8⟩ := L.ex
  obtain ⟨b, hp', run⟩ := c8 ns hl hbits
  have fl : Floor K s.heap mg mb cs a us := ⟨KX, G.T.g, G.T.b, G.T.builtins, G.T.nolimit, c1, c2, c3, G.T.bmain, hobj⟩
  exact fl.call hi (Nat.le_trans hl few) hg c4 c5 c6 c7 run
end Fw
set_option linter.all false
set_option Elab.async false
set_option maxRecDepth 100000
set_option maxHeartbeats 1000000
/-! The head of a law: the world's facts, read off the frame by the kernel. -/
namespace Fw
open PySem PySem.Spec L2
open PyProof.Rows hiding St
/-- the law's text, laid out: where its defs stand, what they hold -/
structure Lay where
  prog : Program
  at_ : List Nat
  cfg : Cfg
  par : List (List Str)
  slo : List (List Str)
  lams : List Nat
  M : Nat
def dAt (P : Program) (i : Nat) : He.DefD := ⟨((HandSHeadRun.topDef P i).name, none), (HandSHeadRun.topDef P i).name, (HandSHeadRun.topDef P i).name, (HandSHeadRun.topDef P i).params, (HandSHeadRun.topDef P i).body, (HandSHeadRun.topDef P i).scope, [], []⟩
def Lay.d (L : Lay) (i : Nat) : He.DefD := dAt L.prog (L.at_.getD i 0)
def Lay.ps (L : Lay) (i : Nat) : List Str := L.par.getD i []
def Lay.ns (L : Lay) (i : Nat) : List Str := L.slo.getD i []
def Lay.T (L : Lay) (i : Nat) : Option Fn := if i < L.at_.length then (cB L.cfg L.M ⟨L.ns i, (L.d i).scope, none, L.lams.contains i, L.cfg.gds[i]?.getD true⟩ (L.d i).body).map fun c => ⟨(L.ps i).length, (L.ns i).length, c⟩ else none
/-! ### constants -/
def dvD : D → Option He.Dv
  | .non => some .non
  | .bl b => some (.bl b)
  | .int i => some (.int i)
  | .str x => some (.str x)
  | _ => none
def conB (K : PySem.W.Frag) (p : Str × D) : Bool := match p.2 with
  | .int i => (He.Fa.int p.1 i).ok K
  | .str x => (He.Fa.str p.1 x).ok K
  | .kt l => (match l.mapM dvD with
    | some vs => (He.Fa.glo p.1).ok K && He.tupB K p.1 vs
    | none => false)
  | _ => false
section
variable {G : G0} {K : PySem.W.Frag} {h : Heap} {mg : Str → Option Value}
theorem dvD_rep {d : D} {z : He.Dv} (e : dvD d = some z) {W : Addr → Prop} {as : List Addr} {H : Hp} : Rep G W as H (z.v K) d := by
  cases d <;> simp only [dvD] at e <;> first | (cases e; constructor) | cases e
theorem dvD_all : ∀ {l : List D} {vs : List He.Dv}, l.mapM dvD = some vs → ∀ {W : Addr → Prop} {as : List Addr} {H : Hp}, RepL G W as H (vs.map (He.Dv.v K)) l
  | [], vs, e, W, as, H => by
    simp only [List.mapM_nil] at e
    cases e; exact .nil
  | d :: l, vs, e, W, as, H => by
    simp only [List.mapM_cons] at e
    cases e1 : dvD d with
    | none => rw [e1] at e; cases e
    | some z =>
      rw [e1] at e
      cases e2 : l.mapM dvD with
      | none => rw [e2] at e; cases e
      | some zs =>
        rw [e2] at e; cases e
        exact .cons (dvD_rep e1) (dvD_all e2)
theorem con_ok (X : K.In h) (Gm : h.Ns mainGlobals mg) {x : Str} {d : D} (c : conB K (x, d) = true) (hK : G.K = K) (hm : G.mg = mg) : ∃ v u, G.mg x = some u ∧ RelV v u ∧ ∀ W as H, Rep G W as H v d := by
  rw [hm]
  cases d <;> simp only [conB] at c <;> try cases c
  · rename_i i
    obtain ⟨t, e⟩ := He.int_ok X Gm c
    exact ⟨.int i, _, e, ⟨t, rfl⟩, fun _ _ _ => .int i⟩
  · rename_i y
    obtain ⟨t, e⟩ := He.str_ok X Gm c
    exact ⟨.str y, _, e, ⟨t, rfl⟩, fun _ _ _ => .str y⟩
  · rename_i l
    cases e : l.mapM dvD with
    | none => rw [e] at c; cases c
    | some vs =>
      rw [e] at c
      rw [Bool.and_eq_true] at c
      exact ⟨.ref (He.ga K x), _, He.glo_ok X Gm c.1, rfl, fun _ _ _ => .kt (fun H' => by rw [hK]; exact He.tupB_ok c.2 H') (dvD_all e)⟩
end
/-! ### scopes -/
def scopeB (N P : List Str) (sc : Scope) : Bool := decide (sc.kind = .function) && (!sc.isCoroutine && (!sc.isGenerator && (decide N.Nodup && (decide (N.take P.length = P) && ((P.all fun x => decide (sc.names.lookup x = some .local) || decide (sc.names.lookup x = some .cell)) && sc.names.all fun y => decide (y.2 ≠ .free))))))
theorem scopeB_ok {N P : List Str} {sc : Scope} (h : scopeB N P sc = true) : FnScope N P sc := by
  unfold scopeB at h
  simp only [Bool.and_eq_true, decide_eq_true_eq, Bool.not_eq_true', List.all_eq_true, Bool.or_eq_true] at h
  obtain ⟨h1, h2, h3, h4, h5, h6, h7⟩ := h
  exact ⟨h1, h2, h3, h4, h5, h6, h7⟩
/-! ### the def that tells what was heard -/
def heardB : List Stmt → Option (Str × Str × Str × Str)
  | [.Try [.Return (some (.Tuple [.Constant (.str tag) _ _, .Call (.Name a _) [] [] _] _ _)) _] [.ExceptHandler (some (.Name e _)) none [.Return (some (.Tuple [.Constant (.str ret) _ _] _ _)) _] _] [] [] _] => some (tag, a, e, ret)
  | _ => none
theorem heardB_ok {b : List Stmt} {tag a e ret : Str} (h : heardB b = some (tag, a, e, ret)) : ∃ (j j2 k1 k2 : Nat) (p1 p2 p3 p4 p5 p6 p7 p8 p9 p10 p11 : Pos),
    b = [.Try [.Return (some (.Tuple [.Constant (.str tag) j p9, .Call (.Name a p1) [] [] p2] k1 p10)) p3] [.ExceptHandler (some (.Name e p4)) none [.Return (some (.Tuple [.Constant (.str ret) j2 p5] k2 p11)) p6] p7] [] [] p8] := by
  unfold heardB at h
  split at h
  · cases h
    exact ⟨_, _, _, _, _, _, _, _, _, _, _, _, _, _, _, rfl⟩
  · cases h
def Lay.hB (L : Lay) (p : Str × Str × List (Nat × Str)) : Bool := match ixIn p.1 L.cfg.fns, p.2.2 with
  | some i, [(c, ret)] => (match heardB (L.d i).body with
    | some (tag, a, e, ret') => decide (tag = p.2.1) && (decide (ret' = ret) && (decide (L.ps i = [a]) && (scopeB (L.ns i) [a] (L.d i).scope && (decide ((L.ns i)[0]? = some a) && (visB (L.d i).scope a && (decide ((L.d i).scope.names.lookup e = some .globalImplicit) && (nameOk e && decide (ixIn e L.cfg.excs = some c))))))))
    | none => false)
  | _, _ => false
/-! ### what is checked of the text, what is read off the frame -/
def Lay.ok (L : Lay) : Bool := decide (L.at_.length = L.cfg.fns.length) && (decide (L.cfg.excs.Nodup) && (((List.range L.at_.length).all fun i => decide (some (L.d i).name = L.cfg.fns[i]?) && scopeB (L.ns i) (L.ps i) (L.d i).scope) && L.cfg.heards.all L.hB))
def Lay.fa (L : Lay) : List He.Fa := L.cfg.fns.map He.Fa.glo ++ (L.cfg.excs.map He.Fa.glo ++ (L.cfg.excs.map He.Fa.exc ++ (bltNames.map He.Fa.free ++ (L.cfg.excs.flatMap fun x => L.cfg.excs.map fun y => He.Fa.exm x y (x == y)))))
def Lay.fn (L : Lay) : List He.DefD := (List.range L.at_.length).map L.d
def Lay.tf (L : Lay) : List He.Defn := L.lams.map fun i => (L.d i).at_
def Lay.ex (L : Lay) (K : PySem.W.Frag) : Bool := L.cfg.cons.all (conB K) && decide ((L.tf.map fun p => (He.cT K p).2).Nodup)
def Lay.fas (L : Lay) (K : PySem.W.Frag) (i : Nat) : Addr := He.fAd K (L.d i).at_
def Lay.cas (L : Lay) (K : PySem.W.Frag) (c : Nat) : Addr := He.ga K (L.cfg.excs.getD c (S ""))
def Lay.tabs (L : Lay) (K : PySem.W.Frag) : List (Addr × Str) := L.lams.map fun i => ((He.cT K (L.d i).at_).2, ((L.d i).qual ++ ".<locals>.") ++ "<lambda>")
def Lay.G (L : Lay) (P : Program) (w : World) (K : PySem.W.Frag) (mg : Str → Option Value) (base : Heap) : G0 := ⟨P, w, K, mg, base, L.fas K, L.cas K, L.tabs K, L.cfg.excs.length⟩
/-- how a def binds its arguments -/
def BindOk (d : He.DefD) (ps : List Str) : Prop := ∀ (kV doc pm : Value) (an : Option Addr) (cdv ct : Value) (us : List Value), us.length = ps.length → bindArgs (PySem.W.fnOf d.name d.qual d.params d.body d.scope .none kV doc pm an cdv ct) ⟨us, []⟩ = pure (ps.zip us)
section
variable {L : Lay} {P : Program} {w : World} {K : PySem.W.Frag} {mg : Str → Option Value} {h base : Heap} {i m : Nat}
theorem ok_parts (o : L.ok = true) : L.at_.length = L.cfg.fns.length ∧ L.cfg.excs.Nodup ∧ (∀ i, i < L.at_.length → some (L.d i).name = L.cfg.fns[i]? ∧ scopeB (L.ns i) (L.ps i) (L.d i).scope = true) ∧ ∀ p ∈ L.cfg.heards, L.hB p = true := by
  unfold Lay.ok at o
  simp only [Bool.and_eq_true, decide_eq_true_eq, List.all_eq_true, List.mem_range] at o
  exact ⟨o.1, o.2.1, o.2.2.1, o.2.2.2⟩
theorem at_len {x : Str} (o : L.ok = true) (e : ixIn x L.cfg.fns = some i) : i < L.at_.length ∧ (L.d i).name = x := by
  have g := ixIn_get e
  obtain ⟨lt, _⟩ := List.getElem?_eq_some_iff.mp g
  have lt' : i < L.at_.length := by rw [(ok_parts o).1]; exact lt
  refine ⟨lt', ?_⟩
  have := ((ok_parts o).2.2.1 i lt').1
  rw [g] at this
  exact Option.some.inj this
theorem d_at : (L.d i).at_ = ((L.d i).name, none) := rfl
theorem d_qual : (L.d i).qual = (L.d i).name := rfl
theorem fn_mem (lt : i < L.at_.length) : L.d i ∈ L.fn := List.mem_map.mpr ⟨i, List.mem_range.mpr lt, rfl⟩
theorem exc_at {c : Nat} {x : Str} (e : ixIn x L.cfg.excs = some c) : L.cas K c = He.ga K x ∧ x ∈ L.cfg.excs ∧ c < L.cfg.excs.length := by
  have g := ixIn_get e
  obtain ⟨lt, _⟩ := List.getElem?_eq_some_iff.mp g
  refine ⟨?_, List.mem_of_getElem? g, lt⟩
  unfold Lay.cas
  rw [List.getD_eq_getElem?_getD, g]; rfl
theorem cas_at {c : Nat} (lt : c < L.cfg.excs.length) : L.cas K c = He.ga K L.cfg.excs[c] := by
  unfold Lay.cas
  rw [List.getD_eq_getElem?_getD, List.getElem?_eq_getElem lt]; rfl
theorem fa_glo {x : Str} (m : x ∈ L.cfg.fns) : He.Fa.glo x ∈ L.fa := List.mem_append_left _ (List.mem_map_of_mem m)
theorem fa_gloE {x : Str} (m : x ∈ L.cfg.excs) : He.Fa.glo x ∈ L.fa := List.mem_append_right _ (List.mem_append_left _ (List.mem_map_of_mem m))
theorem fa_exc {x : Str} (m : x ∈ L.cfg.excs) : He.Fa.exc x ∈ L.fa := List.mem_append_right _ (List.mem_append_right _ (List.mem_append_left _ (List.mem_map_of_mem m)))
theorem fa_free {x : Str} (m : x ∈ bltNames) : He.Fa.free x ∈ L.fa := List.mem_append_right _ (List.mem_append_right _ (List.mem_append_right _ (List.mem_append_left _ (List.mem_map_of_mem m))))
theorem fa_exm {x y : Str} (m : x ∈ L.cfg.excs) (m2 : y ∈ L.cfg.excs) : He.Fa.exm x y (x == y) ∈ L.fa :=
  List.mem_append_right _ (List.mem_append_right _ (List.mem_append_right _ (List.mem_append_right _ (List.mem_flatMap.mpr ⟨x, m, List.mem_map.mpr ⟨y, m2, rfl⟩⟩))))
/-- a def of the text keeps the table's form -/
theorem defOk_of (o : L.ok = true) (c : He.SaysX L.fa L.fn [] L.tf L.ex w h K) (lt : i < L.at_.length) {fn : Fn} (hT : L.T i = some fn) {fd : FuncData} (F : FunD K (L.d i).name (L.d i).qual (L.d i).params (L.d i).body (L.d i).scope [] [] (He.fAd K (L.d i).at_) fd)
    (tb : ∀ p ∈ L.tf, LamX.TabB base mg (He.cT K p).1 (He.cT K p).2) : DefOk (L.G P w K mg base) L.cfg L.T i fd (L.ps i) := by
  obtain ⟨oc, od, dV, kV, doc, pm, an, cdv, ct, osl, e, lk, hc, _, _⟩ := F.ex
  have sc := scopeB_ok ((ok_parts o).2.2.1 i lt).2
  have hT0 := hT
  unfold Lay.T at hT
  rw [if_pos lt] at hT
  obtain ⟨body, hb, ef⟩ := Option.map_eq_some_iff.mp hT
  refine ⟨(L.d i).name, (L.d i).qual, (L.d i).params, (L.d i).body, (L.d i).scope, dV, kV, doc, pm, cdv, ct, oc, an, od, osl, L.ns i, fn, L.M, L.lams.contains i, e, lk, hc, sc, hT0, by rw [← ef], by rw [← ef], by rw [hb, ← ef], fun hl => ?_⟩
  have ml : i ∈ L.lams := by simpa using hl
  have mt : (L.d i).at_ ∈ L.tf := List.mem_map_of_mem ml
  obtain ⟨cc, ecc⟩ := He.codeIn_ref hc
  have e1 : He.codeOf K (L.d i).at_ = cc := He.codeOf_eq lk (by rw [e]; exact ecc)
  refine ⟨cc, (He.cT K (L.d i).at_).2, ecc, ?_, List.mem_map.mpr ⟨i, ml, rfl⟩, fun p hp ep => ?_⟩
  · have := tb _ mt
    unfold He.cT at this
    rw [e1] at this
    unfold He.cT
    rw [e1]
    exact this
  · obtain ⟨j, mj, rfl⟩ := List.mem_map.mp hp
    have nd : (L.tf.map fun p => (He.cT K p).2).Nodup := by
      have := c.more
      unfold Lay.ex at this
      simp only [Bool.and_eq_true, decide_eq_true_eq] at this
      exact this.2
    have key : ∀ (l : List Nat), ((l.map fun i => (L.d i).at_).map fun p => (He.cT K p).2).Nodup → i ∈ l → j ∈ l → (He.cT K (L.d j).at_).2 = (He.cT K (L.d i).at_).2 → (L.d j).name = (L.d i).name := by
      intro l
      induction l with
      | nil => intro _ m; cases m
      | cons a l ih =>
        intro n m1 m2 e
        simp only [List.map_cons, List.nodup_cons, List.mem_map] at n
        rcases List.mem_cons.mp m1 with q1 | q1 <;> rcases List.mem_cons.mp m2 with q2 | q2
        · rw [q1, q2]
        · exact absurd ⟨_, ⟨j, q2, rfl⟩, by rw [e, q1]⟩ n.1
        · exact absurd ⟨_, ⟨i, q1, rfl⟩, by rw [← e, q2]⟩ n.1
        · exact ih n.2 q1 q2 e
    have := key L.lams nd ml mj ep
    show ((L.d j).name ++ ".<locals>.") ++ "<lambda>" = ((L.d i).name ++ ".<locals>.") ++ "<lambda>"
    rw [this]
theorem w0_of (o : L.ok = true) (c : He.SaysX L.fa L.fn [] L.tf L.ex w h K) (X : K.In h) (Gm : h.Ns mainGlobals mg) (bd : ∀ i, i < L.at_.length → BindOk (L.d i) (L.ps i))
    (tb : ∀ p ∈ L.tf, LamX.TabB base mg (He.cT K p).1 (He.cT K p).2) : W0 (L.G P w K mg base) L.cfg L.T where
  fnv := fun x i e => by
    obtain ⟨lt, en⟩ := at_len o e
    obtain ⟨fd, F⟩ := c.t.d.defs (fn_mem lt)
    refine ⟨?_, F.kp⟩
    have := He.glo_ok X Gm (c.t.d.facts (fa_glo (List.mem_of_getElem? (ixIn_get e))))
    show mg x = some (.ref (He.fAd K (L.d i).at_))
    rw [this, d_at, en]; rfl
  fn := fun x i e _ => by
    obtain ⟨lt, en⟩ := at_len o e
    obtain ⟨fd, F⟩ := c.t.d.defs (fn_mem lt)
    refine ⟨fd, L.ps i, FunD.bindsN (ps := L.ps i) F (bd i lt), ?_⟩
    cases hT : L.T i with
    | none => exact .inr rfl
    | some fn => exact .inl (defOk_of o c lt hT F tb)
  con := fun x d e => by
    have := c.more
    unfold Lay.ex at this
    rw [Bool.and_eq_true, List.all_eq_true] at this
    exact con_ok X Gm (this.1 (x, d) (PySem.mem_of_lookup e)) rfl rfl
  blt := fun x m => He.free_ok X Gm (c.t.d.facts (fa_free m))
  exc := fun x cc e => by
    obtain ⟨e1, m, lt⟩ := exc_at (L := L) (K := K) e
    obtain ⟨k1, k2, k3, k4⟩ := He.exc_ok (c.t.d.facts (fa_exc m))
    show mg x = some (.ref (L.cas K cc)) ∧ PySem.W.keepIn K (.ref (L.cas K cc)) = true ∧ (∃ bmB Bs nw ini, ExcBaseFacts Bs nw ini bmB ∧ PySem.W.excIn K (L.cas K cc) bmB nw = true) ∧ PySem.W.subIn K (.ref (L.cas K cc)) (.type "BaseException") = some true ∧ PySem.W.typeIn K (.ref (L.cas K cc)) = some (.type "type") ∧ cc < L.cfg.excs.length
    rw [e1]
    exact ⟨He.glo_ok X Gm (c.t.d.facts (fa_gloE m)), k2, ⟨He.veBase, "ValueError", "ValueError.__new__", "ValueError.__init__", PySem.F.excBase_ValueError, k1⟩, k3, k4, lt⟩
  exm := fun cc c' l1 l2 => by
    show PySem.W.exmOne K (.ref (L.cas K c')) (.ref (L.cas K cc)) = some (c' == cc)
    have l1 : cc < L.cfg.excs.length := l1
    have l2 : c' < L.cfg.excs.length := l2
    rw [cas_at l1, cas_at l2, He.exm_ok (c.t.d.facts (fa_exm (List.getElem_mem l2) (List.getElem_mem l1)))]
    congr 1
    by_cases q : c' = cc
    · subst q; simp
    · rw [show (c' == cc) = false by simpa using q]
      simpa using fun z => q ((List.getElem_inj (ok_parts o).2.1).mp z)
  heard := fun x i tag hs e1 e2 => by
    obtain ⟨lt, en⟩ := at_len o e1
    have hb := (ok_parts o).2.2.2 _ (PySem.mem_of_lookup e2)
    unfold Lay.hB at hb
    simp only [e1] at hb
    cases hs with
    | nil => cases hb
    | cons q r =>
      obtain ⟨cc, ret⟩ := q
      cases r with
      | cons q2 r => cases hb
      | nil =>
        simp only at hb
        cases hh : heardB (L.d i).body with
        | none => rw [hh] at hb; cases hb
        | some q =>
          obtain ⟨tag', a, e, ret'⟩ := q
          rw [hh] at hb
          simp only [Bool.and_eq_true, decide_eq_true_eq] at hb
          obtain ⟨rfl, rfl, h3, h4, h5, h6, h7, h8, h9⟩ := hb
          obtain ⟨fd, F⟩ := c.t.d.defs (fn_mem lt)
          have bn := FunD.bindsN (ps := L.ps i) F (bd i lt)
          obtain ⟨oc, od, dV, kV, doc, pm, an, cdv, ct, osl, ef, lk, hc, _, _⟩ := F.ex
          obtain ⟨j, j2, k1, k2, p1, p2, p3, p4, p5, p6, p7, p8, p9, p10, p11, eb⟩ := heardB_ok hh
          obtain ⟨x1, x2, x3⟩ := exc_at (L := L) (K := K) h9
          rw [h3] at bn
          rw [ef] at bn lk
          rw [d_qual, en, eb] at bn lk
          rw [d_qual, en] at hc
          have vz : Vis (L.d i).scope a ∧ nameOk a = true := by
            have h2 := h6
            unfold visB at h2
            rw [Bool.and_eq_true] at h2
            refine ⟨?_, h2.1⟩
            have h2 := h2.2
            unfold Vis
            cases q : (L.d i).scope.names.lookup a with
            | none => rw [q] at h2; cases h2
            | some k => rw [q] at h2; cases k <;> simp_all
          refine ⟨cc, ret', rfl, x3, ⟨⟨a, e, _, _, dV, kV, doc, pm, cdv, ct, oc, an, od, osl, L.ns i, j, j2, k1, k2, p1, p2, p3, p4, p5, p6, p7, p8, p9, p10, p11, lk, hc, bn, scopeB_ok h4, h5, vz.1, h7, ?_, (nameOk_inv h8).1, (nameOk_inv vz.2).1, (nameOk_inv vz.2).2.1⟩⟩⟩
          show mg e = some (.ref (L.cas K cc))
          rw [x1]
          exact He.glo_ok X Gm (c.t.d.facts (fa_gloE x2))
/-- the head's heap bears the law -/
theorem lawG_of {fa : Addr} {x : Str} {j k n : Nat} {fn : Fn} (o : L.ok = true) (Y : (He.hookX m L.fa L.fn [] L.tf L.ex).says w h) (Gm : h.Ns mainGlobals mg) (bd : ∀ i, i < L.at_.length → BindOk (L.d i) (L.ps i))
    (hj : j < L.at_.length) (hp : L.ps j = [x]) (hT : L.T j = some fn) (hm : mg (L.d j).name = some (.ref fa)) (hr : Room (3 * k + 3) callerA)
    (run : ∀ ns : List Int, ns.length ≤ n → (∀ z ∈ ns, Builtin.Int.intBits z ≤ 1048576) → ∃ b hp', callN L.T (k + 1) j [.scr (ns.map D.int)] [] = .ok b (.bl true) hp') :
    ∃ K : PySem.W.Frag, K.In h ∧ LawG P w K mg h fa n x := by
  obtain ⟨K, X, c⟩ := Y
  refine ⟨K, X, ⟨?_⟩⟩
  obtain ⟨fd, F⟩ := c.t.d.defs (fn_mem hj)
  have gj : L.cfg.fns[j]? = some (L.d j).name := (((ok_parts o).2.2.1 j hj).1).symm
  have eg := He.glo_ok X Gm (c.t.d.facts (fa_glo (List.mem_of_getElem? gj)))
  have ea : L.fas K j = fa := by
    rw [hm] at eg
    have : (Value.ref fa) = .ref (He.ga K (L.d j).name) := Option.some.inj eg
    injection this with e
    show He.fAd K (L.d j).at_ = fa
    rw [e]; rfl
  refine ⟨L.tf.map (He.cT K), L.fas K, L.cas K, L.tabs K, L.cfg.excs.length, 3 * k + 3, j, callN L.T (k + 1), fd, L.cfg.gds[j]?.getD true, ea, fun p hp => ?_, fun p hp => ?_, fun p hp => ?_, fun p hp => ?_, hr, fun z u => ?_, fun base Xb Gb tb => ?_, run⟩
  · obtain ⟨q, mq, rfl⟩ := List.mem_map.mp hp
    exact c.empty q mq
  · obtain ⟨q, mq, rfl⟩ := List.mem_map.mp hp
    exact c.out q mq
  · obtain ⟨q, mq, rfl⟩ := List.mem_map.mp hp
    exact PySem.W.codeHd_of_K X (c.hd q mq)
  · obtain ⟨i, mi, rfl⟩ := List.mem_map.mp hp
    exact List.mem_map.mpr ⟨_, List.mem_map_of_mem (List.mem_map_of_mem mi), rfl⟩
  · have := FunD.bindsA (ps := L.ps j) F (bd j hj) z [u] (by rw [hp]; rfl)
    rw [hp] at this
    exact this
  · have tb' : ∀ p ∈ L.tf, LamX.TabB base mg (He.cT K p).1 (He.cT K p).2 := fun p mp => tb _ (List.mem_map_of_mem mp)
    have w0 : W0 (L.G P w K mg base) L.cfg L.T := w0_of o c X Gm bd tb'
    have := fn_step (wok_all w0 k) (defOk_of o c hj hT F tb')
    rw [hp] at this
    exact this
end
end Fw
set_option linter.all false
set_option Elab.async false
/-! A calculus of weakest preconditions for the core language, made for simp. -/
namespace Fw
open PySem (Str PyData sizeLine)
/-- a later argument that leans on what is to come: so simp's congruences never go into it -/
class Hold {α : Sort u} (x : α) : Type where
instance {α : Sort u} (x : α) : Hold x := ⟨⟩
abbrev Post (α : Type) := α → Sta → Prop
abbrev EPost := Exc → Sta → Prop
def wp {α : Type} (m : M α) (s : Sta) (Q : Post α) (E : EPost) [Hold Q] [Hold E] : Prop := match m s with
  | .stk => False
  | .ok a s' => Q a s'
  | .exc e s' => E e s'
def wpC (r : RC) (Q : Bool → D → List HObj → Prop) (E : Exc → List HObj → Prop) [Hold Q] [Hold E] : Prop := match r with
  | .stk => False
  | .ok b d hp => Q b d hp
  | .exc e hp => E e hp
def slotQ (o : Option Slot) (qv qo : D → Prop) [Hold qv] [Hold qo] : Prop := match o with
  | some (.val d) => qv d
  | some (.own d) => qo d
  | _ => False
def optQ {α : Type} (o : Option α) (q : α → Prop) [Hold q] : Prop := match o with
  | some a => q a
  | none => False
def oo {α : Type} (o : Option α) (q : α → Prop) (n : Prop) [Hold q] [Hold n] : Prop := match o with
  | some a => q a
  | none => n
/-- what a flow leads to: on, or out -/
def flQ (f : Flow) (nx : Prop) (q : Flow → Prop) [Hold nx] [Hold q] : Prop := match f with
  | .nx => nx
  | f => q f
def retQ (f : Flow) (nx : Prop) (q : Bool → D → Prop) [Hold nx] [Hold q] : Prop := match f with
  | .nx => nx
  | .ret b d => q b d
  | _ => False
def turnQ (f : Flow) (go : Prop) (q : Flow → Prop) [Hold go] [Hold q] : Prop := match f with
  | .nx => go
  | .cont => go
  | .brk => q .nx
  | .ret b d => q (.ret b d)
def objQ (o : Option HObj) (q : D → Prop) (qi : Prop) [Hold q] [Hold qi] : Prop := match o with
  | some (.lst l) => q (.lst l)
  | some (.dct l) => q (.dct l)
  | some (.ins _ _) => qi
  | none => False
section
variable {α β : Type} {s : Sta} {fr : List Slot} {hp : List HObj} {Q : Post α} {E : EPost}
theorem wp_ext {m : M α} {Q' : Post α} (h : ∀ a s, Q a s = Q' a s) : wp m s Q E = wp m s Q' E := by
  unfold wp
  cases m s <;> first | rfl | exact h _ _
theorem optQ_ext {o : Option α} {q q' : α → Prop} (h : ∀ a, q a = q' a) : optQ o q = optQ o q' := by
  cases o <;> first | rfl | exact h _
theorem ite_ext {c a b a' b' : Prop} [Decidable c] (h1 : a = a') (h2 : b = b') : (if c then a else b) = if c then a' else b' := by rw [h1, h2]
theorem wp_mono {m : M α} {Q' : Post α} {E' : EPost} (h : wp m s Q E) (hQ : ∀ a s', Q a s' → Q' a s') (hE : ∀ e s', E e s' → E' e s') : wp m s Q' E' := by
  unfold wp at *
  cases q : m s <;> rw [q] at h <;> first | exact h | exact hQ _ _ h | exact hE _ _ h
theorem wpC_mono {r : RC} {Q Q' : Bool → D → List HObj → Prop} {E E' : Exc → List HObj → Prop} (h : wpC r Q E) (hQ : ∀ b d hp, Q b d hp → Q' b d hp) (hE : ∀ e hp, E e hp → E' e hp) : wpC r Q' E' := by
  unfold wpC at *
  cases r <;> first | exact h | exact hQ _ _ _ h | exact hE _ _ h
theorem slotQ_val (d : D) (a b : D → Prop) : slotQ (some (.val d)) a b = a d := rfl
theorem slotQ_own (d : D) (a b : D → Prop) : slotQ (some (.own d)) a b = b d := rfl
theorem slotQ_none (a b : D → Prop) : slotQ (some .none) a b = False := rfl
theorem slotQ_non (a b : D → Prop) : slotQ none a b = False := rfl
theorem optQ_some (a : α) (q : α → Prop) : optQ (some a) q = q a := rfl
theorem optQ_none (q : α → Prop) : optQ none q = False := rfl
theorem optQ_ite (c : Prop) [Decidable c] (a b : Option α) (q : α → Prop) : optQ (if c then a else b) q = if c then optQ a q else optQ b q := by split <;> rfl
theorem optQ_def (o : Option α) (q : α → Prop) : optQ o q ↔ ∃ a, o = some a ∧ q a := by
  cases o <;> simp [optQ]
theorem optQ_of {o : Option α} {a : α} {q : α → Prop} (h : o = some a) (k : q a) : optQ o q := by rw [h]; exact k
theorem oo_some (a : α) (q : α → Prop) (n : Prop) : oo (some a) q n = q a := rfl
theorem oo_none (q : α → Prop) (n : Prop) : oo none q n = n := rfl
theorem flQ_nx (n : Prop) (q : Flow → Prop) : flQ .nx n q = n := rfl
theorem flQ_ret (n : Prop) (q : Flow → Prop) (b : Bool) (d : D) : flQ (.ret b d) n q = q (.ret b d) := rfl
theorem flQ_brk (n : Prop) (q : Flow → Prop) : flQ .brk n q = q .brk := rfl
theorem flQ_cont (n : Prop) (q : Flow → Prop) : flQ .cont n q = q .cont := rfl
theorem retQ_nx (n : Prop) (q : Bool → D → Prop) : retQ .nx n q = n := rfl
theorem retQ_ret (n : Prop) (q : Bool → D → Prop) (b : Bool) (d : D) : retQ (.ret b d) n q = q b d := rfl
theorem turnQ_nx (n : Prop) (q : Flow → Prop) : turnQ .nx n q = n := rfl
theorem turnQ_ret (n : Prop) (q : Flow → Prop) (b : Bool) (d : D) : turnQ (.ret b d) n q = q (.ret b d) := rfl
theorem turnQ_brk (n : Prop) (q : Flow → Prop) : turnQ .brk n q = q .nx := rfl
theorem turnQ_cont (n : Prop) (q : Flow → Prop) : turnQ .cont n q = n := rfl
theorem objQ_lst (l : List D) (a : D → Prop) (n : Prop) : objQ (some (.lst l)) a n = a (.lst l) := rfl
theorem objQ_dct (l : List (D × D)) (a : D → Prop) (n : Prop) : objQ (some (.dct l)) a n = a (.dct l) := rfl
theorem objQ_ins (c : Nat) (fs : List (Str × D)) (a : D → Prop) (n : Prop) : objQ (some (.ins c fs)) a n = n := rfl
theorem wpC_ok (b : Bool) (d : D) (hp : List HObj) (Q : Bool → D → List HObj → Prop) (E : Exc → List HObj → Prop) : wpC (.ok b d hp) Q E = Q b d hp := rfl
theorem wpC_exc (e : Exc) (hp : List HObj) (Q : Bool → D → List HObj → Prop) (E : Exc → List HObj → Prop) : wpC (.exc e hp) Q E = E e hp := rfl
theorem wpC_ite (c : Prop) [Decidable c] (a b : RC) (Q : Bool → D → List HObj → Prop) (E : Exc → List HObj → Prop) : wpC (if c then a else b) Q E = if c then wpC a Q E else wpC b Q E := by split <;> rfl
theorem wp_bind (m : M β) (f : β → M α) : wp (m >>= f) s Q E = wp m s (fun a s' => wp (f a) s' Q E) E := by
  show wp (M.bind m f) s Q E = _
  unfold wp M.bind
  cases m s <;> rfl
theorem wp_pure (a : α) : wp (pure a) s Q E = Q a s := rfl
theorem wp_stk : wp (stk : M α) s Q E = False := rfl
theorem wp_lift (o : Option α) : wp (lift o) s Q E = optQ o (fun a => Q a s) := by cases o <;> rfl
theorem wp_ite (c : Prop) [Decidable c] (a b : M α) : wp (if c then a else b) s Q E = if c then wp a s Q E else wp b s Q E := by split <;> rfl
end
local macro_rules | `(tactic| array_get_dec) => `(tactic| repeat' (first | with_reducible rfl | rw [wp_bind] | rw [wp_lift] | rw [wp_pure] | rw [wp_ite] | rw [optQ_ite] | rw [optQ_some] | rw [optQ_none] | (refine wp_ext fun _ _ => ?_) | (refine optQ_ext fun _ => ?_) | (refine ite_ext ?_ ?_)))
section
variable {α β : Type} {s : Sta} {fr : List Slot} {hp : List HObj} {E : EPost} {cl : Call} {o p : Op} {c c' : Cp} {a b d e t it cs g k v hs i lo hi as ts : C} {n f : Nat} {x : D} {tys : List Ty} {bi : Bi} {me : Me} {mu : Mu} {tag : Str}
theorem wp_var {Q : Post (Bool × D)} : wp (evF cl (.var n)) ⟨fr, hp⟩ Q E = slotQ fr[n]? (fun d => Q (false, d) ⟨fr, hp⟩) (fun d => Q (false, d) ⟨fr.set n (.val d), hp⟩) := by
  rw [evF_var]; unfold wp slotQ; dsimp only; generalize fr[n]? = o; rcases o with _ | ⟨_ | _ | _⟩ <;> rfl
theorem wp_lit {Q : Post (Bool × D)} : wp (evF cl (.lit x)) s Q E = Q (false, x) s := rfl
theorem wp_readOp {Q : Post OV} : wp (readOp n) ⟨fr, hp⟩ Q E = slotQ fr[n]? (fun d => Q (.d d) ⟨fr, hp⟩) (fun d => Q (.own n) ⟨fr, hp⟩) := by
  unfold wp readOp slotQ; dsimp only; generalize fr[n]? = o; rcases o with _ | ⟨_ | _ | _⟩ <;> rfl
theorem wp_res_own {Q : Post D} : wp (res (.own n)) ⟨fr, hp⟩ Q E = slotQ fr[n]? (fun d => False) (fun d => Q d ⟨fr, hp⟩) := by
  unfold wp res slotQ; dsimp only; generalize fr[n]? = o; rcases o with _ | ⟨_ | _ | _⟩ <;> rfl
theorem wp_res_ref {Q : Post D} : wp (res (.d (.ref n))) ⟨fr, hp⟩ Q E = objQ hp[n]? (fun d => Q d ⟨fr, hp⟩) (Q (.ref n) ⟨fr, hp⟩) := by
  unfold wp res objQ; dsimp only; generalize hp[n]? = o; rcases o with _ | ⟨_ | _ | _⟩ <;> rfl
theorem wp_res {Q : Post D} (h : ∀ n, x ≠ .ref n) : wp (res (.d x)) s Q E = Q x s := by
  cases x <;> first | rfl | exact absurd rfl (h _)
theorem wp_res_non {Q : Post D} : wp (res (.d .non)) s Q E = Q .non s := rfl
theorem wp_res_bl {Q : Post D} {b : Bool} : wp (res (.d (.bl b))) s Q E = Q (.bl b) s := rfl
theorem wp_res_int {Q : Post D} {b : Int} : wp (res (.d (.int b))) s Q E = Q (.int b) s := rfl
theorem wp_res_str {Q : Post D} {b : Str} : wp (res (.d (.str b))) s Q E = Q (.str b) s := rfl
theorem wp_res_tup {Q : Post D} {b : List D} : wp (res (.d (.tup b))) s Q E = Q (.tup b) s := rfl
theorem wp_res_lst {Q : Post D} {b : List D} : wp (res (.d (.lst b))) s Q E = Q (.lst b) s := rfl
theorem wp_res_dct {Q : Post D} {b : List (D × D)} : wp (res (.d (.dct b))) s Q E = Q (.dct b) s := rfl
theorem wp_res_kt {Q : Post D} {b : List D} : wp (res (.d (.kt b))) s Q E = Q (.kt b) s := rfl
theorem wp_res_kd {Q : Post D} {b : List (Str × D)} : wp (res (.d (.kd b))) s Q E = Q (.kd b) s := rfl
theorem wp_res_scr {Q : Post D} {b : List D} : wp (res (.d (.scr b))) s Q E = Q (.scr b) s := rfl
theorem wp_res_fn {Q : Post D} {b : Nat} : wp (res (.d (.fn b))) s Q E = Q (.fn b) s := rfl
theorem wp_ress_nil {Q : Post (List D)} : wp (ress []) s Q E = Q [] s := rfl
theorem wp_ress_cons {Q : Post (List D)} {o : OV} {r : List OV} : wp (ress (o :: r)) s Q E = wp (res o) s (fun d s => wp (ress r) s (fun ds s => Q (d :: ds) s) E) E := by
  show wp (do let d ← res o; let ds ← ress r; pure (d :: ds)) s Q E = _
  array_get_dec
/-- an operand -/
def isVar : C → Bool
  | .var _ => true
  | _ => false
theorem opd_else {m : M (Bool × D)} (h : isVar a = false) : opd a m = (do let v ← m; pure (.d v.2)) := by
  cases a <;> first | rfl | cases h
theorem wp_opd_var {Q : Post OV} {m : M (Bool × D)} : wp (opd (.var n) m) s Q E = wp (readOp n) s Q E := rfl
theorem wp_opd {Q : Post OV} {m : M (Bool × D)} (h : isVar a = false) : wp (opd a m) s Q E = wp m s (fun v s => Q (.d v.2) s) E := by
  rw [opd_else h, wp_bind]; rfl
end
section
variable {α β : Type} {s : Sta} {fr : List Slot} {hp : List HObj} {E : EPost} {cl : Call} {o p : Op} {c c' : Cp} {a b d e t it cs g k v hs i lo hi as ts : C} {n f : Nat} {x : D} {l : List D} {tys : List Ty} {bi : Bi} {me : Me} {mu : Mu} {tag : Str} {Q : Post OV} {m : M (Bool × D)}
theorem wp_opd_lit : wp (opd (.lit x) m) s Q E = wp m s (fun v s => Q (.d v.2) s) E := wp_opd rfl
theorem wp_opd_bin : wp (opd (.bin o a b) m) s Q E = wp m s (fun v s => Q (.d v.2) s) E := wp_opd rfl
theorem wp_opd_neg : wp (opd (.neg a) m) s Q E = wp m s (fun v s => Q (.d v.2) s) E := wp_opd rfl
theorem wp_opd_not : wp (opd (.not a) m) s Q E = wp m s (fun v s => Q (.d v.2) s) E := wp_opd rfl
theorem wp_opd_and : wp (opd (.and a b) m) s Q E = wp m s (fun v s => Q (.d v.2) s) E := wp_opd rfl
theorem wp_opd_or : wp (opd (.or a b) m) s Q E = wp m s (fun v s => Q (.d v.2) s) E := wp_opd rfl
theorem wp_opd_ite : wp (opd (.ite a b d) m) s Q E = wp m s (fun v s => Q (.d v.2) s) E := wp_opd rfl
theorem wp_opd_cmp : wp (opd (.cmp c a b) m) s Q E = wp m s (fun v s => Q (.d v.2) s) E := wp_opd rfl
theorem wp_opd_cmp2 : wp (opd (.cmp2 c c' a b d) m) s Q E = wp m s (fun v s => Q (.d v.2) s) E := wp_opd rfl
theorem wp_opd_tup : wp (opd (.tup a) m) s Q E = wp m s (fun v s => Q (.d v.2) s) E := wp_opd rfl
theorem wp_opd_lst : wp (opd (.lst a) m) s Q E = wp m s (fun v s => Q (.d v.2) s) E := wp_opd rfl
theorem wp_opd_dct : wp (opd (.dct a) m) s Q E = wp m s (fun v s => Q (.d v.2) s) E := wp_opd rfl
theorem wp_opd_sub : wp (opd (.sub a b) m) s Q E = wp m s (fun v s => Q (.d v.2) s) E := wp_opd rfl
theorem wp_opd_slc : wp (opd (.slc a b d) m) s Q E = wp m s (fun v s => Q (.d v.2) s) E := wp_opd rfl
theorem wp_opd_rev : wp (opd (.rev a) m) s Q E = wp m s (fun v s => Q (.d v.2) s) E := wp_opd rfl
theorem wp_opd_call : wp (opd (.call f a) m) s Q E = wp m s (fun v s => Q (.d v.2) s) E := wp_opd rfl
theorem wp_opd_callv : wp (opd (.callv f a) m) s Q E = wp m s (fun v s => Q (.d v.2) s) E := wp_opd rfl
theorem wp_opd_isi : wp (opd (.isi a tys) m) s Q E = wp m s (fun v s => Q (.d v.2) s) E := wp_opd rfl
theorem wp_opd_bi : wp (opd (.bi bi a) m) s Q E = wp m s (fun v s => Q (.d v.2) s) E := wp_opd rfl
theorem wp_opd_me : wp (opd (.me me a b) m) s Q E = wp m s (fun v s => Q (.d v.2) s) E := wp_opd rfl
theorem wp_opd_mu : wp (opd (.mu mu a b) m) s Q E = wp m s (fun v s => Q (.d v.2) s) E := wp_opd rfl
theorem wp_opd_muR : wp (opd (.muR mu a b) m) s Q E = wp m s (fun v s => Q (.d v.2) s) E := wp_opd rfl
theorem wp_opd_comp {is : List Nat} : wp (opd (.comp is e t it cs g) m) s Q E = wp m s (fun v s => Q (.d v.2) s) E := wp_opd rfl
theorem wp_opd_dcomp {is : List Nat} : wp (opd (.dcomp is e k t it cs g) m) s Q E = wp m s (fun v s => Q (.d v.2) s) E := wp_opd rfl
theorem wp_opd_heard : wp (opd (.heard tag hs a) m) s Q E = wp m s (fun v s => Q (.d v.2) s) E := wp_opd rfl
theorem wp_opd_ofit : wp (opd (.ofit bi it) m) s Q E = wp m s (fun v s => Q (.d v.2) s) E := wp_opd rfl
theorem wp_opd_box : wp (opd (.box a) m) s Q E = wp m s (fun v s => Q (.d v.2) s) E := wp_opd rfl
end
section
variable {α β : Type} {s : Sta} {fr : List Slot} {hp : List HObj} {E : EPost} {cl : Call} {o p : Op} {c c' : Cp} {a b d e t it cs g k v hs i lo hi as ts : C} {n f : Nat} {x : D} {l : List D} {tys : List Ty} {bi : Bi} {me : Me} {mu : Mu} {tag : Str} {m : M (Bool × D)}
theorem tst_else {m : M (Bool × D)} (h : isVar a = false) : tst a m = (do let x ← m; lift (truthy x.2)) := by
  cases a <;> first | rfl | cases h
/-- a test: of a variable without reading it away -/
def tstQ (a : C) (m : M (Bool × D)) (s : Sta) (Q : Post Bool) (E : EPost) : Prop := wp (tst a m) s Q E
theorem wp_tst_var {Q : Post Bool} : wp (tst (.var n) m) s Q E = wp (readOp n) s (fun x s => wp (res x) s (fun d s => optQ (truthy d) (fun b => Q b s)) E) E := by
  show wp (do let x ← readOp n; let x ← res x; lift (truthy x)) s Q E = _
  array_get_dec
theorem wp_tst {Q : Post Bool} (h : isVar a = false) : wp (tst a m) s Q E = wp m s (fun v s => optQ (truthy v.2) (fun b => Q b s)) E := by
  rw [tst_else h]; array_get_dec
end
section
variable {α β : Type} {s : Sta} {fr : List Slot} {hp : List HObj} {E : EPost} {cl : Call} {o p : Op} {c c' : Cp} {a b d e t it cs g k v hs i lo hi as ts : C} {n f : Nat} {x : D} {l : List D} {tys : List Ty} {bi : Bi} {me : Me} {mu : Mu} {tag : Str} {m : M (Bool × D)} {Q : Post Bool}
theorem wp_tst_lit : wp (tst (.lit x) m) s Q E = wp m s (fun v s => optQ (truthy v.2) (fun b => Q b s)) E := wp_tst rfl
theorem wp_tst_bin : wp (tst (.bin o a b) m) s Q E = wp m s (fun v s => optQ (truthy v.2) (fun b => Q b s)) E := wp_tst rfl
theorem wp_tst_not : wp (tst (.not a) m) s Q E = wp m s (fun v s => optQ (truthy v.2) (fun b => Q b s)) E := wp_tst rfl
theorem wp_tst_and : wp (tst (.and a b) m) s Q E = wp m s (fun v s => optQ (truthy v.2) (fun b => Q b s)) E := wp_tst rfl
theorem wp_tst_or : wp (tst (.or a b) m) s Q E = wp m s (fun v s => optQ (truthy v.2) (fun b => Q b s)) E := wp_tst rfl
theorem wp_tst_ite : wp (tst (.ite a b d) m) s Q E = wp m s (fun v s => optQ (truthy v.2) (fun b => Q b s)) E := wp_tst rfl
theorem wp_tst_cmp : wp (tst (.cmp c a b) m) s Q E = wp m s (fun v s => optQ (truthy v.2) (fun b => Q b s)) E := wp_tst rfl
theorem wp_tst_cmp2 : wp (tst (.cmp2 c c' a b d) m) s Q E = wp m s (fun v s => optQ (truthy v.2) (fun b => Q b s)) E := wp_tst rfl
theorem wp_tst_sub : wp (tst (.sub a b) m) s Q E = wp m s (fun v s => optQ (truthy v.2) (fun b => Q b s)) E := wp_tst rfl
theorem wp_tst_call : wp (tst (.call f a) m) s Q E = wp m s (fun v s => optQ (truthy v.2) (fun b => Q b s)) E := wp_tst rfl
theorem wp_tst_callv : wp (tst (.callv f a) m) s Q E = wp m s (fun v s => optQ (truthy v.2) (fun b => Q b s)) E := wp_tst rfl
theorem wp_tst_isi : wp (tst (.isi a tys) m) s Q E = wp m s (fun v s => optQ (truthy v.2) (fun b => Q b s)) E := wp_tst rfl
theorem wp_tst_bi : wp (tst (.bi bi a) m) s Q E = wp m s (fun v s => optQ (truthy v.2) (fun b => Q b s)) E := wp_tst rfl
theorem wp_tst_comp {is : List Nat} : wp (tst (.comp is e t it cs g) m) s Q E = wp m s (fun v s => optQ (truthy v.2) (fun b => Q b s)) E := wp_tst rfl
end
section
variable {α β : Type} {s : Sta} {fr : List Slot} {hp : List HObj} {E : EPost} {cl : Call} {o p : Op} {c c' : Cp} {a b d e t it cs g k v hs i lo hi as ts : C} {n f : Nat} {x : D} {l : List D} {tys : List Ty} {bi : Bi} {me : Me} {mu : Mu} {tag : Str} {m : M (Bool × D)} {Q : Post (Bool × D)}
theorem wp_setSlot {Q : Post Unit} {x : Slot} : wp (setSlot n x) ⟨fr, hp⟩ Q E = (if n < fr.length then Q () ⟨fr.set n x, hp⟩ else False) := by
  unfold wp setSlot; dsimp only; by_cases h : n < fr.length <;> simp only [h, if_true, if_false]
theorem wp_store_own {Q : Post Unit} : wp (store (.own n) x) ⟨fr, hp⟩ Q E = (if n < fr.length then Q () ⟨fr.set n (.own x), hp⟩ else False) := wp_setSlot
theorem wp_store_lst {Q : Post Unit} : wp (store (.d (.ref n)) (.lst l)) ⟨fr, hp⟩ Q E = (if n < hp.length then Q () ⟨fr, hp.set n (.lst l)⟩ else False) := by
  unfold wp store; dsimp only; by_cases h : n < hp.length <;> simp only [h, if_true, if_false]
theorem wp_store_dct {Q : Post Unit} {l : List (D × D)} : wp (store (.d (.ref n)) (.dct l)) ⟨fr, hp⟩ Q E = (if n < hp.length then Q () ⟨fr, hp.set n (.dct l)⟩ else False) := by
  unfold wp store; dsimp only; by_cases h : n < hp.length <;> simp only [h, if_true, if_false]
theorem wp_boxM {l : List D} : wp (boxM (true, .lst l)) ⟨fr, hp⟩ Q E = Q (false, .ref hp.length) ⟨fr, hp ++ [.lst l]⟩ := rfl
theorem wp_boxM_dct {l : List (D × D)} : wp (boxM (true, .dct l)) ⟨fr, hp⟩ Q E = Q (false, .ref hp.length) ⟨fr, hp ++ [.dct l]⟩ := rfl
theorem wp_ask {Q : Post Unit} {b : Bool} : wp (ask b) s Q E = (if b = true then Q () s else False) := by
  unfold ask; split <;> rfl
local macro_rules | `(tactic| array_get_dec) => `(tactic| repeat' (first | with_reducible rfl | rw [wp_bind] | rw [wp_lift] | rw [wp_pure] | rw [wp_ite] | rw [wp_ask] | rw [optQ_ite] | rw [optQ_some] | rw [optQ_none] | rw [wp_ask] | (refine wp_ext fun _ _ => ?_) | (refine optQ_ext fun _ => ?_) | (refine ite_ext ?_ ?_)))
theorem wp_part_nil {Q : Post (Option Int)} : wp (partM .nil m) s Q E = Q none s := rfl
theorem wp_part {Q : Post (Option Int)} (h : a ≠ .nil) : wp (partM a m) s Q E = wp m s (fun v s => optQ (intOf v.2) (fun i => Q (some i) s)) E := by
  have : partM a m = (do let v ← m; let i ← lift (intOf v.2); pure (some i)) := by
    cases a <;> first | rfl | exact absurd rfl h
  rw [this]; array_get_dec
theorem wp_part_var {Q : Post (Option Int)} : wp (partM (.var n) m) s Q E = wp m s (fun v s => optQ (intOf v.2) (fun i => Q (some i) s)) E := wp_part (by simp)
theorem wp_part_lit {Q : Post (Option Int)} : wp (partM (.lit x) m) s Q E = wp m s (fun v s => optQ (intOf v.2) (fun i => Q (some i) s)) E := wp_part (by simp)
theorem wp_part_bin {Q : Post (Option Int)} : wp (partM (.bin o a b) m) s Q E = wp m s (fun v s => optQ (intOf v.2) (fun i => Q (some i) s)) E := wp_part (by simp)
theorem wp_part_sub {Q : Post (Option Int)} : wp (partM (.sub a b) m) s Q E = wp m s (fun v s => optQ (intOf v.2) (fun i => Q (some i) s)) E := wp_part (by simp)
theorem wp_part_call {Q : Post (Option Int)} : wp (partM (.call f a) m) s Q E = wp m s (fun v s => optQ (intOf v.2) (fun i => Q (some i) s)) E := wp_part (by simp)
theorem wp_part_bi {Q : Post (Option Int)} : wp (partM (.bi bi a) m) s Q E = wp m s (fun v s => optQ (intOf v.2) (fun i => Q (some i) s)) E := wp_part (by simp)
theorem wp_callM {l : List D} : wp (callM cl f l) ⟨fr, hp⟩ Q E = wpC (cl f l hp) (fun b d hp => Q (b, d) ⟨fr, hp⟩) (fun e hp => E e ⟨fr, hp⟩) := by
  unfold wp callM wpC; dsimp only; generalize cl f l hp = r; cases r <;> rfl
theorem wp_fnAt {Q : Post Nat} : wp (fnAt n) ⟨fr, hp⟩ Q E = slotQ fr[n]? (fun d => optQ (match d with | .fn f => some f | _ => none) fun f => Q f ⟨fr, hp⟩) (fun _ => False) := by
  unfold wp fnAt slotQ; dsimp only; generalize fr[n]? = o; rcases o with _ | ⟨_ | d | _⟩ <;> first | rfl | (cases d <;> rfl)
theorem wp_srcOf {Q : Post (List D ⊕ Nat)} (h : ∀ n, x ≠ .ref n) : wp (srcOf x) s Q E = optQ (unpack x) (fun l => Q (.inl l) s) := by
  cases x <;> first | rfl | exact absurd rfl (h _)
theorem wp_srcOf_ref {Q : Post (List D ⊕ Nat)} : wp (srcOf (.ref n)) ⟨fr, hp⟩ Q E = objQ hp[n]? (fun d => optQ (match d with | .lst _ => some () | _ => none) fun _ => Q (.inr n) ⟨fr, hp⟩) False := by
  unfold wp srcOf objQ; dsimp only; generalize hp[n]? = o; rcases o with _ | ⟨_ | _ | _⟩ <;> rfl
/-! expressions -/
theorem wp_bin : wp (evF cl (.bin o a b)) s Q E = wp (opd a (evF cl a)) s (fun x s => wp (opd b (evF cl b)) s (fun y s => wp (res x) s (fun x s => wp (res y) s (fun y s => optQ (binop o x y) fun z => Q z s) E) E) E) E := by
  rw [evF_bin]; array_get_dec
theorem wp_neg : wp (evF cl (.neg a)) s Q E = wp (evF cl a) s (fun x s => optQ (negD x.2) fun z => Q z s) E := by
  rw [evF_neg]; array_get_dec
theorem wp_not : wp (evF cl (.not a)) s Q E = wp (tst a (evF cl a)) s (fun b s => Q (false, .bl (!b)) s) E := by
  rw [evF_not]; array_get_dec
theorem wp_and : wp (evF cl (.and a b)) s Q E = wp (evF cl a) s (fun x s => optQ (truthy x.2) fun c => if c = true then wp (evF cl b) s Q E else Q (false, x.2) s) E := by
  rw [evF_and]; array_get_dec
theorem wp_or : wp (evF cl (.or a b)) s Q E = wp (evF cl a) s (fun x s => optQ (truthy x.2) fun c => if c = true then Q (false, x.2) s else wp (evF cl b) s Q E) E := by
  rw [evF_or]; array_get_dec
theorem wp_iteF : wp (evF cl (.ite d a b)) s Q E = wp (tst d (evF cl d)) s (fun t s => if t = true then wp (evF cl a) s Q E else wp (evF cl b) s Q E) E := by
  rw [evF_ite]; array_get_dec
theorem wp_cmp : wp (evF cl (.cmp c a b)) s Q E = wp (opd a (evF cl a)) s (fun x s => wp (opd b (evF cl b)) s (fun y s => wp (res x) s (fun x s => wp (res y) s (fun y s => optQ (cmpop c x y) fun z => Q (false, .bl z) s) E) E) E) E := by
  rw [evF_cmp]; array_get_dec
theorem wp_cmp2 : wp (evF cl (.cmp2 c c' a b d)) s Q E = wp (evF cl a) s (fun x s => wp (evF cl b) s (fun y s => optQ (cmpop c x.2 y.2) fun t => if t = true then wp (evF cl d) s (fun z s => optQ (cmpop c' y.2 z.2) fun u => Q (false, .bl u) s) E else Q (false, .bl false) s) E) E := by
  rw [evF_cmp2]; array_get_dec
theorem wp_tup : wp (evF cl (.tup as)) s Q E = wp (evL cl as) s (fun ds s => if ds.length ≤ sizeLine then Q (false, .tup ds) s else False) E := by
  rw [evF_tup]; array_get_dec
theorem wp_lst : wp (evF cl (.lst as)) s Q E = wp (evL cl as) s (fun ds s => if ds.length ≤ sizeLine then Q (true, .lst ds) s else False) E := by
  rw [evF_lst]; array_get_dec
theorem wp_dct : wp (evF cl (.dct as)) s Q E = wp (evK cl as) s (fun ds s => if ds.length ≤ 15 then Q (true, .dct (merge [] ds)) s else False) E := by
  rw [evF_dct]; array_get_dec
theorem wp_sub : wp (evF cl (.sub a i)) s Q E = wp (opd a (evF cl a)) s (fun x s => wp (evF cl i) s (fun y s => wp (res x) s (fun x s => optQ (subD x y.2) fun z => Q (false, z) s) E) E) E := by
  rw [evF_sub]; array_get_dec
theorem wp_slc : wp (evF cl (.slc a lo hi)) s Q E = wp (opd a (evF cl a)) s (fun x s => wp (partM lo (evF cl lo)) s (fun l s => wp (partM hi (evF cl hi)) s (fun h s => wp (res x) s (fun x s => optQ (sliceD x l h) fun z => Q z s) E) E) E) E := by
  rw [evF_slc]; array_get_dec
theorem wp_rev : wp (evF cl (.rev a)) s Q E = wp (opd a (evF cl a)) s (fun x s => wp (res x) s (fun x s => optQ (revD x) fun z => Q z s) E) E := by
  rw [evF_rev]; array_get_dec
theorem wp_call : wp (evF cl (.call f as)) s Q E = wp (evL cl as) s (fun ds s => wp (callM cl f ds) s Q E) E := by
  rw [evF_call]; array_get_dec
theorem wp_callv : wp (evF cl (.callv n as)) s Q E = wp (fnAt n) s (fun f s => wp (evL cl as) s (fun ds s => wp (callM cl f ds) s Q E) E) E := by
  rw [evF_callv]; array_get_dec
theorem wp_isi : wp (evF cl (.isi a tys)) s Q E = wp (opd a (evF cl a)) s (fun x s => wp (res x) s (fun x s => optQ (isTys x tys) fun z => Q (false, .bl z) s) E) E := by
  rw [evF_isi]; array_get_dec
theorem wp_bi : wp (evF cl (.bi bi as)) s Q E = wp (evO cl as) s (fun xs s => wp (ress xs) s (fun xs s => optQ (biop bi xs) fun z => Q z s) E) E := by
  rw [evF_bi]; array_get_dec
theorem wp_me : wp (evF cl (.me me d as)) s Q E = wp (opd d (evF cl d)) s (fun x s => wp (res x) s (fun d0 s => if (kdOf d0 == some (kdMe me)) = true then wp (evL cl as) s (fun ds s => wp (res x) s (fun x s => optQ (meop me x ds) fun z => Q z s) E) E else False) E) E := by
  rw [evF_me]; array_get_dec
theorem wp_mu : wp (evF cl (.mu mu e as)) s Q E = wp (opd e (evF cl e)) s (fun x s => wp (res x) s (fun d0 s => if (kdOf d0 == some (kdMu mu)) = true then wp (evL cl as) s (fun ds s => wp (res x) s (fun d s => optQ (muop mu d ds) fun z => wp (store x z.1) s (fun _ s => Q (false, z.2) s) E) E) E else False) E) E := by
  rw [evF_mu]; array_get_dec
theorem wp_muR : wp (evF cl (.muR mu e as)) s Q E = wp (opd e (evF cl e)) s (fun x s => wp (res x) s (fun d0 s => if (kdOf d0 == some (kdMu mu)) = true then wp (evO cl as) s (fun ds s => wp (res x) s (fun d s => wp (ress ds) s (fun ds s => optQ (muop mu d ds) fun z => wp (store x z.1) s (fun _ s => Q (false, z.2) s) E) E) E) E else False) E) E := by
  rw [evF_muR]; array_get_dec
theorem wp_box : wp (evF cl (.box a)) s Q E = wp (evF cl a) s (fun v s => wp (boxM v) s Q E) E := by
  rw [evF_box]; array_get_dec
theorem wp_ofit : wp (evF cl (.ofit bi it)) s Q E = wp (evI cl it) s (fun src s => optQ (fixedOf src) fun l => optQ (biop bi [.lst l]) fun z => Q z s) E := by
  rw [evF_ofit]; array_get_dec
theorem wp_heard : wp (evF cl (.heard tag hs a)) s Q E = wp (evF cl a) s (fun v s => Q (false, .tup [.str tag, v.2]) s) (fun e s => wp (evH cl hs e) s Q E) := by
  rw [evF_heard]; unfold wp
  cases h : evF cl a s <;> simp only [h]
theorem wp_evH_nil {x : Exc} : wp (evH cl .nil x) s Q E = False := rfl
theorem wp_evH_cons {x : Exc} : wp (evH cl (.consH n tag b) x) s Q E = if (x.cls == n) = true then Q (false, .tup (.str tag :: x.args)) s else wp (evH cl b x) s Q E := by
  rw [evH_cons]; split <;> rfl
/-! lists -/
theorem wp_evL_nil {Q : Post (List D)} : wp (evL cl .nil) s Q E = Q [] s := rfl
theorem wp_evL_cons {Q : Post (List D)} : wp (evL cl (.cons a b)) s Q E = wp (evF cl a) s (fun x s => wp (evL cl b) s (fun r s => Q (x.2 :: r) s) E) E := by
  rw [evL_cons]; array_get_dec
theorem wp_evL_consS {Q : Post (List D)} : wp (evL cl (.consS a b)) s Q E = wp (opd a (evF cl a)) s (fun x s => wp (res x) s (fun x s => optQ (itemsOf x) fun l => wp (evL cl b) s (fun r s => Q (l ++ r) s) E) E) E := by
  rw [evL_consS]; array_get_dec
theorem wp_evO_nil {Q : Post (List OV)} : wp (evO cl .nil) s Q E = Q [] s := rfl
theorem wp_evO_cons {Q : Post (List OV)} : wp (evO cl (.cons a b)) s Q E = wp (opd a (evF cl a)) s (fun x s => wp (evO cl b) s (fun r s => Q (x :: r) s) E) E := by
  rw [evO_cons]; array_get_dec
theorem wp_evK_nil {Q : Post (List (D × D))} : wp (evK cl .nil) s Q E = Q [] s := rfl
theorem wp_evK_cons {Q : Post (List (D × D))} : wp (evK cl (.consK k v b)) s Q E = wp (evF cl k) s (fun x s => wp (evF cl v) s (fun y s => if x.2.isKey1 = true then wp (evK cl b) s (fun r s => Q ((x.2, y.2) :: r) s) E else False) E) E := by
  rw [evK_cons]; array_get_dec
theorem wp_evK_upd {Q : Post (List (D × D))} : wp (evK cl (.consU a b)) s Q E = wp (opd a (evF cl a)) s (fun x s => wp (res x) s (fun x s => optQ (entriesOf x) fun l => wp (evK cl b) s (fun r s => Q (l ++ r) s) E) E) E := by
  rw [evK_upd]; array_get_dec
theorem wp_evC_nil {Q : Post Bool} : wp (evC cl .nil) s Q E = Q true s := rfl
theorem wp_evC_cons {Q : Post Bool} : wp (evC cl (.cons a b)) s Q E = wp (tst a (evF cl a)) s (fun t s => if t = true then wp (evC cl b) s Q E else Q false s) E := by
  rw [evC_cons]; array_get_dec
/-! what is walked -/
theorem wp_rng1 {Q : Post (List D ⊕ Nat)} : wp (evI cl (.rng1 a)) s Q E = wp (evF cl a) s (fun x s => optQ (rangeD (.int 0) x.2) fun l => Q (.inl l) s) E := by
  rw [evI_rng1]; array_get_dec
theorem wp_rng2 {Q : Post (List D ⊕ Nat)} : wp (evI cl (.rng2 a b)) s Q E = wp (evF cl a) s (fun x s => wp (evF cl b) s (fun y s => optQ (rangeD x.2 y.2) fun l => Q (.inl l) s) E) E := by
  rw [evI_rng2]; array_get_dec
theorem wp_enu {Q : Post (List D ⊕ Nat)} : wp (evI cl (.enu a)) s Q E = wp (evF cl a) s (fun x s => optQ (itemsOf x.2) fun l => Q (.inl ((List.range l.length).zipWith (fun (k : Nat) d => D.tup [.int (k : Int), d]) l)) s) E := by
  rw [evI_enu]; array_get_dec
theorem wp_zip {Q : Post (List D ⊕ Nat)} : wp (evI cl (.zip a b)) s Q E = wp (evF cl a) s (fun x s => wp (evF cl b) s (fun y s => optQ (itemsOf x.2) fun l => optQ (itemsOf y.2) fun m => Q (.inl (l.zipWith (fun d e => D.tup [d, e]) m)) s) E) E := by
  rw [evI_zip]; array_get_dec
theorem wp_items {Q : Post (List D ⊕ Nat)} : wp (evI cl (.items a)) s Q E = wp (evF cl a) s (fun x s => optQ (entriesOf x.2) fun l => Q (.inl (l.map fun p => D.tup [p.1, p.2])) s) E := by
  rw [evI_items]; array_get_dec
theorem wp_vals {Q : Post (List D ⊕ Nat)} : wp (evI cl (.vals a)) s Q E = wp (evF cl a) s (fun x s => optQ (entriesOf x.2) fun l => Q (.inl (l.map fun p => p.2)) s) E := by
  rw [evI_vals]; array_get_dec
theorem wp_itemsR {Q : Post (List D ⊕ Nat)} : wp (evI cl (.itemsR a)) s Q E = wp (opd a (evF cl a)) s (fun x s => wp (res x) s (fun x s => optQ (entriesOf x) fun l => Q (.inl (l.map fun p => D.tup [p.1, p.2])) s) E) E := by
  rw [evI_itemsR]; array_get_dec
theorem wp_valsR {Q : Post (List D ⊕ Nat)} : wp (evI cl (.valsR a)) s Q E = wp (opd a (evF cl a)) s (fun x s => wp (res x) s (fun x s => optQ (entriesOf x) fun l => Q (.inl (l.map fun p => p.2)) s) E) E := by
  rw [evI_valsR]; array_get_dec
theorem wp_itv {Q : Post (List D ⊕ Nat)} : wp (evI cl (.itv a)) s Q E = wp (evF cl a) s (fun x s => wp (srcOf x.2) s Q E) E := by
  rw [evI_itv]; array_get_dec
end
/-- a turn of a comprehension: its further clauses, its element -/
def turnG (cl : Call) (is : List Nat) (me : M (D × D)) (t cs g : C) : D → M (List (D × D)) := fun x => do
  clr is
  asgT t (false, x)
  let c ← evC cl cs
  if c then evG cl me g else pure []
def elL (cl : Call) (e : C) : M (D × D) := do let x ← evF cl e; pure (x.2, .non)
def elK (cl : Call) (k v : C) : M (D × D) := do let x ← evF cl k; let y ← evF cl v; lift (if x.2.isKey1 then some (x.2, y.2) else none)
/-- a turn of a loop -/
def turnB (cl : Call) (t b : C) : D → M (Option Flow) := fun x => do
  asgT t (false, x)
  let f ← evS cl b
  turn f
section
variable {α β : Type} {s : Sta} {fr : List Slot} {hp : List HObj} {E : EPost} {cl : Call} {o p : Op} {c c' : Cp} {a b d e t it cs g k v hs i lo hi as ts : C} {n f : Nat} {x : D} {l : List D} {is : List Nat} {m : M α} {Q : Post (Bool × D)}
theorem wp_clr {Q : Post Unit} : wp (clr is) ⟨fr, hp⟩ Q E = if (is.all fun i => (fr[i]?.getD .none).notOwn) = true then Q () ⟨clrFr fr is, hp⟩ else False := by
  unfold wp clr; dsimp only; by_cases h : (is.all fun i => (fr[i]?.getD .none).notOwn) = true <;> simp only [h, if_true, if_false, Bool.false_eq_true]
theorem wp_inner {Q : Post α} : wp (inner is m) ⟨fr, hp⟩ Q E = wp (clr is) ⟨fr, hp⟩ (fun _ s => wp m s (fun a s => wp (clr is) s (fun _ s => Q a ⟨putFr fr s.fr is, s.hp⟩) (fun _ _ => False)) (fun _ _ => False)) (fun _ _ => False) := by
  unfold inner wp
  dsimp only
  cases h : clr is ⟨fr, hp⟩ with
  | stk => simp only
  | exc e s => simp only
  | ok a s0 =>
    simp only
    cases h1 : m s0 with
    | stk => simp only
    | exc e s => simp only
    | ok a s1 =>
      simp only
      cases h2 : clr is s1 <;> simp only
theorem wp_turnG {Q : Post (List (D × D))} {me : M (D × D)} : wp (turnG cl is me t cs g x) s Q E = wp (clr is) s (fun _ s => wp (asgT t (false, x)) s (fun _ s => wp (evC cl cs) s (fun c s => if c = true then wp (evG cl me g) s Q E else Q [] s) E) E) E := by
  show wp (do
    clr is
    asgT t (false, x)
    let c ← evC cl cs
    if c then evG cl me g else pure []) s Q E = _
  array_get_dec
theorem wp_elL {Q : Post (D × D)} : wp (elL cl e) s Q E = wp (evF cl e) s (fun x s => Q (x.2, .non) s) E := by
  unfold elL; array_get_dec
theorem wp_elK {Q : Post (D × D)} : wp (elK cl k v) s Q E = wp (evF cl k) s (fun x s => wp (evF cl v) s (fun y s => if x.2.isKey1 = true then Q (x.2, y.2) s else False) E) E := by
  unfold elK; array_get_dec
theorem wp_comp : wp (evF cl (.comp is e t it cs g)) s Q E = wp (evI cl it) s (fun src s => wp (inner is (collS src (turnG cl is (elL cl e) t cs g))) s (fun acc s => if acc.length ≤ sizeLine then Q (true, .lst (acc.map (·.1))) s else False) E) E := by
  show wp (do
    let src ← evI cl it
    let acc ← inner is (collS src (turnG cl is (elL cl e) t cs g))
    lift (if acc.length ≤ sizeLine then some (true, .lst (acc.map (·.1))) else none)) s Q E = _
  array_get_dec
theorem wp_dcomp : wp (evF cl (.dcomp is k v t it cs g)) s Q E = wp (evI cl it) s (fun src s => wp (inner is (collS src (turnG cl is (elK cl k v) t cs g))) s (fun acc s => if acc.length ≤ sizeLine then Q (true, .dct (merge [] acc)) s else False) E) E := by
  show wp (do
    let src ← evI cl it
    let acc ← inner is (collS src (turnG cl is (elK cl k v) t cs g))
    lift (if acc.length ≤ sizeLine then some (true, .dct (merge [] acc)) else none)) s Q E = _
  array_get_dec
theorem wp_evG_nil {Q : Post (List (D × D))} {me : M (D × D)} : wp (evG cl me .nil) s Q E = wp me s (fun x s => Q [x] s) E := by
  rw [evG_nil]; array_get_dec
theorem wp_evG_gen {Q : Post (List (D × D))} {me : M (D × D)} : wp (evG cl me (.gen is t it cs g)) s Q E = wp (evI cl it) s (fun src s => wp (collS src (turnG cl is me t cs g)) s Q E) E := by
  show wp (do
    let src ← evI cl it
    collS src (turnG cl is me t cs g)) s Q E = _
  array_get_dec
theorem wp_collS_inl {Q : Post (List α)} {f : D → M (List α)} : wp (collS (.inl l) f) s Q E = wp (coll f l) s Q E := rfl
theorem wp_collS_inr {Q : Post (List α)} {f : D → M (List α)} : wp (collS (.inr n) f) s Q E = wp (collD n f LOOPS 0) s Q E := rfl
theorem wp_coll_nil {Q : Post (List α)} {f : D → M (List α)} : wp (coll f []) s Q E = Q [] s := rfl
theorem wp_coll_cons {Q : Post (List α)} {f : D → M (List α)} : wp (coll f (x :: l)) s Q E = wp (f x) s (fun a s => wp (coll f l) s (fun b s => Q (a ++ b) s) E) E := by
  show wp (do let a ← f x; let b ← coll f l; pure (a ++ b)) s Q E = _
  array_get_dec
theorem wp_over_inl {Q : Post (Option β)} {f : D → M (Option β)} : wp (over (.inl l) f) s Q E = wp (walk f l) s Q E := rfl
theorem wp_over_inr {Q : Post (Option β)} {f : D → M (Option β)} : wp (over (.inr n) f) s Q E = wp (walkD n f LOOPS 0) s Q E := rfl
theorem wp_walk_nil {Q : Post (Option β)} {f : D → M (Option β)} : wp (walk f []) s Q E = Q none s := rfl
theorem wp_walk_cons {Q : Post (Option β)} {f : D → M (Option β)} : wp (walk f (x :: l)) s Q E = wp (f x) s (fun o s => oo o (fun y => Q (some y) s) (wp (walk f l) s Q E)) E := by
  show wp (do match ← f x with | some y => pure (some y) | none => walk f l) s Q E = _
  rw [wp_bind]; refine wp_ext fun o s => ?_; cases o <;> rfl
/-- an invariant of a walk -/
theorem wp_walk {Q : Post (Option β)} {f : D → M (Option β)} (I : List D → Sta → Prop) (h0 : I l s) (h1 : ∀ x r s, I (x :: r) s → wp (f x) s (fun o s => oo o (fun y => Q (some y) s) (I r s)) E) (h2 : ∀ s, I [] s → Q none s) : wp (walk f l) s Q E := by
  induction l generalizing s with
  | nil => exact h2 s h0
  | cons x r ih =>
    rw [wp_walk_cons]
    refine wp_mono (h1 x r s h0) (fun o s' h => ?_) fun _ _ h => h
    cases o with
    | some y => exact h
    | none => exact ih h
theorem wp_coll {Q : Post (List α)} {f : D → M (List α)} (I : List α → List D → Sta → Prop) (h0 : I [] l s) (h1 : ∀ acc x r s, I acc (x :: r) s → wp (f x) s (fun a s => I (acc ++ a) r s) E) (h2 : ∀ acc s, I acc [] s → Q acc s) : wp (coll f l) s Q E := by
  suffices h : ∀ acc, I acc l s → wp (coll f l) s (fun b s => Q (acc ++ b) s) E from by simpa using h [] h0
  clear h0
  intro acc h0
  induction l generalizing s acc with
  | nil => rw [wp_coll_nil]; rw [List.append_nil]; exact h2 acc s h0
  | cons x r ih =>
    rw [wp_coll_cons]
    refine wp_mono (h1 acc x r s h0) (fun a s' h => ?_) fun _ _ h => h
    refine wp_mono (ih _ h) (fun b s h => ?_) fun _ _ h => h
    rw [← List.append_assoc]; exact h
/-- all turns yield what a plain function tells -/
theorem wp_coll_map {Q : Post (List α)} {f : D → M (List α)} (I : Sta → Prop) (g : D → List α) (h0 : I s) (h1 : ∀ x, x ∈ l → ∀ s, I s → wp (f x) s (fun a s => a = g x ∧ I s) E) (h2 : ∀ s, I s → Q (l.flatMap g) s) : wp (coll f l) s Q E := by
  induction l generalizing s Q with
  | nil => exact h2 s h0
  | cons x r ih =>
    rw [wp_coll_cons]
    refine wp_mono (h1 x (by simp) s h0) (fun a s' h => ?_) fun _ _ h => h
    obtain ⟨rfl, h⟩ := h
    refine ih h (fun y hy => h1 y (by simp [hy])) fun s hs => ?_
    have := h2 s hs
    rwa [List.flatMap_cons] at this
theorem wp_walk_all {Q : Post (Option β)} {f : D → M (Option β)} (I : Sta → Prop) (h0 : I s) (h1 : ∀ x, x ∈ l → ∀ s, I s → wp (f x) s (fun o s => oo o (fun y => Q (some y) s) (I s)) E) (h2 : ∀ s, I s → Q none s) : wp (walk f l) s Q E := by
  induction l generalizing s with
  | nil => exact h2 s h0
  | cons x r ih =>
    rw [wp_walk_cons]
    refine wp_mono (h1 x (by simp) s h0) (fun o s' h => ?_) fun _ _ h => h
    cases o with
    | some y => exact h
    | none => exact ih h fun y hy => h1 y (by simp [hy])
theorem wp_turnB {Q : Post (Option Flow)} : wp (turnB cl t b x) s Q E = wp (asgT t (false, x)) s (fun _ s => wp (evS cl b) s (fun f s => turnQ f (Q none s) (fun y => Q (some y) s)) E) E := by
  show wp (do
    asgT t (false, x)
    let f ← evS cl b
    turn f) s Q E = _
  rw [wp_bind]; refine wp_ext fun _ s => ?_; rw [wp_bind]; refine wp_ext fun f s => ?_; cases f <;> rfl
/-! assignments -/
theorem wp_asgVar_own {Q : Post Unit} {d : D} : wp (asgVar n (true, d)) ⟨fr, hp⟩ Q E = (if n < fr.length then Q () ⟨fr.set n (.own d), hp⟩ else False) := wp_setSlot
theorem wp_asgVar_val {Q : Post Unit} {d : D} : wp (asgVar n (false, d)) ⟨fr, hp⟩ Q E = (if n < fr.length then Q () ⟨fr.set n (.val d), hp⟩ else False) := wp_setSlot
theorem wp_asgT_var {Q : Post Unit} {v : Bool × D} : wp (asgT (.var n) v) s Q E = wp (asgVar n v) s Q E := rfl
theorem wp_asgT_tup {Q : Post Unit} {v : Bool × D} : wp (asgT (.tup ts) v) s Q E = optQ (tnames ts) (fun is => optQ (unpack v.2) (fun l => wp (asgVars is l) s Q E)) := by
  show wp (do let is ← lift (tnames ts); let l ← lift (unpack v.2); asgVars is l) s Q E = _
  array_get_dec
theorem wp_asgVars_nil {Q : Post Unit} : wp (asgVars [] []) s Q E = Q () s := rfl
theorem wp_asgVars_cons {Q : Post Unit} : wp (asgVars (n :: is) (x :: l)) ⟨fr, hp⟩ Q E = if n < fr.length then wp (asgVars is l) ⟨fr.set n (.val x), hp⟩ Q E else False := by
  show wp (do setSlot n (.val x); asgVars is l) ⟨fr, hp⟩ Q E = _
  rw [wp_bind, wp_setSlot]
theorem wp_asg1_var {Q : Post Unit} {v : Bool × D} : wp (asg1 cl (.var n) v) s Q E = wp (asgVar n v) s Q E := rfl
theorem wp_asg1_tup {Q : Post Unit} {v : Bool × D} : wp (asg1 cl (.tup ts) v) s Q E = wp (asgT (.tup ts) v) s Q E := rfl
theorem wp_asg1_sub {Q : Post Unit} {v : Bool × D} : wp (asg1 cl (.sub d i) v) s Q E = wp (opd d (evF cl d)) s (fun x s => wp (evF cl i) s (fun i s => wp (res x) s (fun d s => optQ (setop d i.2 v.2) fun z => wp (store x z) s Q E) E) E) E := by
  rw [asg1_sub]; array_get_dec
theorem wp_evFs_nil {Q : Post (List (Bool × D))} : wp (evFs cl .nil) s Q E = Q [] s := rfl
theorem wp_evFs_cons {Q : Post (List (Bool × D))} : wp (evFs cl (.cons a b)) s Q E = wp (evF cl a) s (fun x s => wp (evFs cl b) s (fun r s => Q (x :: r) s) E) E := by
  rw [evFs_cons]; array_get_dec
theorem wp_asgs_nil {Q : Post Unit} : wp (asgs cl .nil []) s Q E = Q () s := rfl
theorem wp_asgs_cons {Q : Post Unit} {v : Bool × D} {r : List (Bool × D)} : wp (asgs cl (.cons t b) (v :: r)) s Q E = wp (asg1 cl t v) s (fun _ s => wp (asgs cl b r) s Q E) E := by
  show wp (do asg1 cl t v; asgs cl b r) s Q E = _
  rw [wp_bind]
/-! statements -/
section
variable {Q : Post Flow}
theorem wp_pass : wp (evS cl .pass) s Q E = Q .nx s := rfl
theorem wp_seq : wp (evS cl (.seq a b)) s Q E = wp (evS cl a) s (fun f s => flQ f (wp (evS cl b) s Q E) (fun f => Q f s)) E := by
  rw [evS_seq, wp_bind]; refine wp_ext fun f s => ?_; cases f <;> rfl
theorem wp_expr : wp (evS cl (.expr a)) s Q E = wp (evF cl a) s (fun _ s => Q .nx s) E := by
  rw [evS_expr]; array_get_dec
theorem wp_asg : wp (evS cl (.asg t a)) s Q E = wp (evF cl a) s (fun v s => wp (asg1 cl t v) s (fun _ s => Q .nx s) E) E := by
  rw [evS_asg]; array_get_dec
theorem wp_asgTS : wp (evS cl (.asgT ts as)) s Q E = wp (evFs cl as) s (fun v s => wp (asgs cl ts v) s (fun _ s => Q .nx s) E) E := by
  rw [evS_asgT]; array_get_dec
theorem wp_augV : wp (evS cl (.augV n o a)) s Q E = wp (evF cl (.var n)) s (fun x s => wp (evF cl a) s (fun y s => optQ (augD o x.2 y.2) fun z => wp (setSlot n (.val z)) s (fun _ s => Q .nx s) E) E) E := by
  rw [evS_augV]; array_get_dec
theorem wp_augS : wp (evS cl (.augS d i p a)) s Q E = wp (opd d (evF cl d)) s (fun x s => wp (evF cl i) s (fun i s => wp (res x) s (fun d s => optQ (subD d i.2) fun u => wp (evF cl a) s (fun y s => optQ (augD p u y.2) fun z => wp (res x) s (fun d s => optQ (setop d i.2 z) fun d' => wp (store x d') s (fun _ s => Q .nx s) E) E) E) E) E) E := by
  rw [evS_augS]; array_get_dec
theorem wp_retV : wp (evS cl (.retV n)) ⟨fr, hp⟩ Q E = slotQ fr[n]? (fun d => Q (.ret false d) ⟨fr, hp⟩) (fun d => Q (.ret true d) ⟨fr, hp⟩) := by
  rw [evS_retV]; unfold wp slotQ; dsimp only; generalize fr[n]? = o; rcases o with _ | ⟨_ | _ | _⟩ <;> rfl
theorem wp_ret : wp (evS cl (.ret a)) s Q E = wp (evF cl a) s (fun v s => Q (.ret v.1 v.2) s) E := by
  rw [evS_ret]; array_get_dec
theorem wp_retN : wp (evS cl .retN) s Q E = Q (.ret false .non) s := rfl
theorem wp_ifs : wp (evS cl (.ifs d a b)) s Q E = wp (tst d (evF cl d)) s (fun t s => if t = true then wp (evS cl a) s Q E else wp (evS cl b) s Q E) E := by
  rw [evS_ifs]; array_get_dec
theorem wp_for : wp (evS cl (.for_ t it b)) s Q E = wp (evI cl it) s (fun src s => wp (over src (turnB cl t b)) s (fun r s => Q (r.getD .nx) s) E) E := by
  show wp (do
    let src ← evI cl it
    let r ← over src (turnB cl t b)
    pure (r.getD .nx)) s Q E = _
  array_get_dec
theorem wp_brk : wp (evS cl .brk) s Q E = Q .brk s := rfl
theorem wp_cont : wp (evS cl .cont) s Q E = Q .cont s := rfl
theorem wp_raise : wp (evS cl (.raise n as)) s Q E = wp (evL cl as) s (fun ds s => E ⟨n, ds⟩ s) E := by
  exact wp_bind (evL cl as) (fun ds => (fun s => R.exc ⟨n, ds⟩ s : M Flow))
end
end
/-! calls -/
section
variable {T : Nat → Option Fn} {k f : Nat} {fn : Fn} {ds : List D} {hp : List HObj} {Q : Bool → D → List HObj → Prop} {E : Exc → List HObj → Prop}
theorem wpC_run (hT : T f = some fn) (h : ds.length = fn.np) : wpC (callN T (k + 1) f ds hp) Q E = wp (evS (callN T k) fn.body) ⟨ds.map .val ++ List.replicate (fn.ns - fn.np) .none, hp⟩ (fun fl s => retQ fl (Q false .non s.hp) (fun b d => Q b d s.hp)) (fun e s => E e s.hp) := by
  have : callN T (k + 1) f ds hp = runFn (callN T k) fn ds hp := by
    show (match T f with | some fn => runFn (callN T k) fn ds hp | none => .stk) = _
    rw [hT]
  rw [this]
  unfold runFn wpC wp
  rw [if_pos h]
  cases evS (callN T k) fn.body ⟨ds.map .val ++ List.replicate (fn.ns - fn.np) .none, hp⟩ with
  | stk => rfl
  | exc e s => rfl
  | ok fl s => cases fl <;> rfl
theorem wpC_run' {np ns : Nat} {b : C} (hT : T f = some ⟨np, ns, b⟩) (h : ds.length = np) : wpC (callN T (k + 1) f ds hp) Q E = wp (evS (callN T k) b) ⟨ds.map .val ++ List.replicate (ns - np) .none, hp⟩ (fun fl s => retQ fl (Q false .non s.hp) (fun b d => Q b d s.hp)) (fun e s => E e s.hp) := wpC_run hT h
theorem wpC_true {r : RC} (h : wpC r (fun _ d _ => d = .bl true) (fun _ _ => False)) : ∃ b hp', r = .ok b (.bl true) hp' := by
  cases r with
  | stk => exact h.elim
  | exc _ _ => exact h.elim
  | ok b d hp => exact ⟨b, hp, by rw [show d = .bl true from h]⟩
theorem wpC_eq {r : RC} {b : Bool} {d : D} {hp : List HObj} : wpC r (fun b' d' hp' => b' = b ∧ d' = d ∧ hp' = hp) (fun _ _ => False) ↔ r = .ok b d hp := by
  cases r <;> simp [wpC]
theorem wpC_exq {r : RC} {e : Exc} {hp : List HObj} : wpC r (fun _ _ _ => False) (fun e' hp' => e' = e ∧ hp' = hp) ↔ r = .exc e hp := by
  cases r <;> simp [wpC]
end
end Fw
set_option linter.all false
set_option Elab.async false
/-! What the values of the core do, for simp; the defs that every law has. -/
namespace Fw
open PySem (Str PyData sizeLine)
/-! lists, numbers -/
section
variable {α β : Type} (a b : α) (l r : List α) (n : Nat) (f : α → β)
theorem x_map_cons : (a :: l).map f = f a :: l.map f := rfl
theorem x_map_nil : ([] : List α).map f = [] := rfl
theorem x_cons_app : (a :: l) ++ r = a :: (l ++ r) := rfl
theorem x_nil_app : ([] : List α) ++ r = r := rfl
theorem x_app_nil : l ++ [] = l := List.append_nil l
theorem x_rep_succ : List.replicate (n + 1) a = a :: List.replicate n a := rfl
theorem x_rep_zero : List.replicate 0 a = [] := rfl
theorem x_get_zero : (a :: l)[0]? = some a := rfl
theorem x_get_succ : (a :: l)[n + 1]? = l[n]? := rfl
theorem x_set_zero : (a :: l).set 0 b = b :: l := rfl
theorem x_set_succ : (a :: l).set (n + 1) b = a :: l.set n b := rfl
theorem x_len_nil : ([] : List α).length = 0 := rfl
theorem x_len_cons : (a :: l).length = l.length + 1 := rfl
theorem x_omap_some : (some a).map f = some (f a) := rfl
theorem x_omap_none : (none : Option α).map f = none := rfl
theorem x_obind_some (g : α → Option β) : (some a).bind g = g a := rfl
theorem x_obind_none (g : α → Option β) : (none : Option α).bind g = none := rfl
theorem x_getD_some : (some a).getD b = a := rfl
theorem x_getD_none : (none : Option α).getD b = b := rfl
theorem x_omap_ite (c : Prop) [Decidable c] (x y : Option α) : (if c then x else y).map f = if c then x.map f else y.map f := by split <;> rfl
theorem x_obind_ite (c : Prop) [Decidable c] (x y : Option α) (g : α → Option β) : (if c then x else y).bind g = if c then x.bind g else y.bind g := by split <;> rfl
theorem x_flat_nil : ([] : List (List α)).flatten = [] := rfl
theorem x_flat_cons (l : List α) (r : List (List α)) : (l :: r).flatten = l ++ r.flatten := rfl
theorem x_all_nil (p : α → Bool) : [].all p = true := rfl
theorem x_all_cons (p : α → Bool) : (a :: l).all p = (p a && l.all p) := rfl
theorem x_any_nil (p : α → Bool) : [].any p = false := rfl
theorem x_any_cons (p : α → Bool) : (a :: l).any p = (p a || l.any p) := rfl
end
theorem x_size : sizeLine = 16777216 := rfl
theorem x_beq_true {α : Type} [BEq α] [LawfulBEq α] (a b : α) : ((a == b) = true) = (a = b) := by simp
theorem x_bne_true {α : Type} [BEq α] [LawfulBEq α] (a b : α) : ((a != b) = true) = ¬ (a = b) := by simp
theorem x_dec_true (p : Prop) [Decidable p] : (decide p = true) = p := by simp
theorem x_not_true (b : Bool) : ((!b) = true) = (b = false) := by simp
theorem x_tt : (true = true) = True := eq_self true
theorem x_ft : (false = true) = False := by simp
theorem x_tf : (true = false) = False := by simp
theorem x_ff : (false = false) = True := by simp
theorem x_nt : (!true) = false := rfl
theorem x_nf : (!false) = true := rfl
theorem x_at (b : Bool) : (true && b) = b := by simp
theorem x_af (b : Bool) : (false && b) = false := by simp
theorem x_ta (b : Bool) : (b && true) = b := by simp
theorem x_ot (b : Bool) : (true || b) = true := by simp
theorem x_of (b : Bool) : (false || b) = b := by simp
theorem x_if_true {α : Sort _} (a b : α) : (if True then a else b) = a := if_pos trivial
theorem x_if_false {α : Sort _} (a b : α) : (if False then a else b) = b := if_neg id
theorem x_ixOf (n m : Nat) (h : m < n) : ixOf n (m : Int) = some m := by
  unfold ixOf
  rw [if_pos (by exact Int.natCast_nonneg m), if_pos (by exact Int.ofNat_lt.mpr h)]; rfl
theorem x_ixOf_0 (n : Nat) : ixOf (n + 1) 0 = some 0 := x_ixOf (n + 1) 0 (by omega)
theorem x_ixOf_1 (n : Nat) : ixOf (n + 2) 1 = some 1 := x_ixOf (n + 2) 1 (by omega)
theorem x_ixOf_2 (n : Nat) : ixOf (n + 3) 2 = some 2 := x_ixOf (n + 3) 2 (by omega)
theorem x_ixOf_3 (n : Nat) : ixOf (n + 4) 3 = some 3 := x_ixOf (n + 4) 3 (by omega)
theorem x_ixOf_4 (n : Nat) : ixOf (n + 5) 4 = some 4 := x_ixOf (n + 5) 4 (by omega)
theorem x_ixOf_5 (n : Nat) : ixOf (n + 6) 5 = some 5 := x_ixOf (n + 6) 5 (by omega)
theorem x_ixOf_6 (n : Nat) : ixOf (n + 7) 6 = some 6 := x_ixOf (n + 7) 6 (by omega)
theorem x_ixOf_7 (n : Nat) : ixOf (n + 8) 7 = some 7 := x_ixOf (n + 8) 7 (by omega)
theorem x_ixOf_8 (n : Nat) : ixOf (n + 9) 8 = some 8 := x_ixOf (n + 9) 8 (by omega)
theorem x_ixOf_9 (n : Nat) : ixOf (n + 10) 9 = some 9 := x_ixOf (n + 10) 9 (by omega)
theorem x_ixOf_10 (n : Nat) : ixOf (n + 11) 10 = some 10 := x_ixOf (n + 11) 10 (by omega)
theorem x_ixOf_11 (n : Nat) : ixOf (n + 12) 11 = some 11 := x_ixOf (n + 12) 11 (by omega)
theorem x_pos_succ (n : Nat) : (0 < n + 1) = True := eq_true (Nat.succ_pos n)
theorem x_max_0 (n : Nat) : max n 0 = n := Nat.max_zero n
theorem x_0_max (n : Nat) : max 0 n = n := Nat.zero_max n
theorem x_max_self (n : Nat) : max n n = n := Nat.max_self n
theorem x_10 : Int.natAbs 10 = 10 := rfl
theorem clrFr_nil (fr : List Slot) : clrFr fr [] = fr := rfl
theorem clrFr_cons (fr : List Slot) (i : Nat) (is : List Nat) : clrFr fr (i :: is) = (clrFr fr is).set i .none := rfl
theorem putFr_nil (old fr : List Slot) : putFr old fr [] = fr := rfl
theorem putFr_cons (old fr : List Slot) (i : Nat) (is : List Nat) : putFr old fr (i :: is) = (putFr old fr is).set i (old[i]?.getD .none) := rfl
theorem notOwn_none : Slot.none.notOwn = true := rfl
theorem notOwn_val (d : D) : (Slot.val d).notOwn = true := rfl
theorem notOwn_own (d : D) : (Slot.own d).notOwn = false := rfl
theorem isKey1_int (i : Int) : (D.int i).isKey1 = true := rfl
theorem isKey1_str (i : Str) : (D.str i).isKey1 = true := rfl
theorem isKey1_tup (i : List D) : (D.tup i).isKey1 = false := rfl
theorem kdOf_non : kdOf .non = some .non := rfl
theorem kdOf_int (i : Int) : kdOf (.int i) = some .int := rfl
theorem kdOf_bl (i : Bool) : kdOf (.bl i) = some .bool := rfl
theorem kdOf_str (i : Str) : kdOf (.str i) = some .str := rfl
theorem kdOf_tup (i : List D) : kdOf (.tup i) = some .tuple := rfl
theorem kdOf_kt (i : List D) : kdOf (.kt i) = some .tuple := rfl
theorem kdOf_lst (i : List D) : kdOf (.lst i) = some .list := rfl
theorem kdOf_dct (i : List (D × D)) : kdOf (.dct i) = some .dict := rfl
/-! texts -/
theorem strOk_S (s : String) : PyData.strOk (S s) = true := by
  unfold S PyData.strOk
  rw [PySem.Str.ofString_eq_toList]
  simp only [List.all_toArray, List.all_map, List.all_eq_true, Function.comp]
  intro c _
  have h := c.valid
  simp only [UInt32.isValidChar, Nat.isValidChar] at h
  have : c.toNat = c.val.toNat := rfl
  simp only [decide_eq_true_eq]
  omega
theorem S_inj {a b : String} (h : S a = S b) : a = b := by
  unfold S at h
  rw [PySem.Str.ofString_eq_toList, PySem.Str.ofString_eq_toList] at h
  injection h with h
  have h : a.toList.map Char.toNat = b.toList.map Char.toNat := by simpa using h
  have inj : Function.Injective Char.toNat := fun x y e => Char.ext (UInt32.toNat_inj.mp e)
  have h2 : a.toList = b.toList := by
    generalize a.toList = la at h
    generalize b.toList = lb at h
    induction la generalizing lb with
    | nil => cases lb with
      | nil => rfl
      | cons _ _ => cases h
    | cons x r ih => cases lb with
      | nil => cases h
      | cons y q =>
        simp only [List.map_cons, List.cons.injEq] at h
        rw [inj h.1, ih q h.2]
  exact String.ext h2
theorem S_eq (a b : String) : (S a = S b) = (a = b) := propext ⟨S_inj, fun h => by rw [h]⟩
theorem S_beq (a b : String) : (S a == S b) = (a == b) := by
  by_cases h : a = b
  · simp [h]
  · have : S a ≠ S b := fun q => h (S_inj q)
    rw [beq_eq_false_iff_ne.mpr this, beq_eq_false_iff_ne.mpr h]
theorem S_length (s : String) : (S s).length = s.length := by
  unfold S PySem.Str.length
  rw [PySem.Str.ofString_eq_toList]
  show ((s.toList.map Char.toNat).toArray).size = _
  rw [List.size_toArray, List.length_map]
  exact String.length_toList
/-! equality -/
theorem shaped_non : PySem.SeqAt.shaped .none = true := by decide
theorem shaped_bool (b : Bool) : PySem.SeqAt.shaped (.bool b) = true := by cases b <;> decide
theorem shaped_int (i : Int) : PySem.SeqAt.shaped (.int i) = true := by
  simp [PySem.SeqAt.shaped, PyData.canLay0, PyData.depth]
theorem shaped_str (x : Str) : PySem.SeqAt.shaped (.str x) = PyData.strOk x := by
  simp [PySem.SeqAt.shaped, PyData.canLay0, PyData.depth]
theorem eqD_int (i j : Int) : eqD (.int i) (.int j) = some (i == j) := by
  unfold eqD eqS; simp only [D.py, shaped_int, Bool.and_self, if_true, PyData.eqv]
theorem eqD_bl (i j : Bool) : eqD (.bl i) (.bl j) = some (i == j) := by
  unfold eqD eqS; simp only [D.py, shaped_bool, Bool.and_self, if_true, PyData.eqv]
theorem eqD_str (i j : Str) : eqD (.str i) (.str j) = some (i == j) := rfl
theorem kdIs_non_int : kdIs .non .int = false := rfl
theorem kdIs_non_bool : kdIs .non .bool = false := rfl
theorem kdIs_non_str : kdIs .non .str = false := rfl
theorem kdIs_non_tuple : kdIs .non .tuple = false := rfl
theorem kdIs_non_list : kdIs .non .list = false := rfl
theorem kdIs_non_dict : kdIs .non .dict = false := rfl
theorem kdIs_int_int : kdIs .int .int = true := rfl
theorem kdIs_int_bool : kdIs .int .bool = false := rfl
theorem kdIs_int_str : kdIs .int .str = false := rfl
theorem kdIs_int_tuple : kdIs .int .tuple = false := rfl
theorem kdIs_int_list : kdIs .int .list = false := rfl
theorem kdIs_int_dict : kdIs .int .dict = false := rfl
theorem kdIs_bool_int : kdIs .bool .int = true := rfl
theorem kdIs_bool_bool : kdIs .bool .bool = true := rfl
theorem kdIs_bool_str : kdIs .bool .str = false := rfl
theorem kdIs_bool_tuple : kdIs .bool .tuple = false := rfl
theorem kdIs_bool_list : kdIs .bool .list = false := rfl
theorem kdIs_bool_dict : kdIs .bool .dict = false := rfl
theorem kdIs_str_int : kdIs .str .int = false := rfl
theorem kdIs_str_bool : kdIs .str .bool = false := rfl
theorem kdIs_str_str : kdIs .str .str = true := rfl
theorem kdIs_str_tuple : kdIs .str .tuple = false := rfl
theorem kdIs_str_list : kdIs .str .list = false := rfl
theorem kdIs_str_dict : kdIs .str .dict = false := rfl
theorem kdIs_tuple_int : kdIs .tuple .int = false := rfl
theorem kdIs_tuple_bool : kdIs .tuple .bool = false := rfl
theorem kdIs_tuple_str : kdIs .tuple .str = false := rfl
theorem kdIs_tuple_tuple : kdIs .tuple .tuple = true := rfl
theorem kdIs_tuple_list : kdIs .tuple .list = false := rfl
theorem kdIs_tuple_dict : kdIs .tuple .dict = false := rfl
theorem kdIs_list_int : kdIs .list .int = false := rfl
theorem kdIs_list_bool : kdIs .list .bool = false := rfl
theorem kdIs_list_str : kdIs .list .str = false := rfl
theorem kdIs_list_tuple : kdIs .list .tuple = false := rfl
theorem kdIs_list_list : kdIs .list .list = true := rfl
theorem kdIs_list_dict : kdIs .list .dict = false := rfl
theorem kdIs_dict_int : kdIs .dict .int = false := rfl
theorem kdIs_dict_bool : kdIs .dict .bool = false := rfl
theorem kdIs_dict_str : kdIs .dict .str = false := rfl
theorem kdIs_dict_tuple : kdIs .dict .tuple = false := rfl
theorem kdIs_dict_list : kdIs .dict .list = false := rfl
theorem kdIs_dict_dict : kdIs .dict .dict = true := rfl
theorem look_nil (k : D) : look k [] = none := rfl
theorem look_cons (k a v : D) (r : List (D × D)) : look k ((a, v) :: r) = if D.beq a k = true then some v else look k r := rfl
theorem put_nil (k v : D) : put k v [] = [(k, v)] := rfl
theorem put_cons (k v a u : D) (r : List (D × D)) : put k v ((a, u) :: r) = if D.beq a k = true then (a, v) :: r else (a, u) :: put k v r := rfl
theorem merge_nil (l : List (D × D)) : merge l [] = l := rfl
theorem merge_cons (l : List (D × D)) (k v : D) (r : List (D × D)) : merge l ((k, v) :: r) = merge (put k v l) r := rfl
theorem fits_def (k : D) (l : List (D × D)) : fits k l = if k.isKey1 = true then l.all (fun p => p.1.isKey1) else k.isKey && l.all fun p => !p.1.isKey1 := rfl
theorem beq_int (i j : Int) : D.beq (.int i) (.int j) = (i == j) := by simp only [D.beq]
theorem beq_str (i j : Str) : D.beq (.str i) (.str j) = (i == j) := by simp only [D.beq]
theorem beq_tup (i j : List D) : D.beq (.tup i) (.tup j) = D.beqL i j := by simp only [D.beq]
theorem beqL_nil : D.beqL [] [] = true := by simp only [D.beqL]
theorem beqL_cons (a b : D) (l r : List D) : D.beqL (a :: l) (b :: r) = (D.beq a b && D.beqL l r) := by simp only [D.beqL]
theorem beq_int_str (i : Int) (j : Str) : D.beq (.int i) (.str j) = false := by simp only [D.beq]
theorem beq_str_int (i : Int) (j : Str) : D.beq (.str j) (.int i) = false := by simp only [D.beq]
theorem pairsOf_nil : pairsOf [] = some [] := rfl
theorem pairsOf_cons (a b : D) (r : List D) : pairsOf (.tup [a, b] :: r) = (pairsOf r).map ((a, b) :: ·) := rfl
theorem boolsOf_nil : boolsOf [] = some [] := rfl
theorem boolsOf_cons (b : Bool) (r : List D) : boolsOf (.bl b :: r) = (boolsOf r).map (b :: ·) := rfl
theorem tnames_nil : tnames .nil = some [] := rfl
theorem tnames_cons (i : Nat) (r : C) : tnames (.cons (.var i) r) = (tnames r).map (i :: ·) := rfl
theorem shaped_list {ps : List PyData} : PySem.SeqAt.shaped (.list ps) = (PyData.canLayAll0 ps && decide (PyData.depthAll ps + 1 ≤ 64)) := by
  simp only [PySem.SeqAt.shaped, PyData.canLay0, PyData.depth]
  rfl
theorem memD_leaf {x : D} {px : PyData} (hx : x.py = some px) {a : D} {pa : PyData} (ha : a.py = some pa) (hl : PyData.canLay0 pa = true) (hd : pa.depth = 0) (l : List D) : memD x (a :: l) = (memD x l).map fun b => PyData.eqv pa px || b := by
  have e : D.pyL (a :: l) = match D.pyL l with | some y => some (pa :: y) | none => none := by
    simp only [D.pyL, ha]
    cases D.pyL l <;> rfl
  unfold memD
  rw [hx, e]
  cases D.pyL l with
  | none => rfl
  | some ps =>
    simp only
    have : PySem.SeqAt.shaped (.list (pa :: ps)) = PySem.SeqAt.shaped (.list ps) := by
      rw [shaped_list, shaped_list]
      simp only [PyData.canLayAll0, PyData.depthAll, hl, hd, Bool.true_and, Nat.zero_max]
    rw [this]
    cases PySem.SeqAt.shaped px && PySem.SeqAt.shaped (.list ps) with
    | false => rfl
    | true => rfl
theorem memD_nil {x : D} {px : PyData} (hx : x.py = some px) (h : PySem.SeqAt.shaped px = true) : memD x [] = some false := by
  unfold memD
  rw [hx]
  simp only [D.pyL, h, show PySem.SeqAt.shaped (.list []) = true by decide, Bool.and_self, if_true, List.any_nil]
theorem memD_nil_str (x : String) : memD (.str (S x)) [] = some false := memD_nil (px := .str (S x)) rfl (by rw [shaped_str, strOk_S])
theorem memD_str_str (x : String) (a : String) (l : List D) : memD (.str (S x)) (.str (S a) :: l) = (memD (.str (S x)) l).map fun b => (a == x) || b := by rw [memD_leaf (px := .str (S x)) (pa := .str (S a)) rfl rfl (by simp only [PyData.canLay0, strOk_S]) (by simp only [PyData.depth])]; simp only [PyData.eqv, S_beq]
theorem memD_str_int (x : String) (a : Int) (l : List D) : memD (.str (S x)) (.int a :: l) = (memD (.str (S x)) l).map fun b => false || b := by rw [memD_leaf (px := .str (S x)) (pa := .int a) rfl rfl (by simp only [PyData.canLay0, strOk_S]) (by simp only [PyData.depth])]; simp only [PyData.eqv]
theorem memD_str_non (x : String)  (l : List D) : memD (.str (S x)) (.non :: l) = (memD (.str (S x)) l).map fun b => false || b := by rw [memD_leaf (px := .str (S x)) (pa := .none) rfl rfl (by simp only [PyData.canLay0, strOk_S]) (by simp only [PyData.depth])]; simp only [PyData.eqv]
theorem memD_str_bl (x : String) (a : Bool) (l : List D) : memD (.str (S x)) (.bl a :: l) = (memD (.str (S x)) l).map fun b => false || b := by rw [memD_leaf (px := .str (S x)) (pa := .bool a) rfl rfl (by simp only [PyData.canLay0, strOk_S]) (by simp only [PyData.depth])]; simp only [PyData.eqv]
theorem memD_nil_int (x : Int) : memD (.int x) [] = some false := memD_nil (px := .int x) rfl (shaped_int x)
theorem memD_int_str (x : Int) (a : String) (l : List D) : memD (.int x) (.str (S a) :: l) = (memD (.int x) l).map fun b => false || b := by rw [memD_leaf (px := .int x) (pa := .str (S a)) rfl rfl (by simp only [PyData.canLay0, strOk_S]) (by simp only [PyData.depth])]; simp only [PyData.eqv]
theorem memD_int_int (x : Int) (a : Int) (l : List D) : memD (.int x) (.int a :: l) = (memD (.int x) l).map fun b => (a == x) || b := by rw [memD_leaf (px := .int x) (pa := .int a) rfl rfl (by simp only [PyData.canLay0, strOk_S]) (by simp only [PyData.depth])]; simp only [PyData.eqv]
theorem memD_int_non (x : Int)  (l : List D) : memD (.int x) (.non :: l) = (memD (.int x) l).map fun b => false || b := by rw [memD_leaf (px := .int x) (pa := .none) rfl rfl (by simp only [PyData.canLay0, strOk_S]) (by simp only [PyData.depth])]; simp only [PyData.eqv]
theorem memD_int_bl (x : Int) (a : Bool) (l : List D) : memD (.int x) (.bl a :: l) = (memD (.int x) l).map fun b => ((if a then 1 else 0) == x) || b := by rw [memD_leaf (px := .int x) (pa := .bool a) rfl rfl (by simp only [PyData.canLay0, strOk_S]) (by simp only [PyData.depth])]; simp only [PyData.eqv]
theorem memD_nil_non  : memD .non [] = some false := memD_nil (px := .none) rfl (shaped_non)
theorem memD_non_str  (a : String) (l : List D) : memD .non (.str (S a) :: l) = (memD .non l).map fun b => false || b := by rw [memD_leaf (px := .none) (pa := .str (S a)) rfl rfl (by simp only [PyData.canLay0, strOk_S]) (by simp only [PyData.depth])]; simp only [PyData.eqv]
theorem memD_non_int  (a : Int) (l : List D) : memD .non (.int a :: l) = (memD .non l).map fun b => false || b := by rw [memD_leaf (px := .none) (pa := .int a) rfl rfl (by simp only [PyData.canLay0, strOk_S]) (by simp only [PyData.depth])]; simp only [PyData.eqv]
theorem memD_non_non   (l : List D) : memD .non (.non :: l) = (memD .non l).map fun b => true || b := by rw [memD_leaf (px := .none) (pa := .none) rfl rfl (by simp only [PyData.canLay0, strOk_S]) (by simp only [PyData.depth])]; simp only [PyData.eqv]
theorem memD_non_bl  (a : Bool) (l : List D) : memD .non (.bl a :: l) = (memD .non l).map fun b => false || b := by rw [memD_leaf (px := .none) (pa := .bool a) rfl rfl (by simp only [PyData.canLay0, strOk_S]) (by simp only [PyData.depth])]; simp only [PyData.eqv]
theorem memD_nil_bl (x : Bool) : memD (.bl x) [] = some false := memD_nil (px := .bool x) rfl (shaped_bool x)
theorem memD_bl_str (x : Bool) (a : String) (l : List D) : memD (.bl x) (.str (S a) :: l) = (memD (.bl x) l).map fun b => false || b := by rw [memD_leaf (px := .bool x) (pa := .str (S a)) rfl rfl (by simp only [PyData.canLay0, strOk_S]) (by simp only [PyData.depth])]; simp only [PyData.eqv]
theorem memD_bl_int (x : Bool) (a : Int) (l : List D) : memD (.bl x) (.int a :: l) = (memD (.bl x) l).map fun b => (a == (if x then 1 else 0)) || b := by rw [memD_leaf (px := .bool x) (pa := .int a) rfl rfl (by simp only [PyData.canLay0, strOk_S]) (by simp only [PyData.depth])]; simp only [PyData.eqv]
theorem memD_bl_non (x : Bool)  (l : List D) : memD (.bl x) (.non :: l) = (memD (.bl x) l).map fun b => false || b := by rw [memD_leaf (px := .bool x) (pa := .none) rfl rfl (by simp only [PyData.canLay0, strOk_S]) (by simp only [PyData.depth])]; simp only [PyData.eqv]
theorem memD_bl_bl (x : Bool) (a : Bool) (l : List D) : memD (.bl x) (.bl a :: l) = (memD (.bl x) l).map fun b => (a == x) || b := by rw [memD_leaf (px := .bool x) (pa := .bool a) rfl rfl (by simp only [PyData.canLay0, strOk_S]) (by simp only [PyData.depth])]; simp only [PyData.eqv]
theorem eqD_str_int (x : String) (a : Int) : eqD (.str (S x)) (.int a) = some false := by unfold eqD eqS; simp only [D.py, shaped_str, strOk_S, shaped_int, Bool.and_self, if_true, PyData.eqv]
theorem eqD_str_non (x : String)  : eqD (.str (S x)) (.non) = some false := by unfold eqD eqS; simp only [D.py, shaped_str, strOk_S, shaped_non, Bool.and_self, if_true, PyData.eqv]
theorem eqD_str_bl (x : String) (a : Bool) : eqD (.str (S x)) (.bl a) = some false := by unfold eqD eqS; simp only [D.py, shaped_str, strOk_S, shaped_bool, Bool.and_self, if_true, PyData.eqv]
theorem eqD_int_str (x : Int) (a : String) : eqD (.int x) (.str (S a)) = some false := by unfold eqD eqS; simp only [D.py, shaped_int, shaped_str, strOk_S, Bool.and_self, if_true, PyData.eqv]
theorem eqD_int_non (x : Int)  : eqD (.int x) (.non) = some false := by unfold eqD eqS; simp only [D.py, shaped_int, shaped_non, Bool.and_self, if_true, PyData.eqv]
theorem eqD_int_bl (x : Int) (a : Bool) : eqD (.int x) (.bl a) = some (x == (if a then 1 else 0)) := by unfold eqD eqS; simp only [D.py, shaped_int, shaped_bool, Bool.and_self, if_true, PyData.eqv]
theorem eqD_non_str  (a : String) : eqD .non (.str (S a)) = some false := by unfold eqD eqS; simp only [D.py, shaped_non, shaped_str, strOk_S, Bool.and_self, if_true, PyData.eqv]
theorem eqD_non_int  (a : Int) : eqD .non (.int a) = some false := by unfold eqD eqS; simp only [D.py, shaped_non, shaped_int, Bool.and_self, if_true, PyData.eqv]
theorem eqD_non_non   : eqD .non (.non) = some true := by unfold eqD eqS; simp only [D.py, shaped_non, shaped_non, Bool.and_self, if_true, PyData.eqv]
theorem eqD_non_bl  (a : Bool) : eqD .non (.bl a) = some false := by unfold eqD eqS; simp only [D.py, shaped_non, shaped_bool, Bool.and_self, if_true, PyData.eqv]
theorem eqD_bl_str (x : Bool) (a : String) : eqD (.bl x) (.str (S a)) = some false := by unfold eqD eqS; simp only [D.py, shaped_bool, shaped_str, strOk_S, Bool.and_self, if_true, PyData.eqv]
theorem eqD_bl_int (x : Bool) (a : Int) : eqD (.bl x) (.int a) = some ((if x then 1 else 0) == a) := by unfold eqD eqS; simp only [D.py, shaped_bool, shaped_int, Bool.and_self, if_true, PyData.eqv]
theorem eqD_bl_non (x : Bool)  : eqD (.bl x) (.non) = some false := by unfold eqD eqS; simp only [D.py, shaped_bool, shaped_non, Bool.and_self, if_true, PyData.eqv]
/-! membership in rows of the module's own -/
/-- is it one of the items, by the law of equality? all shaped -/
theorem memD_def {x : D} {l : List D} {p : PyData} {ps : List PyData} (hx : x.py = some p) (hl : D.pyL l = some ps) (h1 : PySem.SeqAt.shaped p = true) (h2 : PySem.SeqAt.shaped (.list ps) = true) : memD x l = some (ps.any fun z => PyData.eqv z p) := by
  unfold memD; rw [hx, hl]; simp only [h1, h2, Bool.and_self, if_true]
theorem binop_add_int (i j : Int) : binop .add (.int i) (.int j) = some (false, .int (i + j)) := rfl
theorem binop_sub_int (i j : Int) : binop .sub (.int i) (.int j) = some (false, .int (i - j)) := rfl
theorem binop_mul_int (i j : Int) : binop .mul (.int i) (.int j) = if (-(2 ^ 64) < i ∧ i < 2 ^ 64) ∨ (-(2 ^ 64) < j ∧ j < 2 ^ 64) then some (false, .int (i * j)) else none := rfl
theorem binop_fdiv_int (i j : Int) : binop .fdiv (.int i) (.int j) = if 0 < j ∧ j < 1073741824 then some (false, .int (i / j)) else none := rfl
theorem binop_mod_int (i j : Int) : binop .mod (.int i) (.int j) = if 0 < j then some (false, .int (i % j)) else none := rfl
theorem binop_pow_int (i j : Int) : binop .pow (.int i) (.int j) = if 0 ≤ j ∧ j ≤ 1000000 ∧ i.natAbs < 2 ^ 64 then some (false, .int (i ^ j.toNat)) else none := rfl
theorem binop_add_lst (a b : List D) : binop .add (.lst a) (.lst b) = if a.length + b.length ≤ sizeLine then some (true, .lst (a ++ b)) else none := rfl
theorem binop_add_tup (a b : List D) : binop .add (.tup a) (.tup b) = if a.length + b.length ≤ sizeLine then some (false, .tup (a ++ b)) else none := rfl
theorem binop_mul_lst (a : List D) (k : Int) : binop .mul (.lst a) (.int k) = if -(2 ^ 63) ≤ k ∧ k < 2 ^ 63 ∧ a.length * k.toNat ≤ sizeLine then some (true, .lst (List.replicate k.toNat a).flatten) else none := rfl
theorem negD_int (i : Int) : negD (.int i) = some (false, .int (-i)) := rfl
theorem augD_add (i j : Int) : augD .add (.int i) (.int j) = some (.int (i + j)) := rfl
theorem augD_sub (i j : Int) : augD .sub (.int i) (.int j) = some (.int (i - j)) := rfl
theorem truthy_non : truthy .non = some false := rfl
theorem truthy_bl (b : Bool) : truthy (.bl b) = some b := rfl
theorem truthy_int (b : Int) : truthy (.int b) = some (b != 0) := rfl
theorem truthy_lst (l : List D) : truthy (.lst l) = some (l.length != 0) := rfl
theorem truthy_tup (l : List D) : truthy (.tup l) = some (l.length != 0) := rfl
theorem cmpop_eq (a b : D) : cmpop .eq a b = eqD a b := by cases a <;> cases b <;> rfl
theorem cmpop_ne (a b : D) : cmpop .ne a b = (eqD a b).map (!·) := by cases a <;> cases b <;> rfl
theorem cmpop_lt (i j : Int) : cmpop .lt (.int i) (.int j) = some (decide (i < j)) := rfl
theorem cmpop_le (i j : Int) : cmpop .le (.int i) (.int j) = some (decide (i ≤ j)) := rfl
theorem cmpop_gt (i j : Int) : cmpop .gt (.int i) (.int j) = some (decide (j < i)) := rfl
theorem cmpop_ge (i j : Int) : cmpop .ge (.int i) (.int j) = some (decide (j ≤ i)) := rfl
theorem cmpop_in_lst (x : D) (l : List D) : cmpop .isIn x (.lst l) = memD x l := by cases x <;> rfl
theorem cmpop_in_tup (x : D) (l : List D) : cmpop .isIn x (.tup l) = memD x l := by cases x <;> rfl
theorem cmpop_in_kt (x : D) (l : List D) : cmpop .isIn x (.kt l) = memD x l := by cases x <;> rfl
theorem cmpop_nin_lst (x : D) (l : List D) : cmpop .notIn x (.lst l) = (memD x l).map (!·) := by cases x <;> rfl
theorem cmpop_nin_tup (x : D) (l : List D) : cmpop .notIn x (.tup l) = (memD x l).map (!·) := by cases x <;> rfl
theorem cmpop_nin_kt (x : D) (l : List D) : cmpop .notIn x (.kt l) = (memD x l).map (!·) := by cases x <;> rfl
theorem subD_lst (l : List D) (i : Int) : subD (.lst l) (.int i) = atD l i := rfl
theorem subD_tup (l : List D) (i : Int) : subD (.tup l) (.int i) = atD l i := rfl
theorem subD_kt (l : List D) (i : Int) : subD (.kt l) (.int i) = atD l i := rfl
theorem subD_dct (l : List (D × D)) (k : D) : subD (.dct l) k = if fits k l then look k l else none := rfl
theorem atD_0 {α : Type} (a : α) (l : List α) : atD (a :: l) 0 = some a := by
  unfold atD ixOf
  rw [if_pos (by decide), if_pos (by simp only [List.length_cons]; omega)]; rfl
theorem atD_pos {α : Type} {l : List α} {i : Int} (h0 : 0 ≤ i) (h1 : i < l.length) : atD l i = l[i.toNat]? := by
  unfold atD ixOf
  rw [if_pos h0, if_pos h1]; rfl
theorem atD_succ {α : Type} (a : α) (l : List α) (n : Nat) : atD (a :: l) (n + 1 : Nat) = atD l (n : Nat) := by
  unfold atD ixOf
  by_cases h : (n : Int) < l.length
  · rw [if_pos (by omega), if_pos (by simp only [List.length_cons]; omega), if_pos (by omega), if_pos h]
    simp
  · rw [if_pos (by omega), if_neg (by simp only [List.length_cons]; omega), if_pos (by omega), if_neg h]; rfl
theorem atD_1 {α : Type} (a b : α) (l : List α) : atD (a :: b :: l) 1 = some b := by
  have := atD_succ a (b :: l) 0; exact this.trans (atD_0 b l)
theorem atD_2 {α : Type} (a b c : α) (l : List α) : atD (a :: b :: c :: l) 2 = some c := by
  have := atD_succ a (b :: c :: l) 1; exact this.trans (atD_1 b c l)
theorem atD_3 {α : Type} (a b c d : α) (l : List α) : atD (a :: b :: c :: d :: l) 3 = some d := by
  have := atD_succ a (b :: c :: d :: l) 2; exact this.trans (atD_2 b c d l)
theorem setop_lst (l : List D) (i : Int) (v : D) : setop (.lst l) (.int i) v = (ixOf l.length i).map fun j => .lst (l.set j v) := rfl
theorem setop_dct (l : List (D × D)) (k v : D) : setop (.dct l) k v = if fits k l then (if l.length < sizeLine then some (.dct (put k v l)) else none) else none := rfl
theorem intOf_int (i : Int) : intOf (.int i) = some i := rfl
theorem sliceD_lst (l : List D) (x y : Option Int) : sliceD (.lst l) x y = some (true, .lst (cut l x y)) := rfl
theorem sliceD_scr (l : List D) (x y : Option Int) : sliceD (.scr l) x y = some (true, .lst (cut l x y)) := rfl
theorem sliceD_tup (l : List D) (x y : Option Int) : sliceD (.tup l) x y = some (false, .tup (cut l x y)) := rfl
theorem lenD_lst (l : List D) : lenD (.lst l) = some (l.length : Int) := rfl
theorem lenD_tup (l : List D) : lenD (.tup l) = some (l.length : Int) := rfl
theorem lenD_kt (l : List D) : lenD (.kt l) = some (l.length : Int) := rfl
theorem biop_len (a : D) : biop .len [a] = (lenD a).map fun n => (false, .int n) := by cases a <;> rfl
theorem biop_int (i : Int) : biop .int [.int i] = some (false, .int i) := rfl
theorem biop_abs (i : Int) : biop .abs [.int i] = some (false, .int i.natAbs) := rfl
theorem biop_tuple_lst (l : List D) : biop .tuple [.lst l] = some (false, .tup l) := rfl
theorem biop_tuple_tup (l : List D) : biop .tuple [.tup l] = some (false, .tup l) := rfl
theorem biop_list_lst (l : List D) : biop .list [.lst l] = some (true, .lst l) := rfl
theorem biop_list_tup (l : List D) : biop .list [.tup l] = some (true, .lst l) := rfl
theorem biop_list_kt (l : List D) : biop .list [.kt l] = some (true, .lst l) := rfl
theorem biop_dict (l : List D) : biop .dict [.lst l] = (pairsOf l).bind fun ps => if ps.all (fun p => p.1.isKey1) then some (true, .dct (merge [] ps)) else none := rfl
theorem biop_all (l : List D) : biop .all [.lst l] = (boolsOf l).map fun b => (false, .bl (b.all id)) := rfl
theorem biop_any (l : List D) : biop .any [.lst l] = (boolsOf l).map fun b => (false, .bl (b.any id)) := rfl
theorem biop_sum (l : List D) : biop .sum [.lst l] = (intsOf l).map fun b => (false, .int b.sum) := rfl
theorem biop_repr (a : D) : biop .repr [a] = (reprD a).map fun x => (false, x) := by cases a <;> rfl
theorem muop_append (l : List D) (x : D) : muop .append (.lst l) [x] = if l.length < sizeLine then some (.lst (l ++ [x]), .non) else none := rfl
theorem isTys_one (d : D) (t : Ty) : isTys d [t] = (kdOf d).map fun k => kdIs k t := rfl
theorem unpack_tup (l : List D) : unpack (.tup l) = some l := rfl
theorem unpack_lst (l : List D) : unpack (.lst l) = some l := rfl
theorem unpack_kt (l : List D) : unpack (.kt l) = some l := rfl
theorem itemsOf_tup (l : List D) : itemsOf (.tup l) = some l := rfl
theorem itemsOf_lst (l : List D) : itemsOf (.lst l) = some l := rfl
theorem itemsOf_kt (l : List D) : itemsOf (.kt l) = some l := rfl
theorem entriesOf_dct (l : List (D × D)) : entriesOf (.dct l) = some l := rfl
theorem rangeD_int (m n : Int) : rangeD (.int m) (.int n) = if m < 2 ^ 62 ∧ -(2 ^ 62) ≤ m ∧ n < 2 ^ 62 ∧ -(2 ^ 62) ≤ n then some ((List.range (n - m).toNat).map fun (k : Nat) => D.int (m + k)) else none := rfl
theorem wp_srcOf_lst {s : Sta} {Q : Post (List D ⊕ Nat)} {E : EPost} {l : List D} : wp (srcOf (.lst l)) s Q E = Q (.inl l) s := rfl
theorem wp_srcOf_tup {s : Sta} {Q : Post (List D ⊕ Nat)} {E : EPost} {l : List D} : wp (srcOf (.tup l)) s Q E = Q (.inl l) s := rfl
theorem wp_srcOf_kt {s : Sta} {Q : Post (List D ⊕ Nat)} {E : EPost} {l : List D} : wp (srcOf (.kt l)) s Q E = Q (.inl l) s := rfl
end Fw
set_option linter.all false
set_option Elab.async false
set_option maxRecDepth 100000
/-! The defs that every law has: _law_bag, _law_take, _law_some, _law_alike. -/
local macro_rules | `(tactic| array_get_dec) => `(tactic| simp -implicitDefEqProofs -dsimp only [Fw.slotQ_val, Fw.slotQ_own, Fw.slotQ_none, Fw.slotQ_non, Fw.optQ_some, Fw.optQ_none, Fw.optQ_ite, Fw.oo_some, Fw.oo_none, Fw.flQ_nx, Fw.flQ_ret, Fw.flQ_brk, Fw.flQ_cont, Fw.retQ_nx, Fw.retQ_ret, Fw.turnQ_nx, Fw.turnQ_ret, Fw.turnQ_brk, Fw.turnQ_cont, Fw.objQ_lst, Fw.objQ_dct, Fw.objQ_ins, Fw.wpC_ok, Fw.wpC_exc, Fw.wpC_ite, ↓Fw.wp_bind, ↓Fw.wp_pure, ↓Fw.wp_stk, ↓Fw.wp_lift, ↓Fw.wp_ite, ↓Fw.wp_var, ↓Fw.wp_lit, ↓Fw.wp_readOp, ↓Fw.wp_res_own, ↓Fw.wp_res_ref, ↓Fw.wp_res_non, ↓Fw.wp_res_bl, ↓Fw.wp_res_int, ↓Fw.wp_res_str, ↓Fw.wp_res_tup, ↓Fw.wp_res_lst, ↓Fw.wp_res_dct, ↓Fw.wp_res_kt, ↓Fw.wp_res_kd, ↓Fw.wp_res_scr, ↓Fw.wp_res_fn, ↓Fw.wp_ress_nil, ↓Fw.wp_ress_cons, ↓Fw.wp_opd_var, ↓Fw.wp_opd_lit, ↓Fw.wp_opd_bin, ↓Fw.wp_opd_neg, ↓Fw.wp_opd_not, ↓Fw.wp_opd_and, ↓Fw.wp_opd_or, ↓Fw.wp_opd_ite, ↓Fw.wp_opd_cmp, ↓Fw.wp_opd_cmp2, ↓Fw.wp_opd_tup, ↓Fw.wp_opd_lst, ↓Fw.wp_opd_dct, ↓Fw.wp_opd_sub, ↓Fw.wp_opd_slc, ↓Fw.wp_opd_rev, ↓Fw.wp_opd_call, ↓Fw.wp_opd_callv, ↓Fw.wp_opd_isi, ↓Fw.wp_opd_bi, ↓Fw.wp_opd_me, ↓Fw.wp_opd_mu, ↓Fw.wp_opd_muR, ↓Fw.wp_opd_comp, ↓Fw.wp_opd_dcomp, ↓Fw.wp_opd_heard, ↓Fw.wp_opd_ofit, ↓Fw.wp_opd_box, ↓Fw.wp_tst_var, ↓Fw.wp_tst_lit, ↓Fw.wp_tst_bin, ↓Fw.wp_tst_not, ↓Fw.wp_tst_and, ↓Fw.wp_tst_or, ↓Fw.wp_tst_ite, ↓Fw.wp_tst_cmp, ↓Fw.wp_tst_cmp2, ↓Fw.wp_tst_sub, ↓Fw.wp_tst_call, ↓Fw.wp_tst_callv, ↓Fw.wp_tst_isi, ↓Fw.wp_tst_bi, ↓Fw.wp_tst_comp, ↓Fw.wp_setSlot, ↓Fw.wp_store_own, ↓Fw.wp_store_lst, ↓Fw.wp_store_dct, ↓Fw.wp_boxM, ↓Fw.wp_boxM_dct, ↓Fw.wp_ask, ↓Fw.wp_part_nil, ↓Fw.wp_part_var, ↓Fw.wp_part_lit, ↓Fw.wp_part_bin, ↓Fw.wp_part_sub, ↓Fw.wp_part_call, ↓Fw.wp_part_bi, ↓Fw.wp_callM, ↓Fw.wp_fnAt, ↓Fw.wp_srcOf, ↓Fw.wp_srcOf_ref, ↓Fw.wp_bin, ↓Fw.wp_neg, ↓Fw.wp_not, ↓Fw.wp_and, ↓Fw.wp_or, ↓Fw.wp_iteF, ↓Fw.wp_cmp, ↓Fw.wp_cmp2, ↓Fw.wp_tup, ↓Fw.wp_lst, ↓Fw.wp_dct, ↓Fw.wp_sub, ↓Fw.wp_slc, ↓Fw.wp_rev, ↓Fw.wp_call, ↓Fw.wp_callv, ↓Fw.wp_isi, ↓Fw.wp_bi, ↓Fw.wp_me, ↓Fw.wp_mu, ↓Fw.wp_muR, ↓Fw.wp_box, ↓Fw.wp_ofit, ↓Fw.wp_heard, ↓Fw.wp_evH_nil, ↓Fw.wp_evH_cons, ↓Fw.wp_evL_nil, ↓Fw.wp_evL_cons, ↓Fw.wp_evL_consS, ↓Fw.wp_evO_nil, ↓Fw.wp_evO_cons, ↓Fw.wp_evK_nil, ↓Fw.wp_evK_cons, ↓Fw.wp_evK_upd, ↓Fw.wp_evC_nil, ↓Fw.wp_evC_cons, ↓Fw.wp_rng1, ↓Fw.wp_rng2, ↓Fw.wp_enu, ↓Fw.wp_zip, ↓Fw.wp_items, ↓Fw.wp_vals, ↓Fw.wp_itemsR, ↓Fw.wp_valsR, ↓Fw.wp_itv, ↓Fw.wp_clr, ↓Fw.wp_inner, ↓Fw.wp_turnG, ↓Fw.wp_elL, ↓Fw.wp_elK, ↓Fw.wp_comp, ↓Fw.wp_dcomp, ↓Fw.wp_evG_nil, ↓Fw.wp_evG_gen, ↓Fw.wp_collS_inl, ↓Fw.wp_collS_inr, ↓Fw.wp_coll_nil, ↓Fw.wp_coll_cons, ↓Fw.wp_over_inl, ↓Fw.wp_over_inr, ↓Fw.wp_walk_nil, ↓Fw.wp_walk_cons, ↓Fw.wp_turnB, ↓Fw.wp_asgVar_own, ↓Fw.wp_asgVar_val, ↓Fw.wp_asgT_var, ↓Fw.wp_asgT_tup, ↓Fw.wp_asgVars_nil, ↓Fw.wp_asgVars_cons, ↓Fw.wp_asg1_var, ↓Fw.wp_asg1_tup, ↓Fw.wp_asg1_sub, ↓Fw.wp_evFs_nil, ↓Fw.wp_evFs_cons, ↓Fw.wp_asgs_nil, ↓Fw.wp_asgs_cons, ↓Fw.wp_pass, ↓Fw.wp_seq, ↓Fw.wp_expr, ↓Fw.wp_asg, ↓Fw.wp_asgTS, ↓Fw.wp_augV, ↓Fw.wp_augS, ↓Fw.wp_retV, ↓Fw.wp_ret, ↓Fw.wp_retN, ↓Fw.wp_ifs, ↓Fw.wp_for, ↓Fw.wp_brk, ↓Fw.wp_cont, ↓Fw.wp_raise, Fw.x_map_cons, Fw.x_map_nil, Fw.x_cons_app, Fw.x_nil_app, Fw.x_app_nil, Fw.x_rep_succ, Fw.x_rep_zero, Fw.x_get_zero, Fw.x_get_succ, Fw.x_set_zero, Fw.x_set_succ, Fw.x_len_nil, Fw.x_len_cons, Fw.x_omap_some, Fw.x_omap_none, Fw.x_obind_some, Fw.x_obind_none, Fw.x_getD_some, Fw.x_getD_none, Fw.x_omap_ite, Fw.x_obind_ite, Fw.x_flat_nil, Fw.x_flat_cons, Fw.x_all_nil, Fw.x_all_cons, Fw.x_any_nil, Fw.x_any_cons, Fw.x_size, Fw.x_beq_true, Fw.x_bne_true, Fw.x_dec_true, Fw.x_not_true, Fw.x_tt, Fw.x_ft, Fw.x_tf, Fw.x_ff, Fw.x_nt, Fw.x_nf, Fw.x_at, Fw.x_af, Fw.x_ta, Fw.x_ot, Fw.x_of, Fw.x_if_true, Fw.x_if_false, Fw.x_ixOf_0, Fw.x_ixOf_1, Fw.x_ixOf_2, Fw.x_ixOf_3, Fw.x_ixOf_4, Fw.x_ixOf_5, Fw.x_ixOf_6, Fw.x_ixOf_7, Fw.x_ixOf_8, Fw.x_ixOf_9, Fw.x_ixOf_10, Fw.x_ixOf_11, Fw.x_pos_succ, Fw.x_max_0, Fw.x_0_max, Fw.x_max_self, Fw.x_10, Fw.clrFr_nil, Fw.clrFr_cons, Fw.putFr_nil, Fw.putFr_cons, Fw.notOwn_none, Fw.notOwn_val, Fw.notOwn_own, Fw.isKey1_int, Fw.isKey1_str, Fw.isKey1_tup, Fw.kdOf_non, Fw.kdOf_int, Fw.kdOf_bl, Fw.kdOf_str, Fw.kdOf_tup, Fw.kdOf_kt, Fw.kdOf_lst, Fw.kdOf_dct, Fw.S_eq, Fw.S_beq, Fw.eqD_int, Fw.eqD_bl, Fw.eqD_str, Fw.kdIs_non_int, Fw.kdIs_non_bool, Fw.kdIs_non_str, Fw.kdIs_non_tuple, Fw.kdIs_non_list, Fw.kdIs_non_dict, Fw.kdIs_int_int, Fw.kdIs_int_bool, Fw.kdIs_int_str, Fw.kdIs_int_tuple, Fw.kdIs_int_list, Fw.kdIs_int_dict, Fw.kdIs_bool_int, Fw.kdIs_bool_bool, Fw.kdIs_bool_str, Fw.kdIs_bool_tuple, Fw.kdIs_bool_list, Fw.kdIs_bool_dict, Fw.kdIs_str_int, Fw.kdIs_str_bool, Fw.kdIs_str_str, Fw.kdIs_str_tuple, Fw.kdIs_str_list, Fw.kdIs_str_dict, Fw.kdIs_tuple_int, Fw.kdIs_tuple_bool, Fw.kdIs_tuple_str, Fw.kdIs_tuple_tuple, Fw.kdIs_tuple_list, Fw.kdIs_tuple_dict, Fw.kdIs_list_int, Fw.kdIs_list_bool, Fw.kdIs_list_str, Fw.kdIs_list_tuple, Fw.kdIs_list_list, Fw.kdIs_list_dict, Fw.kdIs_dict_int, Fw.kdIs_dict_bool, Fw.kdIs_dict_str, Fw.kdIs_dict_tuple, Fw.kdIs_dict_list, Fw.kdIs_dict_dict, Fw.look_nil, Fw.look_cons, Fw.put_nil, Fw.put_cons, Fw.merge_nil, Fw.merge_cons, Fw.fits_def, Fw.beq_int, Fw.beq_str, Fw.beq_tup, Fw.beqL_nil, Fw.beqL_cons, Fw.beq_int_str, Fw.beq_str_int, Fw.pairsOf_nil, Fw.pairsOf_cons, Fw.boolsOf_nil, Fw.boolsOf_cons, Fw.tnames_nil, Fw.tnames_cons, Fw.memD_nil_str, Fw.memD_str_str, Fw.memD_str_int, Fw.memD_str_non, Fw.memD_str_bl, Fw.memD_nil_int, Fw.memD_int_str, Fw.memD_int_int, Fw.memD_int_non, Fw.memD_int_bl, Fw.memD_nil_non, Fw.memD_non_str, Fw.memD_non_int, Fw.memD_non_non, Fw.memD_non_bl, Fw.memD_nil_bl, Fw.memD_bl_str, Fw.memD_bl_int, Fw.memD_bl_non, Fw.memD_bl_bl, Fw.eqD_str_int, Fw.eqD_str_non, Fw.eqD_str_bl, Fw.eqD_int_str, Fw.eqD_int_non, Fw.eqD_int_bl, Fw.eqD_non_str, Fw.eqD_non_int, Fw.eqD_non_non, Fw.eqD_non_bl, Fw.eqD_bl_str, Fw.eqD_bl_int, Fw.eqD_bl_non, Fw.binop_add_int, Fw.binop_sub_int, Fw.binop_mul_int, Fw.binop_fdiv_int, Fw.binop_mod_int, Fw.binop_pow_int, Fw.binop_add_lst, Fw.binop_add_tup, Fw.binop_mul_lst, Fw.negD_int, Fw.augD_add, Fw.augD_sub, Fw.truthy_non, Fw.truthy_bl, Fw.truthy_int, Fw.truthy_lst, Fw.truthy_tup, Fw.cmpop_eq, Fw.cmpop_ne, Fw.cmpop_lt, Fw.cmpop_le, Fw.cmpop_gt, Fw.cmpop_ge, Fw.cmpop_in_lst, Fw.cmpop_in_tup, Fw.cmpop_in_kt, Fw.cmpop_nin_lst, Fw.cmpop_nin_tup, Fw.cmpop_nin_kt, Fw.subD_lst, Fw.subD_tup, Fw.subD_kt, Fw.subD_dct, Fw.atD_0, Fw.atD_1, Fw.atD_2, Fw.atD_3, Fw.setop_lst, Fw.setop_dct, Fw.intOf_int, Fw.sliceD_lst, Fw.sliceD_scr, Fw.sliceD_tup, Fw.lenD_lst, Fw.lenD_tup, Fw.lenD_kt, Fw.biop_len, Fw.biop_int, Fw.biop_abs, Fw.biop_tuple_lst, Fw.biop_tuple_tup, Fw.biop_list_lst, Fw.biop_list_tup, Fw.biop_list_kt, Fw.biop_dict, Fw.biop_all, Fw.biop_any, Fw.biop_sum, Fw.biop_repr, Fw.muop_append, Fw.isTys_one, Fw.unpack_tup, Fw.unpack_lst, Fw.unpack_kt, Fw.itemsOf_tup, Fw.itemsOf_lst, Fw.itemsOf_kt, Fw.entriesOf_dct, Fw.rangeD_int, Fw.wp_srcOf_lst, Fw.wp_srcOf_tup, Fw.wp_srcOf_kt, *, Nat.reduceAdd, Nat.reduceSub, Nat.reduceMul, Nat.reduceMod, Nat.reducePow, Nat.reduceDiv, Nat.reduceLT, Nat.reduceLeDiff, Nat.reduceEqDiff, Nat.reduceBEq, Int.reduceAdd, Int.reduceSub, Int.reduceMul, Int.reduceNeg, Int.reducePow, Int.reduceLT, Int.reduceLE, Int.reduceEq, Int.reduceNe, Int.reduceBEq, Int.reduceToNat, Int.cast_ofNat_Int, String.reduceEq, String.reduceBEq, reduceCtorEq, and_self, and_true, true_and, or_true, true_or, not_false_eq_true, not_true_eq_false])
namespace Fw
open PySem (Str PyData sizeLine)
def takeFn : Fn := ⟨2, 7, (.seq (.ifs (.cmp .eq (.sub (.var 0) (.lit (.int (0)))) (.lit (.int (0)))) (.seq (.asg (.var 2) (.sub (.bin .add (.slc (.sub (.var 0) (.lit (.int (3)))) (.sub (.var 0) (.lit (.int (2)))) .nil) (.lst (.cons (.lit (.int (0))) .nil))) (.lit (.int (0)))))
    (.seq (.augS (.var 0) (.lit (.int (2))) .add (.lit (.int (1))))
    (.seq (.ifs (.cmp .ge (.var 2) (.bin .pow (.lit (.int (10))) (.lit (.int (18))))) (.asg (.sub (.var 0) (.lit (.int (0)))) (.var 2)) .pass)
    (.seq (.asg (.var 3) (.bin .add (.bin .add (.bin .mul (.sub (.var 0) (.lit (.int (1)))) (.lit (.int (48271)))) (.bin .mod (.bi .int (.cons (.var 2) .nil)) (.lit (.int (2147483647))))) (.bin .mul (.lit (.int (7919))) (.sub (.var 0) (.lit (.int (2)))))))
    (.asg (.sub (.var 0) (.lit (.int (1)))) (.bin .mod (.bi .int (.cons (.var 3) .nil)) (.lit (.int (2147483647))))))))) .pass)
    (.seq (.ifs (.cmp .gt (.sub (.var 0) (.lit (.int (0)))) (.lit (.int (0)))) (.seq (.asg (.var 4) (.bin .mod (.bi .int (.cons (.sub (.var 0) (.lit (.int (0)))) .nil)) (.var 1)))
    (.seq (.asg (.sub (.var 0) (.lit (.int (0)))) (.bin .fdiv (.bi .int (.cons (.sub (.var 0) (.lit (.int (0)))) .nil)) (.var 1)))
    (.retV 4))) .pass)
    (.seq (.asg (.var 5) (.bin .mod (.bi .int (.cons (.bin .mul (.bin .add (.sub (.var 0) (.lit (.int (1)))) (.lit (.int (1)))) (.lit (.int (39373)))) .nil)) (.lit (.int (1000000007)))))
    (.seq (.asg (.var 6) (.bin .mod (.bi .int (.cons (.bin .mul (.bin .mod (.bi .int (.cons (.bin .mul (.var 5) (.var 5)) .nil)) (.lit (.int (998244353)))) (.lit (.int (30011)))) .nil)) (.lit (.int (998244353)))))
    (.ret (.bin .mod (.bi .int (.cons (.bin .fdiv (.var 6) (.lit (.int (7)))) .nil)) (.var 1)))))))⟩
def bagFn : Fn := ⟨1, 2, (.ret (.box (.lst (.cons (.lit (.int (0))) (.cons (.lit (.int (1234567891))) (.cons (.lit (.int (0))) (.cons (.comp [1] (.bi .abs (.cons (.var 1) .nil)) (.var 1) (.itv (.slc (.var 0) .nil (.lit (.int (63))))) .nil .nil) .nil)))))))⟩
def someFn (t : Nat) : Fn := ⟨2, 2, (.ret (.sub (.var 1) (.call t (.cons (.var 0) (.cons (.bi .len (.cons (.var 1) .nil)) .nil)))))⟩
def alikeFn : Fn := ⟨2, 2, (.ret (.and (.cmp .eq (.bi .repr (.cons (.var 0) .nil)) (.bi .repr (.cons (.var 1) .nil))) (.cmp .eq (.var 0) (.var 1))))⟩
/-- a bag, at the heap's first place -/
structure BagOk (o : HObj) : Prop where
  ex : ∃ (x y z : Int) (cs : List Int), o = .lst [.int x, .int y, .int z, .lst (cs.map .int)] ∧ 0 ≤ x ∧ 0 ≤ y ∧ 0 ≤ z ∧ cs.length ≤ 63 ∧ ∀ c ∈ cs, 0 ≤ c
section
variable {T : Nat → Option Fn} {k t i : Nat} {o : HObj} {r : List HObj} {Q : Bool → D → List HObj → Prop} {E : Exc → List HObj → Prop}

theorem cut_cell {cs : List Int} {z : Int} (hz : 0 ≤ z) (hl : cs.length ≤ 63) (hc : ∀ c ∈ cs, 0 ≤ c) : ∃ c : Int, 0 ≤ c ∧ (cut (cs.map D.int) (some z) none).length + 1 ≤ 16777216 ∧ atD (cut (cs.map D.int) (some z) none ++ [.int 0]) 0 = some (.int c) := by
  have e : ∃ l : List Int, cut (cs.map D.int) (some z) none = l.map D.int ∧ l.length ≤ 63 ∧ ∀ c ∈ l, 0 ≤ c := by
    refine ⟨cut cs (some z) none, ?_, ?_, fun c h => hc c ?_⟩
    · unfold cut; rw [List.length_map, List.map_take, List.map_drop]
    · unfold cut; rw [List.length_take, List.length_drop]; omega
    · unfold cut at h; exact List.mem_of_mem_drop (List.mem_of_mem_take h)
  obtain ⟨l, e, h1, h2⟩ := e
  rw [e]
  cases l with
  | nil => exact ⟨0, by decide, by simp, rfl⟩
  | cons a l => exact ⟨a, h2 a (by simp), by simp only [List.length_map]; omega, by rw [x_map_cons, x_cons_app, atD_0]⟩
theorem x_ite_and {c d : Prop} [Decidable c] (hc : c) (hd : d) : if c then d else False := by rw [if_pos hc]; exact hd
theorem spec_take (hT : T t = some takeFn) {m : Int} (hm : 0 < m) (hm2 : m < 1073741824) (ho : BagOk o) (h : ∀ v o', 0 ≤ v → v < m → BagOk o' → Q false (.int v) (o' :: r)) : wpC (callN T (k + 1) t [.ref 0, .int m] (o :: r)) Q E := by
  obtain ⟨x, y, z, cs, rfl, hx, hy, hz, hl, hc⟩ := ho.ex
  obtain ⟨c, c0, c1, c2⟩ := cut_cell hz hl hc
  rw [wpC_run hT rfl]
  unfold takeFn
  clear ho
  array_get_dec
  have hq : ∀ a : Int, 0 ≤ a → 0 ≤ a / m := fun a ha => Int.ediv_nonneg ha (by omega)
  repeat' split
  all_goals first
    | exact h _ _ (Int.emod_nonneg _ (by omega)) (Int.emod_lt_of_pos _ hm) ⟨_, _, _, cs, rfl, by first | assumption | exact hq _ (by assumption), by omega, by omega, hl, hc⟩
    | (exfalso; omega)
theorem spec_some (hT : T t = some takeFn) (hS : T i = some (someFn t)) {d : D} {l : List D} (hd : lenD d = some (l.length : Int) ∧ ∀ j : Int, subD d (.int j) = atD l j) (hn : ∀ n, d ≠ .ref n) (h0 : 0 < l.length) (h1 : l.length < 1073741824) (ho : BagOk o) (h : ∀ v o', v ∈ l → BagOk o' → Q false v (o' :: r)) : wpC (callN T (k + 2) i [.ref 0, d] (o :: r)) Q E := by
  rw [wpC_run hS rfl]
  unfold someFn
  obtain ⟨d1, d2⟩ := hd
  have rs : ∀ {s : Sta} {Q : Post D} {E : EPost}, wp (res (.d d)) s Q E = Q d s := wp_res hn
  array_get_dec
  refine spec_take hT (by omega) (by omega) ho fun v o' v0 v1 ho' => ?_
  have hlt : v.toNat < l.length := by omega
  have e : subD d (.int v) = some l[v.toNat] := by rw [d2, atD_pos v0 v1, List.getElem?_eq_getElem hlt]
  have q := h _ _ (List.getElem_mem hlt) ho'
  clear d1 d2
  array_get_dec
theorem spec_some_lst (hT : T t = some takeFn) (hS : T i = some (someFn t)) {l : List D} (h0 : 0 < l.length) (h1 : l.length < 1073741824) (ho : BagOk o) (h : ∀ v o', v ∈ l → BagOk o' → Q false v (o' :: r)) : wpC (callN T (k + 2) i [.ref 0, .lst l] (o :: r)) Q E :=
  spec_some hT hS ⟨rfl, fun _ => rfl⟩ (fun _ => by simp) h0 h1 ho h
theorem spec_some_tup (hT : T t = some takeFn) (hS : T i = some (someFn t)) {l : List D} (h0 : 0 < l.length) (h1 : l.length < 1073741824) (ho : BagOk o) (h : ∀ v o', v ∈ l → BagOk o' → Q false v (o' :: r)) : wpC (callN T (k + 2) i [.ref 0, .tup l] (o :: r)) Q E :=
  spec_some hT hS ⟨rfl, fun _ => rfl⟩ (fun _ => by simp) h0 h1 ho h
def absG (x : D) : List (D × D) := [(match x with | .int i => .int (i.natAbs : Nat) | x => x, .non)]
theorem cut_int {ns : List Int} {a b : Option Int} {x : D} (h : x ∈ cut (ns.map D.int) a b) : ∃ i, x = .int i := by
  have h := List.mem_of_mem_drop (List.mem_of_mem_take h)
  simp only [List.mem_map] at h
  obtain ⟨i, _, rfl⟩ := h
  exact ⟨i, rfl⟩
theorem abs_cut (ns : List Int) (b : Option Int) : ∃ cs : List Int, ((cut (ns.map D.int) none b).flatMap absG).map (·.1) = cs.map .int ∧ cs.length ≤ ns.length ∧ ∀ c ∈ cs, 0 ≤ c := by
  unfold cut
  rw [List.length_map]
  generalize endOf ns.length 0 none = p
  generalize endOf ns.length ns.length b - p = q
  rw [← List.map_drop, ← List.map_take]
  have hl : ((ns.drop p).take q).length ≤ ns.length := by rw [List.length_take, List.length_drop]; omega
  generalize (ns.drop p).take q = l at hl
  refine ⟨l.map fun i => (i.natAbs : Int), ?_, by rw [List.length_map]; exact hl, fun c h => ?_⟩
  · clear hl
    induction l with
    | nil => rfl
    | cons a l ih => simp only [List.map_cons, List.flatMap_cons, absG, List.map_append, List.map_nil, List.cons_append, List.nil_append, ih]
  · simp only [List.mem_map] at h
    obtain ⟨i, _, rfl⟩ := h
    omega
theorem spec_bag (hB : T i = some bagFn) {ns : List Int} (hl : ns.length ≤ 63) (h : ∀ o, BagOk o → Q false (.ref 0) [o]) : wpC (callN T (k + 1) i [.scr (ns.map .int)] []) Q E := by
  rw [wpC_run hB rfl]
  unfold bagFn
  array_get_dec
  refine wp_coll_map (fun s => ∃ sl : Slot, sl.notOwn = true ∧ s = ⟨[.val (.scr (ns.map .int)), sl], []⟩) absG ?_ ?_ ?_
  · exact ⟨.none, rfl, rfl⟩
  · rintro x hx s ⟨sl, hsl, rfl⟩
    obtain ⟨c, rfl⟩ := cut_int hx
    array_get_dec
    exact ⟨rfl, _, rfl, rfl⟩
  · rintro s ⟨sl, hsl, rfl⟩
    obtain ⟨cs, e, h1, h2⟩ := abs_cut ns (some 63)
    have h3 : (List.flatMap absG (cut (List.map D.int ns) none (some 63))).length ≤ 16777216 := by
      have := congrArg List.length e
      rw [List.length_map, List.length_map] at this; omega
    array_get_dec
    exact h _ ⟨0, 1234567891, 0, cs, rfl, by decide, by decide, by decide, by omega, h2⟩
/-- a datum that can be shown and compared -/
def good (d : D) : Bool := match d.py with
  | some p => p.showable && decide (p.depth ≤ 64) && decide (p.shown.length ≤ sizeLine) && PyData.canLay0 p
  | none => false
theorem shaped_of {p : PyData} (h1 : PyData.canLay0 p = true) (h2 : p.depth ≤ 64) : PySem.SeqAt.shaped p = true := by
  unfold PySem.SeqAt.shaped; rw [h1, decide_eq_true h2]; rfl
theorem eqD_refl {d : D} {p : PyData} (h : d.py = some p) (hs : PySem.SeqAt.shaped p = true) : eqD d d = some true := by
  cases d <;> first
    | (show some (_ == _) = _; simp)
    | (unfold eqD eqS; rw [h]; simp only [hs, Bool.and_self, if_true]; rw [PySem.SeqAt.eqv_refl p (PySem.SeqAt.canLay_of_shaped hs)])
theorem spec_alike (hA : T i = some alikeFn) {d : D} {hp : List HObj} (hg : good d = true) (h : Q false (.bl true) hp) : wpC (callN T (k + 1) i [d, d] hp) Q E := by
  rw [wpC_run hA rfl]
  unfold alikeFn
  unfold good at hg
  cases hp' : d.py with
  | none => rw [hp'] at hg; cases hg
  | some p =>
    rw [hp'] at hg
    simp only [Bool.and_eq_true, decide_eq_true_eq] at hg
    obtain ⟨⟨⟨g1, g2⟩, g3⟩, g4⟩ := hg
    have nr : ∀ n, d ≠ .ref n := fun n e => by rw [e] at hp'; cases hp'
    have rs : ∀ {s : Sta} {Q : Post D} {E : EPost}, wp (res (.d d)) s Q E = Q d s := wp_res nr
    have er : reprD d = some (.str p.shown) := by
      unfold reprD; rw [hp']; simp only [g1, g2, g3, decide_true, Bool.and_self, if_true]
    have ed : eqD d d = some true := eqD_refl hp' (shaped_of g4 g2)
    have es : (p.shown == p.shown) = true := by simp
    clear hp' g1 g2 g3 g4
    array_get_dec
theorem alike_eq (hA : T i = some alikeFn) {d : D} (hg : good d = true) : ∀ k hp, callN T (k + 1) i [d, d] hp = .ok false (.bl true) hp := fun k hp => wpC_eq.mp (spec_alike hA hg ⟨rfl, rfl, rfl⟩)
end
end Fw
set_option linter.all false
set_option Elab.async false
/-! Data that can be shown and compared, by plain recursion. -/
namespace Fw
open PySem (Str PyData sizeLine)
mutual
def D.leaf : D → Bool
  | .non => true
  | .bl _ => true
  | .int i => decide (i.natAbs < 10 ^ 12)
  | .str x => PyData.strOk x
  | .tup l => D.leafL l
  | .lst l => D.leafL l
  | .kt l => D.leafL l
  | _ => false
def D.leafL : List D → Bool
  | [] => true
  | d :: r => D.leaf d && D.leafL r
end
mutual
/-- no less than the weight -/
def D.wt : D → Nat
  | .int _ => 40
  | .str x => x.cps.size
  | .tup l => D.wtL l
  | .lst l => D.wtL l
  | .kt l => D.wtL l
  | _ => 0
def D.wtL : List D → Nat
  | [] => 0
  | d :: r => D.wt d + 1 + D.wtL r
end
mutual
def D.dp : D → Nat
  | .tup l => D.dpL l + 1
  | .lst l => D.dpL l + 1
  | .kt l => D.dpL l + 1
  | _ => 0
def D.dpL : List D → Nat
  | [] => 0
  | d :: r => max (D.dp d) (D.dpL r)
end
mutual
theorem D.leaf_py : ∀ d : D, d.leaf = true → ∃ p, d.py = some p ∧ PyData.canLay0 p = true ∧ p.showable = true ∧ p.intsShort 13 = true ∧ p.weight ≤ d.wt ∧ p.depth = d.dp
  | .non, _ => ⟨.none, rfl, by decide, by decide, by decide, by decide, by simp only [PyData.depth, D.dp]⟩
  | .bl b, _ => ⟨.bool b, rfl, by simp only [PyData.canLay0], by simp only [PyData.showable], by simp only [PyData.intsShort], by simp only [PyData.weight, D.wt, Nat.le_refl], by simp only [PyData.depth, D.dp]⟩
  | .int i, h => by
    have h : i.natAbs < 10 ^ 12 := by simpa only [D.leaf, decide_eq_true_eq] using h
    have h2 : i.natAbs.log2 < 40 := by
      by_cases z : i.natAbs = 0
      · rw [z]; decide
      · exact (Nat.log2_lt z).mpr (Nat.lt_trans h (by decide))
    refine ⟨.int i, rfl, by simp only [PyData.canLay0], ?_, ?_, ?_, by simp only [PyData.depth, D.dp]⟩
    · simp only [PyData.showable, decide_eq_true_eq]; omega
    · simp only [PyData.intsShort, decide_eq_true_eq]; exact PyData.shown_int_le h
    · simp only [PyData.weight, D.wt]
      split <;> omega
  | .str x, h => ⟨.str x, rfl, by simpa only [PyData.canLay0, D.leaf] using h, by simp only [PyData.showable], by simp only [PyData.intsShort], by simp only [PyData.weight, D.wt, Nat.le_refl], by simp only [PyData.depth, D.dp]⟩
  | .tup l, h => by
    obtain ⟨ps, e, h1, h2, h3, h4, h5⟩ := D.leaf_pyL l (by simpa only [D.leaf] using h)
    refine ⟨.tuple ps, by simp only [D.py, e, Option.map_some], by simpa only [PyData.canLay0] using h1, by simpa only [PyData.showable] using h2, by simpa only [PyData.intsShort] using h3, by simpa only [PyData.weight, D.wt] using h4, by simp only [PyData.depth, D.dp, h5]⟩
  | .lst l, h => by
    obtain ⟨ps, e, h1, h2, h3, h4, h5⟩ := D.leaf_pyL l (by simpa only [D.leaf] using h)
    refine ⟨.list ps, by simp only [D.py, e, Option.map_some], by simpa only [PyData.canLay0] using h1, by simpa only [PyData.showable] using h2, by simpa only [PyData.intsShort] using h3, by simpa only [PyData.weight, D.wt] using h4, by simp only [PyData.depth, D.dp, h5]⟩
  | .kt l, h => by
    obtain ⟨ps, e, h1, h2, h3, h4, h5⟩ := D.leaf_pyL l (by simpa only [D.leaf] using h)
    refine ⟨.tuple ps, by simp only [D.py, e, Option.map_some], by simpa only [PyData.canLay0] using h1, by simpa only [PyData.showable] using h2, by simpa only [PyData.intsShort] using h3, by simpa only [PyData.weight, D.wt] using h4, by simp only [PyData.depth, D.dp, h5]⟩
  | .dct _, h => by simp only [D.leaf] at h; cases h
  | .kd _, h => by simp only [D.leaf] at h; cases h
  | .scr _, h => by simp only [D.leaf] at h; cases h
  | .fn _, h => by simp only [D.leaf] at h; cases h
  | .ref _, h => by simp only [D.leaf] at h; cases h
theorem D.leaf_pyL : ∀ l : List D, D.leafL l = true → ∃ ps, D.pyL l = some ps ∧ PyData.canLayAll0 ps = true ∧ PyData.showableAll ps = true ∧ PyData.intsShortAll 13 ps = true ∧ PyData.weightAll ps ≤ D.wtL l ∧ PyData.depthAll ps = D.dpL l
  | [], _ => ⟨[], rfl, by simp only [PyData.canLayAll0], by simp only [PyData.showableAll], by simp only [PyData.intsShortAll], by simp only [PyData.weightAll, D.wtL, Nat.le_refl], by simp only [PyData.depthAll, D.dpL]⟩
  | d :: r, h => by
    have h : d.leaf = true ∧ D.leafL r = true := by simpa only [D.leafL, Bool.and_eq_true] using h
    obtain ⟨p, e, h1, h2, h3, h4, h5⟩ := D.leaf_py d h.1
    obtain ⟨ps, e', h1', h2', h3', h4', h5'⟩ := D.leaf_pyL r h.2
    refine ⟨p :: ps, by simp only [D.pyL, e, e'], ?_, ?_, ?_, ?_, ?_⟩
    · simp only [PyData.canLayAll0, h1, h1', Bool.and_self]
    · simp only [PyData.showableAll, h2, h2', Bool.and_self]
    · simp only [PyData.intsShortAll, h3, h3', Bool.and_self]
    · simp only [PyData.weightAll, D.wtL]; omega
    · simp only [PyData.depthAll, D.dpL, h5, h5']
end
theorem good_of {d : D} (h : d.leaf = true) (h2 : d.wt ≤ 1048576) (h3 : d.dp ≤ 64) : good d = true := by
  obtain ⟨p, e, h1, h4, h5, h6, h7⟩ := d.leaf_py h
  have hl : PyData.layable0 p = true := by
    unfold PyData.layable0
    simp only [Bool.and_eq_true, decide_eq_true_eq]
    exact ⟨⟨h1, by omega⟩, by omega⟩
  unfold good
  rw [e]
  simp only [h1, h4, decide_eq_true (show p.depth ≤ 64 by omega), decide_eq_true (PyData.shown_fits_of_layable0 (by decide) (by decide) hl h5), Bool.and_self]
theorem shp_of {d : D} (h : d.leaf = true) (h3 : d.dp ≤ 64) : ∃ p, d.py = some p ∧ PySem.SeqAt.shaped p = true := by
  obtain ⟨p, e, h1, h4, h5, h6, h7⟩ := d.leaf_py h
  exact ⟨p, e, shaped_of h1 (by omega)⟩
theorem good_int {i : Int} (h : i.natAbs < 10 ^ 12) : good (.int i) = true := good_of (by simp only [D.leaf, decide_eq_true_eq]; exact h) (by simp only [D.wt]; decide) (by simp only [D.dp]; decide)
theorem good_non : good .non = true := good_of rfl (by simp only [D.wt]; decide) (by simp only [D.dp]; decide)
theorem good_bl (b : Bool) : good (.bl b) = true := good_of (by simp only [D.leaf]) (by simp only [D.wt]; omega) (by simp only [D.dp]; omega)
theorem leaf_non : D.leaf .non = true := by simp only [D.leaf]
theorem leaf_bl (b : Bool) : D.leaf (.bl b) = true := by simp only [D.leaf]
theorem leaf_int (b : Int) : D.leaf (.int b) = decide (b.natAbs < 10 ^ 12) := by simp only [D.leaf]
theorem leaf_S (b : String) : D.leaf (.str (S b)) = true := by simp only [D.leaf, strOk_S]
theorem leaf_tup (l : List D) : D.leaf (.tup l) = D.leafL l := by simp only [D.leaf]
theorem leaf_lst (l : List D) : D.leaf (.lst l) = D.leafL l := by simp only [D.leaf]
theorem leaf_kt (l : List D) : D.leaf (.kt l) = D.leafL l := by simp only [D.leaf]
theorem leafL_nil : D.leafL [] = true := by simp only [D.leafL]
theorem leafL_cons (d : D) (l : List D) : D.leafL (d :: l) = (D.leaf d && D.leafL l) := by simp only [D.leafL]
theorem dp_non : D.dp .non = 0 := by simp only [D.dp]
theorem dp_bl (b : Bool) : D.dp (.bl b) = 0 := by simp only [D.dp]
theorem dp_int (b : Int) : D.dp (.int b) = 0 := by simp only [D.dp]
theorem dp_str (b : Str) : D.dp (.str b) = 0 := by simp only [D.dp]
theorem dp_tup (l : List D) : D.dp (.tup l) = D.dpL l + 1 := by simp only [D.dp]
theorem dp_lst (l : List D) : D.dp (.lst l) = D.dpL l + 1 := by simp only [D.dp]
theorem dp_kt (l : List D) : D.dp (.kt l) = D.dpL l + 1 := by simp only [D.dp]
theorem dpL_nil : D.dpL [] = 0 := by simp only [D.dpL]
theorem dpL_cons (d : D) (l : List D) : D.dpL (d :: l) = max (D.dp d) (D.dpL l) := by simp only [D.dpL]
theorem eqD_same {d : D} (h : D.leaf d = true) (h2 : D.dp d ≤ 64) : eqD d d = some true := by
  obtain ⟨p, e, hs⟩ := shp_of h h2
  exact eqD_refl e hs
theorem shp_leaf {d : D} (h : D.leaf d = true) (h2 : D.dp d ≤ 64) : shp d = true := by
  obtain ⟨p, e, hs⟩ := shp_of h h2
  unfold shp; rw [e]; exact hs
mutual
theorem D.beq_refl : ∀ d : D, d.py.isSome = true → D.beq d d = true
  | .non, _ => by simp only [D.beq]
  | .bl b, _ => by simp only [D.beq, beq_self_eq_true]
  | .int b, _ => by simp only [D.beq, beq_self_eq_true]
  | .str b, _ => by simp only [D.beq, beq_self_eq_true]
  | .tup l, h => by
    simp only [D.beq]; refine D.beqL_refl l ?_
    simp only [D.py, Option.isSome_map] at h; exact h
  | .lst l, h => by
    simp only [D.beq]; refine D.beqL_refl l ?_
    simp only [D.py, Option.isSome_map] at h; exact h
  | .kt l, h => by
    simp only [D.beq]; refine D.beqL_refl l ?_
    simp only [D.py, Option.isSome_map] at h; exact h
  | .dct _, h => by simp [D.py] at h
  | .kd _, h => by simp [D.py] at h
  | .scr _, h => by simp [D.py] at h
  | .fn _, h => by simp [D.py] at h
  | .ref _, h => by simp [D.py] at h
theorem D.beqL_refl : ∀ l : List D, (D.pyL l).isSome = true → D.beqL l l = true
  | [], _ => by simp only [D.beqL]
  | d :: r, h => by
    simp only [D.pyL] at h
    have h1 : d.py.isSome = true := by
      cases q : d.py with
      | none => rw [q] at h; cases h
      | some p => rfl
    have h2 : (D.pyL r).isSome = true := by
      cases q : D.pyL r with
      | none => rw [q] at h; cases hq : d.py <;> rw [hq] at h <;> cases h
      | some p => rfl
    simp only [D.beqL, D.beq_refl d h1, D.beqL_refl r h2, Bool.and_self]
end
theorem eqD_dct {k : List (D × D)} (h : (k.all fun p => p.1.isKey1 && shp p.2) = true) : eqD (.dct k) (.dct k) = some true := by
  have hb : D.beqK k k = true := by
    induction k with
    | nil => simp only [D.beqK]
    | cons p r ih =>
      obtain ⟨a, b⟩ := p
      rw [List.all_cons, Bool.and_eq_true, Bool.and_eq_true] at h
      have h1 : D.beq a a = true := by
        have := h.1.1
        cases a <;> first | (simp only [D.beq, beq_self_eq_true]; done) | cases this
      have h2 : D.beq b b = true := D.beq_refl b (by
        have := h.1.2; unfold shp at this
        cases q : b.py with
        | none => rw [q] at this; cases this
        | some p => rfl)
      simp only [D.beqK, h1, h2, ih h.2, Bool.and_self]
  unfold eqD
  show (if D.beqK k k && k.all (fun p => p.1.isKey1 && shp p.2) then some true else none) = _
  rw [hb, h]; rfl
theorem shp_zeros (n : Nat) : shp (.lst (List.replicate n [D.int 0]).flatten) = true := by
  have h : ∀ n, D.leafL (List.replicate n [D.int 0]).flatten = true ∧ D.dpL (List.replicate n [D.int 0]).flatten = 0 := fun n => by
    induction n with
    | zero => exact ⟨by simp only [List.replicate_zero, List.flatten_nil, D.leafL], by simp only [List.replicate_zero, List.flatten_nil, D.dpL]⟩
    | succ n ih =>
      rw [List.replicate_succ, List.flatten_cons, x_cons_app, x_nil_app]
      refine ⟨?_, ?_⟩
      · rw [leafL_cons, ih.1, leaf_int]; decide
      · rw [dpL_cons, ih.2, dp_int]; rfl
  exact shp_leaf (by rw [leaf_lst]; exact (h n).1) (by rw [dp_lst, (h n).2]; omega)
end Fw
set_option linter.all false
set_option maxRecDepth 100000
namespace Fw
namespace LawX
open PySem (Str)
abbrev b_is_number : C := (.ret (.and (.isi (.var 0) [.int]) (.not (.isi (.var 0) [.bool]))))
abbrev b_is_index : C := (.ret (.and (.call 1 (.cons (.var 0) .nil)) (.cmp .ge (.var 0) (.lit (.int (0))))))
abbrev b_is_word : C := (.ret (.and (.call 2 (.cons (.var 0) .nil)) (.cmp .lt (.var 0) (.lit (.int (65536))))))
abbrev b_is_op : C := (.ret (.and (.isi (.var 0) [.str]) (.cmp .isIn (.var 0) (.lit (.kt [(.str (S "add")), (.str (S "sub")), (.str (S "mul")), (.str (S "div")), (.str (S "mod"))])))))
abbrev b_is_test : C := (.ret (.and (.isi (.var 0) [.str]) (.cmp .isIn (.var 0) (.lit (.kt [(.str (S "eq")), (.str (S "ne")), (.str (S "lt")), (.str (S "ge"))])))))
abbrev b_done_3 : C := (.ret (.bin .mod (.ite (.cmp .eq (.var 0) (.lit (.str (S "sub")))) (.bin .sub (.var 1) (.var 2)) (.bin .mul (.var 1) (.var 2))) (.lit (.int (65536)))))
abbrev b_done_2 : C := (.seq (.ifs (.cmp .eq (.var 0) (.lit (.str (S "add")))) (.ret (.bin .mod (.bin .add (.var 1) (.var 2)) (.lit (.int (65536))))) .pass) b_done_3)
abbrev b_done_1 : C := (.seq (.ifs (.cmp .isIn (.var 0) (.tup (.cons (.lit (.str (S "div"))) (.cons (.lit (.str (S "mod"))) .nil)))) (.seq (.ifs (.cmp .eq (.var 2) (.lit (.int (0)))) (.ret (.lit .non)) .pass) (.ret (.ite (.cmp .eq (.var 0) (.lit (.str (S "div")))) (.bin .fdiv (.var 1) (.var 2)) (.bin .mod (.var 1) (.var 2))))) .pass) b_done_2)
abbrev b_done : C := (.seq (.ifs (.or (.not (.call 4 (.cons (.var 0) .nil))) (.or (.not (.call 3 (.cons (.var 1) .nil))) (.not (.call 3 (.cons (.var 2) .nil))))) (.raise 0 .nil) .pass) b_done_1)
abbrev b_holds_2 : C := (.ret (.cmp .eq (.cmp .lt (.var 1) (.var 2)) (.cmp .eq (.var 0) (.lit (.str (S "lt"))))))
abbrev b_holds_1 : C := (.seq (.ifs (.cmp .isIn (.var 0) (.tup (.cons (.lit (.str (S "eq"))) (.cons (.lit (.str (S "ne"))) .nil)))) (.ret (.cmp .eq (.cmp .eq (.var 1) (.var 2)) (.cmp .eq (.var 0) (.lit (.str (S "eq")))))) .pass) b_holds_2)
abbrev b_holds : C := (.seq (.ifs (.or (.not (.call 5 (.cons (.var 0) .nil))) (.or (.not (.call 3 (.cons (.var 1) .nil))) (.not (.call 3 (.cons (.var 2) .nil))))) (.raise 0 .nil) .pass) b_holds_1)
abbrev b_against_1 : C := (.ret (.sub (.dct (.consK (.lit (.str (S "eq"))) (.lit (.str (S "ne"))) (.consK (.lit (.str (S "ne"))) (.lit (.str (S "eq"))) (.consK (.lit (.str (S "lt"))) (.lit (.str (S "ge"))) (.consK (.lit (.str (S "ge"))) (.lit (.str (S "lt"))) .nil))))) (.var 0)))
abbrev b_against : C := (.seq (.ifs (.not (.call 5 (.cons (.var 0) .nil))) (.raise 0 .nil) .pass) b_against_1)
abbrev b_gathered : C := (.ret (.dcomp [1, 2] (.var 1) (.bin .mul (.lst (.cons (.lit (.int (0))) .nil)) (.var 2)) (.tup (.cons (.var 1) (.cons (.var 2) .nil))) (.itv (.var 0)) .nil .nil))
abbrev b__law_ops : C := (.ret (.lst (.cons (.lit (.str (S "add"))) (.cons (.lit (.str (S "sub"))) (.cons (.lit (.str (S "mul"))) (.cons (.lit (.str (S "div"))) (.cons (.lit (.str (S "mod"))) .nil)))))))
abbrev b__law_done_1 : C := (.ret (.bin .mod (.bi .int (.cons (.ite (.cmp .eq (.var 0) (.lit (.str (S "add")))) (.bin .add (.var 1) (.var 2)) (.ite (.cmp .eq (.var 0) (.lit (.str (S "sub")))) (.bin .sub (.var 1) (.var 2)) (.bin .mul (.var 1) (.var 2)))) .nil)) (.lit (.int (65536)))))
abbrev b__law_done : C := (.seq (.ifs (.cmp .isIn (.var 0) (.tup (.cons (.lit (.str (S "div"))) (.cons (.lit (.str (S "mod"))) .nil)))) (.ret (.ite (.cmp .eq (.var 2) (.lit (.int (0)))) (.lit .non) (.ite (.cmp .eq (.var 0) (.lit (.str (S "div")))) (.bin .fdiv (.var 1) (.var 2)) (.bin .mod (.bi .int (.cons (.var 1) .nil)) (.bi .int (.cons (.var 2) .nil)))))) .pass) b__law_done_1)
abbrev b__law_holds : C := (.ret (.ite (.cmp .eq (.var 0) (.lit (.str (S "eq")))) (.cmp .eq (.var 1) (.var 2)) (.ite (.cmp .eq (.var 0) (.lit (.str (S "ne")))) (.cmp .ne (.var 1) (.var 2)) (.ite (.cmp .eq (.var 0) (.lit (.str (S "lt")))) (.cmp .lt (.var 1) (.var 2)) (.cmp .ge (.var 1) (.var 2))))))
def b_law_2_L_1_L : C := (.ifs (.not (.call 13 (.cons (.call 6 (.cons (.var 7) (.cons (.var 4) (.cons (.var 5) .nil)))) (.cons (.call 15 (.cons (.var 7) (.cons (.var 4) (.cons (.var 5) .nil)))) .nil)))) (.ret (.lit (.bl false))) .pass)
def b_law_2_L_2_L : C := (.ifs (.not (.call 13 (.cons (.lst (.cons (.call 7 (.cons (.var 8) (.cons (.var 4) (.cons (.var 5) .nil)))) (.cons (.call 7 (.cons (.call 8 (.cons (.var 8) .nil)) (.cons (.var 4) (.cons (.var 5) .nil)))) .nil))) (.cons (.lst (.cons (.call 16 (.cons (.var 8) (.cons (.var 4) (.cons (.var 5) .nil)))) (.cons (.not (.call 16 (.cons (.var 8) (.cons (.var 4) (.cons (.var 5) .nil))))) .nil))) .nil)))) (.ret (.lit (.bl false))) .pass)
def b_law_2_L_2 : C := (.for_ (.var 8) (.itv (.tup (.cons (.lit (.str (S "eq"))) (.cons (.lit (.str (S "ne"))) (.cons (.lit (.str (S "lt"))) (.cons (.lit (.str (S "ge"))) .nil)))))) b_law_2_L_2_L)
def b_law_2_L_1 : C := (.seq (.for_ (.var 7) (.itv (.call 14 .nil)) b_law_2_L_1_L) b_law_2_L_2)
def b_law_2_L : C := (.seq (.asg (.tup (.cons (.var 4) (.cons (.var 5) .nil))) (.comp [6] (.ite (.cmp .eq (.call 11 (.cons (.var 1) (.cons (.lit (.int (2))) .nil))) (.lit (.int (0)))) (.call 12 (.cons (.var 1) (.cons (.var 2) .nil))) (.call 11 (.cons (.var 1) (.cons (.lit (.int (65536))) .nil)))) (.var 6) (.rng1 (.lit (.int (2)))) .nil .nil)) b_law_2_L_1)
def b_law_10 : C := (.ret (.cmp .eq (.var 14) (.bin .mul (.lst (.cons (.tup (.cons (.lit (.str (S "nothing"))) .nil)) .nil)) (.lit (.int (3))))))
def b_law_9 : C := (.seq (.expr (.mu .append (.var 14) (.cons (.heard (S "told") (.consH 0 (S "nothing") .nil) (.call 6 (.cons (.call 12 (.cons (.var 1) (.cons (.lst (.cons (.lit (.str (S "and"))) (.cons (.lit .non) (.cons (.lit (.str (S "eq"))) (.cons (.lit (.int (1))) .nil))))) .nil))) (.cons (.lit (.int (1))) (.cons (.lit (.int (1))) .nil))))) .nil))) b_law_10)
def b_law_8 : C := (.seq (.expr (.mu .append (.var 14) (.cons (.heard (S "told") (.consH 0 (S "nothing") .nil) (.call 6 (.cons (.lit (.str (S "div"))) (.cons (.lit (.int (1))) (.cons (.var 13) .nil))))) .nil))) b_law_9)
def b_law_7 : C := (.seq (.asg (.var 14) (.lst (.cons (.heard (S "told") (.consH 0 (S "nothing") .nil) (.call 6 (.cons (.lit (.str (S "add"))) (.cons (.var 13) (.cons (.lit (.int (1))) .nil))))) .nil))) b_law_8)
def b_law_6 : C := (.seq (.asg (.var 13) (.call 12 (.cons (.var 1) (.cons (.lst (.cons (.neg (.lit (.int (1)))) (.cons (.lit (.int (65536))) (.cons (.lit (.bl true)) (.cons (.lit .non) (.cons (.lit (.str (S "1"))) (.cons (.tup (.cons (.lit (.int (1))) .nil)) .nil))))))) .nil)))) b_law_7)
def b_law_5 : C := (.seq (.ifs (.cmp .ne (.var 11) (.bi .dict (.cons (.comp [10, 12] (.tup (.cons (.var 10) (.cons (.bin .mul (.lst (.cons (.lit (.int (0))) .nil)) (.var 12)) .nil))) (.tup (.cons (.var 10) (.cons (.var 12) .nil))) (.itv (.var 9)) .nil .nil) .nil))) (.ret (.lit (.bl false))) .pass) b_law_6)
def b_law_4 : C := (.seq (.asg (.var 11) (.call 9 (.cons (.var 9) .nil))) b_law_5)
def b_law_3 : C := (.seq (.asg (.var 9) (.bi .tuple (.cons (.comp [10] (.tup (.cons (.var 10) (.cons (.call 11 (.cons (.var 1) (.cons (.lit (.int (5))) .nil))) .nil))) (.var 10) (.itv (.slc (.tup (.cons (.lit (.str (S "a"))) (.cons (.lit (.str (S "b"))) (.cons (.lit (.str (S "c"))) .nil)))) .nil (.call 11 (.cons (.var 1) (.cons (.lit (.int (4))) .nil))))) .nil .nil) .nil))) b_law_4)
def b_law_2 : C := (.seq (.for_ (.var 3) (.rng1 (.lit (.int (40)))) b_law_2_L) b_law_3)
def b_law_1 : C := (.seq (.asg (.var 2) (.lst (.cons (.lit (.int (0))) (.cons (.lit (.int (1))) (.cons (.lit (.int (2))) (.cons (.lit (.int (3))) (.cons (.lit (.int (255))) (.cons (.lit (.int (256))) (.cons (.lit (.int (32767))) (.cons (.lit (.int (32768))) (.cons (.lit (.int (65534))) (.cons (.lit (.int (65535))) .nil)))))))))))) b_law_2)
def b_law : C := (.seq (.asg (.var 1) (.call 10 (.cons (.var 0) .nil))) b_law_1)
structure Tab (T : Nat → Option Fn) : Prop where
  t_is_number : T 1 = some (⟨1, 1, b_is_number⟩)
  t_is_index : T 2 = some (⟨1, 1, b_is_index⟩)
  t_is_word : T 3 = some (⟨1, 1, b_is_word⟩)
  t_is_op : T 4 = some (⟨1, 1, b_is_op⟩)
  t_is_test : T 5 = some (⟨1, 1, b_is_test⟩)
  t_done : T 6 = some (⟨3, 3, b_done⟩)
  t_holds : T 7 = some (⟨3, 3, b_holds⟩)
  t_against : T 8 = some (⟨1, 1, b_against⟩)
  t_gathered : T 9 = some (⟨1, 3, b_gathered⟩)
  t__law_bag : T 10 = some (bagFn)
  t__law_take : T 11 = some (takeFn)
  t__law_some : T 12 = some (someFn 11)
  t__law_alike : T 13 = some (alikeFn)
  t__law_ops : T 14 = some (⟨0, 0, b__law_ops⟩)
  t__law_done : T 15 = some (⟨3, 3, b__law_done⟩)
  t__law_holds : T 16 = some (⟨3, 3, b__law_holds⟩)
  t_law : T 18 = some (⟨1, 15, b_law⟩)
theorem r_is_number {T : Nat → Option Fn} (tb : Tab T) (k : Nat) (hp : List HObj) (Q : Bool → D → List HObj → Prop) (E : Exc → List HObj → Prop) (a0 : D) : wpC (callN T (k + 1) 1 [a0] hp) Q E = wp (evS (callN T k) b_is_number) ⟨[.val a0], hp⟩ (fun fl s => retQ fl (Q false .non s.hp) (fun b d => Q b d s.hp)) (fun e s => E e s.hp) := wpC_run' tb.t_is_number rfl
theorem r_is_index {T : Nat → Option Fn} (tb : Tab T) (k : Nat) (hp : List HObj) (Q : Bool → D → List HObj → Prop) (E : Exc → List HObj → Prop) (a0 : D) : wpC (callN T (k + 1) 2 [a0] hp) Q E = wp (evS (callN T k) b_is_index) ⟨[.val a0], hp⟩ (fun fl s => retQ fl (Q false .non s.hp) (fun b d => Q b d s.hp)) (fun e s => E e s.hp) := wpC_run' tb.t_is_index rfl
theorem r_is_word {T : Nat → Option Fn} (tb : Tab T) (k : Nat) (hp : List HObj) (Q : Bool → D → List HObj → Prop) (E : Exc → List HObj → Prop) (a0 : D) : wpC (callN T (k + 1) 3 [a0] hp) Q E = wp (evS (callN T k) b_is_word) ⟨[.val a0], hp⟩ (fun fl s => retQ fl (Q false .non s.hp) (fun b d => Q b d s.hp)) (fun e s => E e s.hp) := wpC_run' tb.t_is_word rfl
theorem r_is_op {T : Nat → Option Fn} (tb : Tab T) (k : Nat) (hp : List HObj) (Q : Bool → D → List HObj → Prop) (E : Exc → List HObj → Prop) (a0 : D) : wpC (callN T (k + 1) 4 [a0] hp) Q E = wp (evS (callN T k) b_is_op) ⟨[.val a0], hp⟩ (fun fl s => retQ fl (Q false .non s.hp) (fun b d => Q b d s.hp)) (fun e s => E e s.hp) := wpC_run' tb.t_is_op rfl
theorem r_is_test {T : Nat → Option Fn} (tb : Tab T) (k : Nat) (hp : List HObj) (Q : Bool → D → List HObj → Prop) (E : Exc → List HObj → Prop) (a0 : D) : wpC (callN T (k + 1) 5 [a0] hp) Q E = wp (evS (callN T k) b_is_test) ⟨[.val a0], hp⟩ (fun fl s => retQ fl (Q false .non s.hp) (fun b d => Q b d s.hp)) (fun e s => E e s.hp) := wpC_run' tb.t_is_test rfl
theorem r_done {T : Nat → Option Fn} (tb : Tab T) (k : Nat) (hp : List HObj) (Q : Bool → D → List HObj → Prop) (E : Exc → List HObj → Prop) (a0 a1 a2 : D) : wpC (callN T (k + 1) 6 [a0, a1, a2] hp) Q E = wp (evS (callN T k) b_done) ⟨[.val a0, .val a1, .val a2], hp⟩ (fun fl s => retQ fl (Q false .non s.hp) (fun b d => Q b d s.hp)) (fun e s => E e s.hp) := wpC_run' tb.t_done rfl
theorem r_holds {T : Nat → Option Fn} (tb : Tab T) (k : Nat) (hp : List HObj) (Q : Bool → D → List HObj → Prop) (E : Exc → List HObj → Prop) (a0 a1 a2 : D) : wpC (callN T (k + 1) 7 [a0, a1, a2] hp) Q E = wp (evS (callN T k) b_holds) ⟨[.val a0, .val a1, .val a2], hp⟩ (fun fl s => retQ fl (Q false .non s.hp) (fun b d => Q b d s.hp)) (fun e s => E e s.hp) := wpC_run' tb.t_holds rfl
theorem r_against {T : Nat → Option Fn} (tb : Tab T) (k : Nat) (hp : List HObj) (Q : Bool → D → List HObj → Prop) (E : Exc → List HObj → Prop) (a0 : D) : wpC (callN T (k + 1) 8 [a0] hp) Q E = wp (evS (callN T k) b_against) ⟨[.val a0], hp⟩ (fun fl s => retQ fl (Q false .non s.hp) (fun b d => Q b d s.hp)) (fun e s => E e s.hp) := wpC_run' tb.t_against rfl
theorem r_gathered {T : Nat → Option Fn} (tb : Tab T) (k : Nat) (hp : List HObj) (Q : Bool → D → List HObj → Prop) (E : Exc → List HObj → Prop) (a0 : D) : wpC (callN T (k + 1) 9 [a0] hp) Q E = wp (evS (callN T k) b_gathered) ⟨[.val a0, .none, .none], hp⟩ (fun fl s => retQ fl (Q false .non s.hp) (fun b d => Q b d s.hp)) (fun e s => E e s.hp) := wpC_run' tb.t_gathered rfl
theorem r__law_ops {T : Nat → Option Fn} (tb : Tab T) (k : Nat) (hp : List HObj) (Q : Bool → D → List HObj → Prop) (E : Exc → List HObj → Prop) : wpC (callN T (k + 1) 14 [] hp) Q E = wp (evS (callN T k) b__law_ops) ⟨[], hp⟩ (fun fl s => retQ fl (Q false .non s.hp) (fun b d => Q b d s.hp)) (fun e s => E e s.hp) := wpC_run' tb.t__law_ops rfl
theorem r__law_done {T : Nat → Option Fn} (tb : Tab T) (k : Nat) (hp : List HObj) (Q : Bool → D → List HObj → Prop) (E : Exc → List HObj → Prop) (a0 a1 a2 : D) : wpC (callN T (k + 1) 15 [a0, a1, a2] hp) Q E = wp (evS (callN T k) b__law_done) ⟨[.val a0, .val a1, .val a2], hp⟩ (fun fl s => retQ fl (Q false .non s.hp) (fun b d => Q b d s.hp)) (fun e s => E e s.hp) := wpC_run' tb.t__law_done rfl
theorem r__law_holds {T : Nat → Option Fn} (tb : Tab T) (k : Nat) (hp : List HObj) (Q : Bool → D → List HObj → Prop) (E : Exc → List HObj → Prop) (a0 a1 a2 : D) : wpC (callN T (k + 1) 16 [a0, a1, a2] hp) Q E = wp (evS (callN T k) b__law_holds) ⟨[.val a0, .val a1, .val a2], hp⟩ (fun fl s => retQ fl (Q false .non s.hp) (fun b d => Q b d s.hp)) (fun e s => E e s.hp) := wpC_run' tb.t__law_holds rfl
theorem r_law {T : Nat → Option Fn} (tb : Tab T) (k : Nat) (hp : List HObj) (Q : Bool → D → List HObj → Prop) (E : Exc → List HObj → Prop) (a0 : D) : wpC (callN T (k + 1) 18 [a0] hp) Q E = wp (evS (callN T k) b_law) ⟨[.val a0, .none, .none, .none, .none, .none, .none, .none, .none, .none, .none, .none, .none, .none, .none], hp⟩ (fun fl s => retQ fl (Q false .non s.hp) (fun b d => Q b d s.hp)) (fun e s => E e s.hp) := wpC_run' tb.t_law rfl
end LawX
end Fw
set_option linter.all false
set_option Elab.async false
set_option maxRecDepth 100000
set_option maxHeartbeats 0
namespace Fw
namespace LawX
open PySem (Str PyData sizeLine)
local macro_rules | `(tactic| array_get_dec) => `(tactic| simp -implicitDefEqProofs -dsimp only [Fw.slotQ_val, Fw.slotQ_own, Fw.slotQ_none, Fw.slotQ_non, Fw.optQ_some, Fw.optQ_none, Fw.optQ_ite, Fw.oo_some, Fw.oo_none, Fw.flQ_nx, Fw.flQ_ret, Fw.flQ_brk, Fw.flQ_cont, Fw.retQ_nx, Fw.retQ_ret, Fw.turnQ_nx, Fw.turnQ_ret, Fw.turnQ_brk, Fw.turnQ_cont, Fw.objQ_lst, Fw.objQ_dct, Fw.objQ_ins, Fw.wpC_ok, Fw.wpC_exc, Fw.wpC_ite, ↓Fw.wp_bind, ↓Fw.wp_pure, ↓Fw.wp_stk, ↓Fw.wp_lift, ↓Fw.wp_ite, ↓Fw.wp_var, ↓Fw.wp_lit, ↓Fw.wp_readOp, ↓Fw.wp_res_own, ↓Fw.wp_res_ref, ↓Fw.wp_res_non, ↓Fw.wp_res_bl, ↓Fw.wp_res_int, ↓Fw.wp_res_str, ↓Fw.wp_res_tup, ↓Fw.wp_res_lst, ↓Fw.wp_res_dct, ↓Fw.wp_res_kt, ↓Fw.wp_res_kd, ↓Fw.wp_res_scr, ↓Fw.wp_res_fn, ↓Fw.wp_ress_nil, ↓Fw.wp_ress_cons, ↓Fw.wp_opd_var, ↓Fw.wp_opd_lit, ↓Fw.wp_opd_bin, ↓Fw.wp_opd_neg, ↓Fw.wp_opd_not, ↓Fw.wp_opd_and, ↓Fw.wp_opd_or, ↓Fw.wp_opd_ite, ↓Fw.wp_opd_cmp, ↓Fw.wp_opd_cmp2, ↓Fw.wp_opd_tup, ↓Fw.wp_opd_lst, ↓Fw.wp_opd_dct, ↓Fw.wp_opd_sub, ↓Fw.wp_opd_slc, ↓Fw.wp_opd_rev, ↓Fw.wp_opd_call, ↓Fw.wp_opd_callv, ↓Fw.wp_opd_isi, ↓Fw.wp_opd_bi, ↓Fw.wp_opd_me, ↓Fw.wp_opd_mu, ↓Fw.wp_opd_muR, ↓Fw.wp_opd_comp, ↓Fw.wp_opd_dcomp, ↓Fw.wp_opd_heard, ↓Fw.wp_opd_ofit, ↓Fw.wp_opd_box, ↓Fw.wp_tst_var, ↓Fw.wp_tst_lit, ↓Fw.wp_tst_bin, ↓Fw.wp_tst_not, ↓Fw.wp_tst_and, ↓Fw.wp_tst_or, ↓Fw.wp_tst_ite, ↓Fw.wp_tst_cmp, ↓Fw.wp_tst_cmp2, ↓Fw.wp_tst_sub, ↓Fw.wp_tst_call, ↓Fw.wp_tst_callv, ↓Fw.wp_tst_isi, ↓Fw.wp_tst_bi, ↓Fw.wp_tst_comp, ↓Fw.wp_setSlot, ↓Fw.wp_store_own, ↓Fw.wp_store_lst, ↓Fw.wp_store_dct, ↓Fw.wp_boxM, ↓Fw.wp_boxM_dct, ↓Fw.wp_ask, ↓Fw.wp_part_nil, ↓Fw.wp_part_var, ↓Fw.wp_part_lit, ↓Fw.wp_part_bin, ↓Fw.wp_part_sub, ↓Fw.wp_part_call, ↓Fw.wp_part_bi, ↓Fw.wp_callM, ↓Fw.wp_fnAt, ↓Fw.wp_srcOf, ↓Fw.wp_srcOf_ref, ↓Fw.wp_bin, ↓Fw.wp_neg, ↓Fw.wp_not, ↓Fw.wp_and, ↓Fw.wp_or, ↓Fw.wp_iteF, ↓Fw.wp_cmp, ↓Fw.wp_cmp2, ↓Fw.wp_tup, ↓Fw.wp_lst, ↓Fw.wp_dct, ↓Fw.wp_sub, ↓Fw.wp_slc, ↓Fw.wp_rev, ↓Fw.wp_call, ↓Fw.wp_callv, ↓Fw.wp_isi, ↓Fw.wp_bi, ↓Fw.wp_me, ↓Fw.wp_mu, ↓Fw.wp_muR, ↓Fw.wp_box, ↓Fw.wp_ofit, ↓Fw.wp_heard, ↓Fw.wp_evH_nil, ↓Fw.wp_evH_cons, ↓Fw.wp_evL_nil, ↓Fw.wp_evL_cons, ↓Fw.wp_evL_consS, ↓Fw.wp_evO_nil, ↓Fw.wp_evO_cons, ↓Fw.wp_evK_nil, ↓Fw.wp_evK_cons, ↓Fw.wp_evK_upd, ↓Fw.wp_evC_nil, ↓Fw.wp_evC_cons, ↓Fw.wp_rng1, ↓Fw.wp_rng2, ↓Fw.wp_enu, ↓Fw.wp_zip, ↓Fw.wp_items, ↓Fw.wp_vals, ↓Fw.wp_itemsR, ↓Fw.wp_valsR, ↓Fw.wp_itv, ↓Fw.wp_clr, ↓Fw.wp_inner, ↓Fw.wp_turnG, ↓Fw.wp_elL, ↓Fw.wp_elK, ↓Fw.wp_comp, ↓Fw.wp_dcomp, ↓Fw.wp_evG_nil, ↓Fw.wp_evG_gen, ↓Fw.wp_collS_inl, ↓Fw.wp_collS_inr, ↓Fw.wp_coll_nil, ↓Fw.wp_coll_cons, ↓Fw.wp_over_inl, ↓Fw.wp_over_inr, ↓Fw.wp_walk_nil, ↓Fw.wp_walk_cons, ↓Fw.wp_turnB, ↓Fw.wp_asgVar_own, ↓Fw.wp_asgVar_val, ↓Fw.wp_asgT_var, ↓Fw.wp_asgT_tup, ↓Fw.wp_asgVars_nil, ↓Fw.wp_asgVars_cons, ↓Fw.wp_asg1_var, ↓Fw.wp_asg1_tup, ↓Fw.wp_asg1_sub, ↓Fw.wp_evFs_nil, ↓Fw.wp_evFs_cons, ↓Fw.wp_asgs_nil, ↓Fw.wp_asgs_cons, ↓Fw.wp_pass, ↓Fw.wp_seq, ↓Fw.wp_expr, ↓Fw.wp_asg, ↓Fw.wp_asgTS, ↓Fw.wp_augV, ↓Fw.wp_augS, ↓Fw.wp_retV, ↓Fw.wp_ret, ↓Fw.wp_retN, ↓Fw.wp_ifs, ↓Fw.wp_for, ↓Fw.wp_brk, ↓Fw.wp_cont, ↓Fw.wp_raise, Fw.x_map_cons, Fw.x_map_nil, Fw.x_cons_app, Fw.x_nil_app, Fw.x_app_nil, Fw.x_rep_succ, Fw.x_rep_zero, Fw.x_get_zero, Fw.x_get_succ, Fw.x_set_zero, Fw.x_set_succ, Fw.x_len_nil, Fw.x_len_cons, Fw.x_omap_some, Fw.x_omap_none, Fw.x_obind_some, Fw.x_obind_none, Fw.x_getD_some, Fw.x_getD_none, Fw.x_omap_ite, Fw.x_obind_ite, Fw.x_flat_nil, Fw.x_flat_cons, Fw.x_all_nil, Fw.x_all_cons, Fw.x_any_nil, Fw.x_any_cons, Fw.x_size, Fw.x_beq_true, Fw.x_bne_true, Fw.x_dec_true, Fw.x_not_true, Fw.x_tt, Fw.x_ft, Fw.x_tf, Fw.x_ff, Fw.x_nt, Fw.x_nf, Fw.x_at, Fw.x_af, Fw.x_ta, Fw.x_ot, Fw.x_of, Fw.x_if_true, Fw.x_if_false, Fw.x_ixOf_0, Fw.x_ixOf_1, Fw.x_ixOf_2, Fw.x_ixOf_3, Fw.x_ixOf_4, Fw.x_ixOf_5, Fw.x_ixOf_6, Fw.x_ixOf_7, Fw.x_ixOf_8, Fw.x_ixOf_9, Fw.x_ixOf_10, Fw.x_ixOf_11, Fw.x_pos_succ, Fw.x_max_0, Fw.x_0_max, Fw.x_max_self, Fw.x_10, Fw.clrFr_nil, Fw.clrFr_cons, Fw.putFr_nil, Fw.putFr_cons, Fw.notOwn_none, Fw.notOwn_val, Fw.notOwn_own, Fw.isKey1_int, Fw.isKey1_str, Fw.isKey1_tup, Fw.kdOf_non, Fw.kdOf_int, Fw.kdOf_bl, Fw.kdOf_str, Fw.kdOf_tup, Fw.kdOf_kt, Fw.kdOf_lst, Fw.kdOf_dct, Fw.S_eq, Fw.S_beq, Fw.eqD_int, Fw.eqD_bl, Fw.eqD_str, Fw.kdIs_non_int, Fw.kdIs_non_bool, Fw.kdIs_non_str, Fw.kdIs_non_tuple, Fw.kdIs_non_list, Fw.kdIs_non_dict, Fw.kdIs_int_int, Fw.kdIs_int_bool, Fw.kdIs_int_str, Fw.kdIs_int_tuple, Fw.kdIs_int_list, Fw.kdIs_int_dict, Fw.kdIs_bool_int, Fw.kdIs_bool_bool, Fw.kdIs_bool_str, Fw.kdIs_bool_tuple, Fw.kdIs_bool_list, Fw.kdIs_bool_dict, Fw.kdIs_str_int, Fw.kdIs_str_bool, Fw.kdIs_str_str, Fw.kdIs_str_tuple, Fw.kdIs_str_list, Fw.kdIs_str_dict, Fw.kdIs_tuple_int, Fw.kdIs_tuple_bool, Fw.kdIs_tuple_str, Fw.kdIs_tuple_tuple, Fw.kdIs_tuple_list, Fw.kdIs_tuple_dict, Fw.kdIs_list_int, Fw.kdIs_list_bool, Fw.kdIs_list_str, Fw.kdIs_list_tuple, Fw.kdIs_list_list, Fw.kdIs_list_dict, Fw.kdIs_dict_int, Fw.kdIs_dict_bool, Fw.kdIs_dict_str, Fw.kdIs_dict_tuple, Fw.kdIs_dict_list, Fw.kdIs_dict_dict, Fw.look_nil, Fw.look_cons, Fw.put_nil, Fw.put_cons, Fw.merge_nil, Fw.merge_cons, Fw.fits_def, Fw.beq_int, Fw.beq_str, Fw.beq_tup, Fw.beqL_nil, Fw.beqL_cons, Fw.beq_int_str, Fw.beq_str_int, Fw.pairsOf_nil, Fw.pairsOf_cons, Fw.boolsOf_nil, Fw.boolsOf_cons, Fw.tnames_nil, Fw.tnames_cons, Fw.memD_nil_str, Fw.memD_str_str, Fw.memD_str_int, Fw.memD_str_non, Fw.memD_str_bl, Fw.memD_nil_int, Fw.memD_int_str, Fw.memD_int_int, Fw.memD_int_non, Fw.memD_int_bl, Fw.memD_nil_non, Fw.memD_non_str, Fw.memD_non_int, Fw.memD_non_non, Fw.memD_non_bl, Fw.memD_nil_bl, Fw.memD_bl_str, Fw.memD_bl_int, Fw.memD_bl_non, Fw.memD_bl_bl, Fw.eqD_str_int, Fw.eqD_str_non, Fw.eqD_str_bl, Fw.eqD_int_str, Fw.eqD_int_non, Fw.eqD_int_bl, Fw.eqD_non_str, Fw.eqD_non_int, Fw.eqD_non_non, Fw.eqD_non_bl, Fw.eqD_bl_str, Fw.eqD_bl_int, Fw.eqD_bl_non, Fw.binop_add_int, Fw.binop_sub_int, Fw.binop_mul_int, Fw.binop_fdiv_int, Fw.binop_mod_int, Fw.binop_pow_int, Fw.binop_add_lst, Fw.binop_add_tup, Fw.binop_mul_lst, Fw.negD_int, Fw.augD_add, Fw.augD_sub, Fw.truthy_non, Fw.truthy_bl, Fw.truthy_int, Fw.truthy_lst, Fw.truthy_tup, Fw.cmpop_eq, Fw.cmpop_ne, Fw.cmpop_lt, Fw.cmpop_le, Fw.cmpop_gt, Fw.cmpop_ge, Fw.cmpop_in_lst, Fw.cmpop_in_tup, Fw.cmpop_in_kt, Fw.cmpop_nin_lst, Fw.cmpop_nin_tup, Fw.cmpop_nin_kt, Fw.subD_lst, Fw.subD_tup, Fw.subD_kt, Fw.subD_dct, Fw.atD_0, Fw.atD_1, Fw.atD_2, Fw.atD_3, Fw.setop_lst, Fw.setop_dct, Fw.intOf_int, Fw.sliceD_lst, Fw.sliceD_scr, Fw.sliceD_tup, Fw.lenD_lst, Fw.lenD_tup, Fw.lenD_kt, Fw.biop_len, Fw.biop_int, Fw.biop_abs, Fw.biop_tuple_lst, Fw.biop_tuple_tup, Fw.biop_list_lst, Fw.biop_list_tup, Fw.biop_list_kt, Fw.biop_dict, Fw.biop_all, Fw.biop_any, Fw.biop_sum, Fw.biop_repr, Fw.muop_append, Fw.isTys_one, Fw.unpack_tup, Fw.unpack_lst, Fw.unpack_kt, Fw.itemsOf_tup, Fw.itemsOf_lst, Fw.itemsOf_kt, Fw.entriesOf_dct, Fw.rangeD_int, Fw.wp_srcOf_lst, Fw.wp_srcOf_tup, Fw.wp_srcOf_kt, Fw.leaf_non, Fw.leaf_bl, Fw.leaf_int, Fw.leaf_S, Fw.leaf_tup, Fw.leaf_lst, Fw.leaf_kt, Fw.leafL_nil, Fw.leafL_cons, Fw.dp_non, Fw.dp_bl, Fw.dp_int, Fw.dp_str, Fw.dp_tup, Fw.dp_lst, Fw.dp_kt, Fw.dpL_nil, Fw.dpL_cons, Fw.eqD_same, Fw.shp_zeros, *, Nat.reduceAdd, Nat.reduceSub, Nat.reduceMul, Nat.reduceMod, Nat.reducePow, Nat.reduceDiv, Nat.reduceLT, Nat.reduceLeDiff, Nat.reduceEqDiff, Nat.reduceBEq, Int.reduceAdd, Int.reduceSub, Int.reduceMul, Int.reduceNeg, Int.reducePow, Int.reduceLT, Int.reduceLE, Int.reduceEq, Int.reduceNe, Int.reduceBEq, Int.reduceToNat, Int.cast_ofNat_Int, String.reduceEq, String.reduceBEq, reduceCtorEq, and_self, and_true, true_and, or_true, true_or, not_false_eq_true, not_true_eq_false, decide_true, decide_false, and_false, false_and, or_false, false_or])
section
variable {T : Nat → Option Fn} (tb : Tab T) {k : Nat} {hp : List HObj} {o : HObj} {Q : Bool → D → List HObj → Prop} {E : Exc → List HObj → Prop}
include tb
omit tb in
theorem dec_ge (a b : Int) : decide (b ≤ a) = !decide (a < b) := by
  by_cases h : a < b
  · rw [decide_eq_true h, decide_eq_false (by omega)]; rfl
  · rw [decide_eq_false h, decide_eq_true (by omega)]; rfl
def ops : List String := ["add", "sub", "mul", "div", "mod"]
def tests : List String := ["eq", "ne", "lt", "ge"]
theorem done_pair {op : String} (h : op ∈ ops) {a b : Int} (a0 : 0 ≤ a) (a1 : a < 65536) (b0 : 0 ≤ b) (b1 : b < 65536) : ∃ d, good d = true ∧ (∀ k hp, callN T (k + 4) 6 [.str (S op), .int a, .int b] hp = .ok false d hp) ∧ (∀ k hp, callN T (k + 1) 15 [.str (S op), .int a, .int b] hp = .ok false d hp) := by
  have := r_is_number tb; have := r_is_index tb; have := r_is_word tb; have := r_is_op tb; have := r_done tb; have := r__law_done tb
  have m0 : ∀ c : Int, 0 ≤ c % 65536 ∧ c % 65536 < 65536 := fun c => by omega
  have s1 : -18446744073709551616 < a := by omega
  have s2 : a < 18446744073709551616 := by omega
  simp only [ops, List.mem_cons, List.not_mem_nil, or_false] at h
  rcases h with rfl | rfl | rfl | rfl | rfl
  · refine ⟨.int ((a + b) % 65536), good_int (by have := m0 (a + b); omega), fun k hp => wpC_eq.mp ?_, fun k hp => wpC_eq.mp ?_⟩ <;> array_get_dec
  · refine ⟨.int ((a - b) % 65536), good_int (by have := m0 (a - b); omega), fun k hp => wpC_eq.mp ?_, fun k hp => wpC_eq.mp ?_⟩ <;> array_get_dec
  · refine ⟨.int (a * b % 65536), good_int (by have := m0 (a * b); omega), fun k hp => wpC_eq.mp ?_, fun k hp => wpC_eq.mp ?_⟩ <;> array_get_dec
  · by_cases z : b = 0
    · refine ⟨.non, good_non, fun k hp => wpC_eq.mp ?_, fun k hp => wpC_eq.mp ?_⟩ <;> array_get_dec
    · have z1 : 0 < b := by omega
      have z2 : b < 1073741824 := by omega
      have z3 : 0 ≤ a / b := Int.ediv_nonneg a0 b0
      have z4 : a / b ≤ a := Int.ediv_le_self b a0
      refine ⟨.int (a / b), good_int (by omega), fun k hp => wpC_eq.mp ?_, fun k hp => wpC_eq.mp ?_⟩ <;> array_get_dec
  · by_cases z : b = 0
    · refine ⟨.non, good_non, fun k hp => wpC_eq.mp ?_, fun k hp => wpC_eq.mp ?_⟩ <;> array_get_dec
    · have z1 : 0 < b := by omega
      have z3 : 0 ≤ a % b := Int.emod_nonneg a z
      have z4 : a % b < b := Int.emod_lt_of_pos a z1
      refine ⟨.int (a % b), good_int (by omega), fun k hp => wpC_eq.mp ?_, fun k hp => wpC_eq.mp ?_⟩ <;> array_get_dec
theorem holds_pair {t : String} (h : t ∈ tests) {a b : Int} (a0 : 0 ≤ a) (a1 : a < 65536) (b0 : 0 ≤ b) (b1 : b < 65536) : ∃ (v : Bool) (u : String), (∀ k hp, callN T (k + 4) 7 [.str (S t), .int a, .int b] hp = .ok false (.bl v) hp) ∧ (∀ k hp, callN T (k + 4) 8 [.str (S t)] hp = .ok false (.str (S u)) hp) ∧ (∀ k hp, callN T (k + 4) 7 [.str (S u), .int a, .int b] hp = .ok false (.bl !v) hp) ∧ (∀ k hp, callN T (k + 1) 16 [.str (S t), .int a, .int b] hp = .ok false (.bl v) hp) := by
  have := r_is_number tb; have := r_is_index tb; have := r_is_word tb; have := r_is_test tb; have := r_holds tb; have := r_against tb; have := r__law_holds tb
  simp only [tests, List.mem_cons, List.not_mem_nil, or_false] at h
  rcases h with rfl | rfl | rfl | rfl
  · refine ⟨a == b, "ne", fun k hp => wpC_eq.mp ?_, fun k hp => wpC_eq.mp ?_, fun k hp => wpC_eq.mp ?_, fun k hp => wpC_eq.mp ?_⟩ <;> array_get_dec <;> (cases (a == b) <;> rfl)
  · refine ⟨a != b, "eq", fun k hp => wpC_eq.mp ?_, fun k hp => wpC_eq.mp ?_, fun k hp => wpC_eq.mp ?_, fun k hp => wpC_eq.mp ?_⟩ <;> array_get_dec <;> (try unfold bne; cases (a == b) <;> rfl)
  · refine ⟨decide (a < b), "ge", fun k hp => wpC_eq.mp ?_, fun k hp => wpC_eq.mp ?_, fun k hp => wpC_eq.mp ?_, fun k hp => wpC_eq.mp ?_⟩ <;> array_get_dec <;> (cases (decide (a < b)) <;> rfl)
  · refine ⟨decide (b ≤ a), "lt", fun k hp => wpC_eq.mp ?_, fun k hp => wpC_eq.mp ?_, fun k hp => wpC_eq.mp ?_, fun k hp => wpC_eq.mp ?_⟩ <;> array_get_dec <;> (rw [dec_ge]; cases (decide (a < b)) <;> rfl)
def W10 : D := .lst [.int 0, .int 1, .int 2, .int 3, .int 255, .int 256, .int 32767, .int 32768, .int 65534, .int 65535]
omit tb in
theorem w10_mem {v : D} (h : v ∈ [D.int 0, D.int 1, D.int 2, D.int 3, D.int 255, D.int 256, D.int 32767, D.int 32768, D.int 65534, D.int 65535]) : ∃ c : Int, v = .int c ∧ 0 ≤ c ∧ c < 65536 := by
  simp only [List.mem_cons, List.not_mem_nil, or_false] at h
  rcases h with rfl | rfl | rfl | rfl | rfl | rfl | rfl | rfl | rfl | rfl <;> exact ⟨_, rfl, by decide, by decide⟩
omit tb in
theorem mem_add {ws : List Int} {m c : Int} (hw : ∀ w ∈ ws, 0 ≤ w ∧ w < m) (c0 : 0 ≤ c) (c1 : c < m) : ∀ w ∈ ws ++ [c], 0 ≤ w ∧ w < m := fun w h => by
  rcases List.mem_append.mp h with h | h
  · exact hw w h
  · rw [List.mem_singleton] at h; subst h; exact ⟨c0, c1⟩
omit tb in
theorem size5 {w : Int} (h0 : 0 ≤ w) (h1 : w < 5) : -9223372036854775808 ≤ w ∧ w < 9223372036854775808 ∧ 1 * w.toNat ≤ 16777216 := by omega
theorem bad_word {v : D} (h : v ∈ [D.int (-1), D.int 65536, D.bl true, D.non, D.str (S "1"), D.tup [D.int 1]]) : (∀ k hp, callN T (k + 4) 6 [.str (S "add"), v, .int 1] hp = .exc ⟨0, []⟩ hp) ∧ ∀ k hp, callN T (k + 4) 6 [.str (S "div"), .int 1, v] hp = .exc ⟨0, []⟩ hp := by
  have := r_is_number tb; have := r_is_index tb; have := r_is_word tb; have := r_is_op tb; have := r_done tb
  simp only [List.mem_cons, List.not_mem_nil, or_false] at h
  rcases h with rfl | rfl | rfl | rfl | rfl | rfl <;> refine ⟨fun k hp => wpC_exq.mp ?_, fun k hp => wpC_exq.mp ?_⟩ <;> array_get_dec
theorem bad_op {v : D} (h : v ∈ [D.str (S "and"), D.non, D.str (S "eq"), D.int 1]) : ∀ k hp, callN T (k + 4) 6 [v, .int 1, .int 1] hp = .exc ⟨0, []⟩ hp := by
  have := r_is_op tb; have := r_done tb
  simp only [List.mem_cons, List.not_mem_nil, or_false] at h
  rcases h with rfl | rfl | rfl | rfl <;> refine fun k hp => wpC_exq.mp ?_ <;> array_get_dec
theorem tail6 {o : HObj} (ho : BagOk o) (x0 x2 x3 x4 x5 x6 x7 x8 x9 x10 x11 x12 : Slot) : wp (evS (callN T 12) b_law_6) ⟨[x0, .val (.ref 0), x2, x3, x4, x5, x6, x7, x8, x9, x10, x11, x12, .none, .none], [o]⟩ (fun fl s => retQ fl (D.non = D.bl true) (fun b d => d = .bl true)) (fun _ _ => False) := by
  unfold b_law_6 b_law_7 b_law_8 b_law_9 b_law_10
  array_get_dec
  refine spec_some_lst tb.t__law_take tb.t__law_some (by decide) (by decide) ho fun v o' hv ho' => ?_
  obtain ⟨e1, e2⟩ := bad_word tb hv
  clear ho hv
  array_get_dec
  refine spec_some_lst tb.t__law_take tb.t__law_some (by decide) (by decide) ho' fun w o hv ho => ?_
  have e3 := bad_op tb hv
  clear hv
  array_get_dec
theorem tail3 {o : HObj} (ho : BagOk o) (x0 x2 x3 x4 x5 x6 x7 x8 : Slot) : wp (evS (callN T 12) b_law_3) ⟨[x0, .val (.ref 0), x2, x3, x4, x5, x6, x7, x8, .none, .none, .none, .none, .none, .none], [o]⟩ (fun fl s => retQ fl (D.non = D.bl true) (fun b d => d = .bl true)) (fun _ _ => False) := by
  unfold b_law_3 b_law_4 b_law_5
  have := r_gathered tb
  have e := @eqD_dct
  have c0 : cut [D.str (S "a"), .str (S "b"), .str (S "c")] none (some 0) = [] := rfl
  have c1 : cut [D.str (S "a"), .str (S "b"), .str (S "c")] none (some 1) = [.str (S "a")] := rfl
  have c2 : cut [D.str (S "a"), .str (S "b"), .str (S "c")] none (some 2) = [.str (S "a"), .str (S "b")] := rfl
  have c3 : cut [D.str (S "a"), .str (S "b"), .str (S "c")] none (some 3) = [.str (S "a"), .str (S "b"), .str (S "c")] := rfl
  array_get_dec
  refine spec_take tb.t__law_take (by decide) (by decide) ho fun v o' v0 v1 ho' => ?_
  clear ho
  obtain rfl | rfl | rfl | rfl : v = 0 ∨ v = 1 ∨ v = 2 ∨ v = 3 := by omega
  · array_get_dec
    exact tail6 tb ho' _ _ _ _ _ _ _ _ _ _ _ _
  · array_get_dec
    refine spec_take tb.t__law_take (by decide) (by decide) ho' fun w1 o w10 w11 ho => ?_
    obtain ⟨a1, a2, a3⟩ := size5 w10 w11
    array_get_dec
    exact tail6 tb ho _ _ _ _ _ _ _ _ _ _ _ _
  · array_get_dec
    refine spec_take tb.t__law_take (by decide) (by decide) ho' fun w1 o w10 w11 ho => ?_
    obtain ⟨a1, a2, a3⟩ := size5 w10 w11
    clear ho'
    array_get_dec
    refine spec_take tb.t__law_take (by decide) (by decide) ho fun w2 o' w20 w21 ho' => ?_
    obtain ⟨b1, b2, b3⟩ := size5 w20 w21
    array_get_dec
    exact tail6 tb ho' _ _ _ _ _ _ _ _ _ _ _ _
  · array_get_dec
    refine spec_take tb.t__law_take (by decide) (by decide) ho' fun w1 o w10 w11 ho => ?_
    obtain ⟨a1, a2, a3⟩ := size5 w10 w11
    clear ho'
    array_get_dec
    refine spec_take tb.t__law_take (by decide) (by decide) ho fun w2 o' w20 w21 ho' => ?_
    obtain ⟨b1, b2, b3⟩ := size5 w20 w21
    clear ho
    array_get_dec
    refine spec_take tb.t__law_take (by decide) (by decide) ho' fun w3 o w30 w31 ho => ?_
    obtain ⟨d1, d2, d3⟩ := size5 w30 w31
    array_get_dec
    exact tail6 tb ho _ _ _ _ _ _ _ _ _ _ _ _
theorem plain (ns : List Int) (hl : ns.length ≤ 63) : ∃ b hp', callN T 13 18 [.scr (ns.map D.int)] [] = .ok b (.bl true) hp' := by
  refine wpC_true ?_
  have := r_law tb
  array_get_dec
  unfold b_law b_law_1 b_law_2
  array_get_dec
  refine spec_bag tb.t__law_bag hl fun o ho => ?_
  clear this
  array_get_dec
  refine wp_walk_all (fun s => ∃ o s2 s3 s4 s5 s7 s8, BagOk o ∧ (s2 = .own W10 ∨ s2 = .val W10) ∧ s = ⟨[.val (.scr (ns.map .int)), .val (.ref 0), s2, s3, s4, s5, .none, s7, s8, .none, .none, .none, .none, .none, .none], [o]⟩) ?_ ?_ ?_
  · exact ⟨o, _, _, _, _, _, _, ho, .inl rfl, rfl⟩
  · clear ho o
    unfold b_law_2_L b_law_2_L_1 b_law_2_L_2 b_law_2_L_1_L b_law_2_L_2_L
    rintro x hx s ⟨o, s2, s3, s4, s5, s7, s8, ho, h2, rfl⟩
    array_get_dec
    clear hx
    refine wp_coll (fun acc rest s => ∃ (o : HObj) (s2 sl : Slot) (ws : List Int), BagOk o ∧ (s2 = .own W10 ∨ s2 = .val W10) ∧ sl.notOwn = true ∧ acc = ws.map (fun w : Int => (D.int w, D.non)) ∧ (∀ w ∈ ws, 0 ≤ w ∧ w < 65536) ∧ ws.length + rest.length = 2 ∧ s = ⟨[.val (.scr (ns.map .int)), .val (.ref 0), s2, .val x, s4, s5, sl, s7, s8, .none, .none, .none, .none, .none, .none], [o]⟩) ?_ ?_ ?_
    · exact ⟨o, s2, .none, [], ho, h2, rfl, rfl, by simp, by simp, rfl⟩
    · clear ho h2 o s2
      rintro acc y rest s ⟨o, s2, sl, ws, ho, h2, hs, rfl, hw, hn, rfl⟩
      simp only [List.length_cons] at hn
      array_get_dec
      refine spec_take tb.t__law_take (by decide) (by decide) ho fun v o' v0 v1 ho' => ?_
      array_get_dec
      split
      · rcases h2 with rfl | rfl
        · array_get_dec
          refine spec_some_lst tb.t__law_take tb.t__law_some (by decide) (by decide) ho' fun v o'' hv ho'' => ?_
          obtain ⟨c, rfl, c0, c1⟩ := w10_mem hv
          array_get_dec
          exact ⟨_, _, _, ws ++ [c], ho'', .inr rfl, rfl, by simp, mem_add hw c0 c1, by simp; omega, rfl⟩
        · array_get_dec
          refine spec_some_lst tb.t__law_take tb.t__law_some (by decide) (by decide) ho' fun v o'' hv ho'' => ?_
          obtain ⟨c, rfl, c0, c1⟩ := w10_mem hv
          exact ⟨_, _, _, ws ++ [c], ho'', .inr rfl, rfl, by simp, mem_add hw c0 c1, by simp; omega, rfl⟩
      · refine spec_take tb.t__law_take (by decide) (by decide) ho' fun c o'' c0 c1 ho'' => ?_
        exact ⟨_, _, _, ws ++ [c], ho'', h2, rfl, by simp, mem_add hw c0 c1, by simp; omega, rfl⟩
    · rintro acc s ⟨o', s2', sl, ws, ho', h2', hs, rfl, hw, hn, rfl⟩
      obtain ⟨w1, w2, rfl⟩ : ∃ w1 w2, ws = [w1, w2] := by
        match ws, hn with
        | [a, b], _ => exact ⟨a, b, rfl⟩
      have a0 := hw w1 (by simp)
      have b0 := hw w2 (by simp)
      have := r__law_ops tb
      obtain ⟨d0, g0, e01, e02⟩ := done_pair tb (op := "add") (by simp [ops]) a0.1 a0.2 b0.1 b0.2
      have q0 := alike_eq tb.t__law_alike g0
      clear g0
      obtain ⟨d1, g1, e11, e12⟩ := done_pair tb (op := "sub") (by simp [ops]) a0.1 a0.2 b0.1 b0.2
      have q1 := alike_eq tb.t__law_alike g1
      clear g1
      obtain ⟨d2, g2, e21, e22⟩ := done_pair tb (op := "mul") (by simp [ops]) a0.1 a0.2 b0.1 b0.2
      have q2 := alike_eq tb.t__law_alike g2
      clear g2
      obtain ⟨d3, g3, e31, e32⟩ := done_pair tb (op := "div") (by simp [ops]) a0.1 a0.2 b0.1 b0.2
      have q3 := alike_eq tb.t__law_alike g3
      clear g3
      obtain ⟨d4, g4, e41, e42⟩ := done_pair tb (op := "mod") (by simp [ops]) a0.1 a0.2 b0.1 b0.2
      have q4 := alike_eq tb.t__law_alike g4
      clear g4
      obtain ⟨v0, u0, c01, c02, c03, c04⟩ := holds_pair tb (t := "eq") (by simp [tests]) a0.1 a0.2 b0.1 b0.2
      obtain ⟨v1, u1, c11, c12, c13, c14⟩ := holds_pair tb (t := "ne") (by simp [tests]) a0.1 a0.2 b0.1 b0.2
      obtain ⟨v2, u2, c21, c22, c23, c24⟩ := holds_pair tb (t := "lt") (by simp [tests]) a0.1 a0.2 b0.1 b0.2
      obtain ⟨v3, u3, c31, c32, c33, c34⟩ := holds_pair tb (t := "ge") (by simp [tests]) a0.1 a0.2 b0.1 b0.2
      have ga : ∀ v : Bool, ∀ k hp, callN T (k + 1) 13 [.lst [.bl v, .bl !v], .lst [.bl v, .bl !v]] hp = .ok false (.bl true) hp := fun v => alike_eq tb.t__law_alike (good_of (by simp [D.leaf, D.leafL]) (by simp [D.wt, D.wtL]) (by simp [D.dp, D.dpL]))
      clear hw hn a0 b0 h2 ho
      array_get_dec
      exact ⟨_, _, _, _, _, _, _, ho', h2', rfl⟩
  · clear ho o
    rintro s ⟨o, s2, s3, s4, s5, s7, s8, ho, h2, rfl⟩
    exact tail3 tb ho _ _ _ _ _ _ _ _
end
end LawX
end Fw
set_option linter.all false
set_option Elab.async false
set_option maxRecDepth 100000
set_option maxHeartbeats 0
namespace Fw
namespace LawX
open PySem PySem.Spec L2
open PyProof.Rows hiding St
def cfg : Cfg where
  fns := [S "_wall", S "is_number", S "is_index", S "is_word", S "is_op", S "is_test", S "done", S "holds", S "against", S "gathered", S "_law_bag", S "_law_take", S "_law_some", S "_law_alike", S "_law_ops", S "_law_done", S "_law_holds", S "_law_heard", S "law"]
  cons := [(S "ALL_WORDS", .int 65536),
    (S "OPS", .kt [.str (S "add"), .str (S "sub"), .str (S "mul"), .str (S "div"), .str (S "mod")]),
    (S "TESTS", .kt [.str (S "eq"), .str (S "ne"), .str (S "lt"), .str (S "ge")])]
  excs := [S "Nothing"]
  heards := [(S "_law_heard", S "told", [(0, S "nothing")])]
  boxes := [(50, 11)]
  gds := [false, false, false, false, false, false, false, false, false, false, false, false, false, true, false, false, false, false, true]
def lay : Lay where
  prog := PySem.Challenge.pw_fewregs_k01_words_reckoned
  at_ := [0, 8, 9, 10, 11, 12, 14, 15, 16, 17, 19, 20, 21, 22, 23, 24, 25, 26, 27]
  cfg := cfg
  par := [[S "k"], [S "thing"], [S "thing"], [S "thing"], [S "thing"], [S "thing"], [S "op", S "a", S "b"], [S "test", S "a", S "b"], [S "test"], [S "rows"], [S "script"], [S "bag", S "many"], [S "bag", S "things"], [S "found", S "due"], [], [S "op", S "a", S "b"], [S "test", S "a", S "b"], [S "act"], [S "script"]]
  slo := [[S "k"],
    [S "thing"],
    [S "thing"],
    [S "thing"],
    [S "thing"],
    [S "thing"],
    [S "op", S "a", S "b"],
    [S "test", S "a", S "b"],
    [S "test"],
    [S "rows", S "name", S "size"],
    [S "script", S "cell"],
    [S "bag", S "many", S "cell", S "stirred", S "value", S "begin", S "second"],
    [S "bag", S "things"],
    [S "found", S "due"],
    [],
    [S "op", S "a", S "b"],
    [S "test", S "a", S "b"],
    [S "act"],
    [S "script", S "bag", S "words", S "lap", S "a", S "b", S "k", S "op", S "test", S "rows", S "name", S "told", S "size", S "odd", S "heard"]]
  lams := [18]
  M := 300
theorem b_0 : BindOk (lay.d 0) (lay.ps 0) := fun _ _ _ _ _ _ us hl => match us, hl with | [_], _ => rfl
theorem b_1 : BindOk (lay.d 1) (lay.ps 1) := fun _ _ _ _ _ _ us hl => match us, hl with | [_], _ => rfl
theorem b_2 : BindOk (lay.d 2) (lay.ps 2) := fun _ _ _ _ _ _ us hl => match us, hl with | [_], _ => rfl
theorem b_3 : BindOk (lay.d 3) (lay.ps 3) := fun _ _ _ _ _ _ us hl => match us, hl with | [_], _ => rfl
theorem b_4 : BindOk (lay.d 4) (lay.ps 4) := fun _ _ _ _ _ _ us hl => match us, hl with | [_], _ => rfl
theorem b_5 : BindOk (lay.d 5) (lay.ps 5) := fun _ _ _ _ _ _ us hl => match us, hl with | [_], _ => rfl
theorem b_6 : BindOk (lay.d 6) (lay.ps 6) := fun _ _ _ _ _ _ us hl => match us, hl with | [_, _, _], _ => rfl
theorem b_7 : BindOk (lay.d 7) (lay.ps 7) := fun _ _ _ _ _ _ us hl => match us, hl with | [_, _, _], _ => rfl
theorem b_8 : BindOk (lay.d 8) (lay.ps 8) := fun _ _ _ _ _ _ us hl => match us, hl with | [_], _ => rfl
theorem b_9 : BindOk (lay.d 9) (lay.ps 9) := fun _ _ _ _ _ _ us hl => match us, hl with | [_], _ => rfl
theorem b_10 : BindOk (lay.d 10) (lay.ps 10) := fun _ _ _ _ _ _ us hl => match us, hl with | [_], _ => rfl
theorem b_11 : BindOk (lay.d 11) (lay.ps 11) := fun _ _ _ _ _ _ us hl => match us, hl with | [_, _], _ => rfl
theorem b_12 : BindOk (lay.d 12) (lay.ps 12) := fun _ _ _ _ _ _ us hl => match us, hl with | [_, _], _ => rfl
theorem b_13 : BindOk (lay.d 13) (lay.ps 13) := fun _ _ _ _ _ _ us hl => match us, hl with | [_, _], _ => rfl
theorem b_14 : BindOk (lay.d 14) (lay.ps 14) := fun _ _ _ _ _ _ us hl => match us, hl with | [], _ => rfl
theorem b_15 : BindOk (lay.d 15) (lay.ps 15) := fun _ _ _ _ _ _ us hl => match us, hl with | [_, _, _], _ => rfl
theorem b_16 : BindOk (lay.d 16) (lay.ps 16) := fun _ _ _ _ _ _ us hl => match us, hl with | [_, _, _], _ => rfl
theorem b_17 : BindOk (lay.d 17) (lay.ps 17) := fun _ _ _ _ _ _ us hl => match us, hl with | [_], _ => rfl
theorem b_18 : BindOk (lay.d 18) (lay.ps 18) := fun _ _ _ _ _ _ us hl => match us, hl with | [_], _ => rfl
theorem binds : ∀ i, i < lay.at_.length → BindOk (lay.d i) (lay.ps i)
  | 0, _ => b_0
  | 1, _ => b_1
  | 2, _ => b_2
  | 3, _ => b_3
  | 4, _ => b_4
  | 5, _ => b_5
  | 6, _ => b_6
  | 7, _ => b_7
  | 8, _ => b_8
  | 9, _ => b_9
  | 10, _ => b_10
  | 11, _ => b_11
  | 12, _ => b_12
  | 13, _ => b_13
  | 14, _ => b_14
  | 15, _ => b_15
  | 16, _ => b_16
  | 17, _ => b_17
  | 18, _ => b_18
  | _ + 19, h => absurd h (by show ¬ _ + 19 < 19; omega)
abbrev R : PySem.W.OpenRow := PySem.W.OpenLaw.row PySem.Challenge.rw_fewregs_k01_words_reckoned
abbrev hk : PySem.W.Hook := He.hookX 5 lay.fa lay.fn [] lay.tf lay.ex
def ob (s : PySem.W.SharedT) : He.AlX := He.obsX 5 lay.fa lay.fn [] lay.tf lay.ex (HandSHeadRun.getT s)
theorem ob_eq (s : PySem.W.SharedT) : ob s = hk.obs s.abs := He.obsX_eq (HandSHeadRun.getT_eq s)
def loose0 : List Str := ["_wall", "RegError", "Nothing", "ALL_WORDS", "OPS", "TESTS", "is_number", "is_index", "is_word", "is_op", "is_test", "done", "holds", "against", "gathered", "_law_bag", "_law_take", "_law_some", "_law_alike", "_law_ops", "_law_done", "_law_holds", "_law_heard"]
def loose : List Str := loose0
theorem run (w : World) : HandSHeadRun.RunEq R (PySem.W.view R.prog [27]) hk ob 6000 loose w := by
  intro os
  kernel_rfl
theorem text_ok : lay.ok = true := by kernel_rfl

theorem law_top (fn : Fn) (hT : lay.T 18 = some fn) (plain : ∀ ns : List Int, ns.length ≤ 63 → (∀ z ∈ ns, Builtin.Int.intBits z ≤ 1048576) → ∃ b hp', callN lay.T (12 + 1) 18 [.scr (ns.map D.int)] [] = .ok b (.bl true) hp') : PySem.Challenge.rw_fewregs_k01_words_reckoned.Holds := by
  w_on; o_law
  refine HandSHeadRun.head_any (r := PySem.W.OpenLaw.row PySem.Challenge.rw_fewregs_k01_words_reckoned) (q := PySem.W.view (PySem.W.OpenLaw.row PySem.Challenge.rw_fewregs_k01_words_reckoned).prog [27]) (H := hk) (ob := ob) (M := 6000) (loose := loose) (d := HandSHeadRun.topDef (PySem.W.OpenLaw.row PySem.Challenge.rw_fewregs_k01_words_reckoned).prog 27) (kwd := []) ob_eq
    (by kernel_rfl) (fun s => by kernel_rfl) run (by kernel_rfl) (by kernel_rfl) (by kernel_rfl) (by rfl) (by first | assumption | decide +kernel) (by decide +kernel) ⟨rfl, rfl, rfl, rfl, rfl, by decide +kernel⟩ ?hw ?hc
  case hw => w_witness2
  case hc =>
    refine walk_core (l := PySem.Challenge.rw_fewregs_k01_words_reckoned) (n := 63) (x := "script") rfl (by decide) (by kernel_rfl) ?_
    intro w mg fa h Y Gm hm
    exact lawG_of (L := lay) (j := 18) (k := 12) (n := 63) text_ok Y Gm binds (by decide) rfl hT (by
      have e : (HandSHeadRun.topDef (PySem.W.OpenLaw.row PySem.Challenge.rw_fewregs_k01_words_reckoned).prog 27).name = (lay.d 18).name := by kernel_rfl
      rw [← e]
      exact hm) ⟨rfl, by decide, by decide⟩ plain

end LawX
end Fw
namespace Fw
namespace LawX
theorem tab : Tab lay.T := ⟨by kernel_rfl, by kernel_rfl, by kernel_rfl, by kernel_rfl, by kernel_rfl, by kernel_rfl, by kernel_rfl, by kernel_rfl, by kernel_rfl, by kernel_rfl, by kernel_rfl, by kernel_rfl, by kernel_rfl, by kernel_rfl, by kernel_rfl, by kernel_rfl, by kernel_rfl⟩
end LawX
end Fw
theorem PySem.Challenge.cw_fewregs_k01_words_reckoned_holds : PySem.Challenge.rw_fewregs_k01_words_reckoned.Holds := by
  exact Fw.LawX.law_top _ Fw.LawX.tab.t_law fun ns hl _ => Fw.LawX.plain Fw.LawX.tab ns hl
